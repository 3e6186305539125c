import PyProof.Rows.All
import Wide.All
import OpenK.AllK
import Wide.FinOn
import HandS.ForMost
import HandS.ForExc
import HandS.Wide
import HandS.Codes
import HandS.EndBits
import HandS.MakeKwOnly
import HandS.IsInst
import HandS.FStrTup
import HandS.TupAny
import HandS.Style
import HandS.Star
import KE.KOpsOwn
import PyProof.InstNe
import KE.KCallOwn
import KE.KMethU
import HandS.ClsMeth
import HandS.Zip
import HandS.TupMul
import HandS.OwnEq
import HandS.ExcInit
import HandS.TryOnly
import HandS.Lambda
import HandS.FStr
import HandS.Small
import HandS.SuiteRaise
import HandS.RaiseFrom
import HandS.TryMany
import HandS.Conv
import HandS.ExcIs
import HandS.ExcField
import HandS.ExcValue
import KE.KExcIs
import PyProof.StrBlock2
import HandS.Text
import PyProof.Draws
import HandS.RaiseMore
import KE.KTupSum
import PySem.Challenge.RW_evenrules_k31_tall_shapes_and_halves
set_option Elab.async false
set_option linter.all false
set_option maxRecDepth 100000
set_option pp.maxSteps 1500
set_option pp.deepTerms false
set_option maxHeartbeats 4000000
namespace Ev
open PySem L2
theorem get_new {H : Hp} {p q : Addr} {o u : HO} (h : H q = some o) (hp : H p = none) : upd H p u q = some o := (upd_ne (ne_of_none h hp)).trans h
theorem get_ne {H : Hp} {p q : Addr} {o u : HO} (hn : q ≠ p) (h : H q = some o) : upd H p u q = some o := (upd_ne hn).trans h
def But (p : Addr) (H H' : Hp) : Prop := ∀ b o, H b = some o → b ≠ p → H' b = some o
theorem But.refl (p : Addr) (H : Hp) : But p H H := fun _ _ h _ => h
theorem But.trans {p : Addr} {H H1 H2 : Hp} (a : But p H H1) (b : But p H1 H2) : But p H H2 := fun c o h n => b c o (a c o h n) n
theorem But.new {p q : Addr} {H H1 : Hp} {o : HO} (a : But p H H1) (h : H1 q = none) : But p H (upd H1 q o) := fun c u e n => get_new (a c u e n) h
theorem But.set {p : Addr} {H H1 : Hp} {o : HO} (a : But p H H1) : But p H (upd H1 p o) := fun c u e n => get_ne n (a c u e n)
theorem dpa_ints (K : PySem.W.Frag) (H : Hp) : ∀ ns : List Int, DpAll K H (ns.map V.int) (ns.map PyData.int)
  | [] => .nil
  | n :: r => .cons (.int n) (dpa_ints K H r)
theorem dp_ints {K : PySem.W.Frag} {H : Hp} {a : Addr} {ns : List Int} (h : SqL K H a (ns.map V.int)) : Dp K H (.ref a) (.list (ns.map PyData.int)) := .lst h (dpa_ints K H ns)
theorem can_ints : ∀ ns : List Int, PyData.canLayAll0 (ns.map PyData.int) = true
  | [] => rfl
  | n :: r => by
    show (PyData.canLay0 (PyData.int n) && PyData.canLayAll0 (r.map PyData.int)) = true
    rw [can_ints r]
    rfl
theorem dep_ints : ∀ ns : List Int, PyData.depthAll (ns.map PyData.int) ≤ 1
  | [] => Nat.zero_le _
  | n :: r => by
    have ih := dep_ints r
    have e : PyData.depthAll ((n :: r).map PyData.int) = max (PyData.depth (PyData.int n)) (PyData.depthAll (r.map PyData.int)) := rfl
    have z : PyData.depth (PyData.int n) ≤ 1 := by
      first
        | exact Nat.zero_le _
        | exact Nat.le_refl _
        | decide
    rw [e]
    omega
theorem sh_ints (ns : List Int) : SeqAt.shaped (.list (ns.map PyData.int)) = true := by
  have h1 := can_ints ns
  have h2 := dep_ints ns
  have e : PyData.depth (.list (ns.map PyData.int)) ≤ 64 := by
    have q : PyData.depth (.list (ns.map PyData.int)) ≤ PyData.depthAll (ns.map PyData.int) + 1 := by
      first
        | exact Nat.le_refl _
        | (simp only [PyData.depth]; omega)
    omega
  show (PyData.canLay0 (.list (ns.map PyData.int)) && decide (PyData.depth (.list (ns.map PyData.int)) ≤ 64)) = true
  rw [decide_eq_true e, Bool.and_true]
  exact h1
theorem eqv_ints : ∀ ns ms : List Int, PyData.eqvAll (ns.map PyData.int) (ms.map PyData.int) = decide (ns = ms)
  | [], [] => rfl
  | [], _ :: _ => by simp [PyData.eqvAll]
  | _ :: _, [] => by simp [PyData.eqvAll]
  | n :: r, m :: t => by
    show (PyData.eqv (PyData.int n) (PyData.int m) && PyData.eqvAll (r.map PyData.int) (t.map PyData.int)) = _
    rw [eqv_ints r t]
    have e : PyData.eqv (PyData.int n) (PyData.int m) = (n == m) := rfl
    rw [e]
    by_cases h : n = m
    · subst h
      by_cases h2 : r = t
      · subst h2
        simp
      · simp [h2]
    · simp [h]
theorem ne_ints {K : PySem.W.Frag} {H : Hp} {a b : Addr} {ns ms : List Int} {Q : VK} (ha : SqL K H a (ns.map V.int)) (hb : SqL K H b (ms.map V.int)) (q : Q (.bl (!decide (ns = ms))) H) : rNeD K (.ref a) (.ref b) H Q := by
  refine ⟨_, _, dp_ints ha, dp_ints hb, sh_ints ns, sh_ints ms, ?_⟩
  have e : PyData.eqv (.list (ns.map PyData.int)) (.list (ms.map PyData.int)) = decide (ns = ms) := eqv_ints ns ms
  rw [e]
  exact q
theorem eq_ints {K : PySem.W.Frag} {H : Hp} {a b : Addr} {ns ms : List Int} {Q : VK} (ha : SqL K H a (ns.map V.int)) (hb : SqL K H b (ms.map V.int)) (q : Q (.bl (decide (ns = ms))) H) : rEqD K (.ref a) (.ref b) H Q := by
  refine ⟨_, _, dp_ints ha, dp_ints hb, sh_ints ns, sh_ints ms, ?_⟩
  have e : PyData.eqv (.list (ns.map PyData.int)) (.list (ms.map PyData.int)) = decide (ns = ms) := eqv_ints ns ms
  rw [e]
  exact q
theorem at_int {ns : List Int} {i : Int} (h0 : 0 ≤ i) (h1 : i < ns.length) : ∃ z ∈ ns, atI (ns.map V.int) i = some (.int z) := by
  have hj : i.toNat < ns.length := by omega
  refine ⟨ns[i.toNat], List.getElem_mem hj, ?_⟩
  refine at_of (j := i.toNat) (by omega) ?_
  rw [List.getElem?_map, List.getElem?_eq_getElem hj]
  rfl
theorem cut_ints (ns : List Int) (lo hi : Option Int) : ∃ ms : List Int, cutV (ns.map V.int) lo hi = ms.map V.int ∧ ms.length ≤ ns.length ∧ ∀ z ∈ ms, z ∈ ns := by
  refine ⟨(ns.drop (HT.sIx (ns.map V.int).length 0 lo)).take (HT.sIx (ns.map V.int).length (ns.map V.int).length hi - HT.sIx (ns.map V.int).length 0 lo), ?_, ?_, fun z hz => List.mem_of_mem_drop (List.mem_of_mem_take hz)⟩
  · unfold cutV
    rw [List.map_take, List.map_drop]
  · rw [List.length_take, List.length_drop]
    omega
def Pen (H : Hp) (p c : Addr) (n : Int) : Prop := ∃ (t g : Int) (ns : List Int), H p = some (.lst [.ref c, .int t, .int g]) ∧ H c = some (.lst (ns.map V.int)) ∧ 0 ≤ t ∧ t ≤ n ∧ 0 ≤ g ∧ c ≠ p ∧ ns.length ≤ 63
theorem Pen.ne {H : Hp} {p c t : Addr} {n : Int} (h : Pen H p c n) (ht : H t = none) : t ≠ p := by
  obtain ⟨a, b, ns, e, _⟩ := h
  exact (ne_of_none e ht).symm
theorem Pen.neC {H : Hp} {p c t : Addr} {n : Int} (h : Pen H p c n) (ht : H t = none) : t ≠ c := by
  obtain ⟨a, b, ns, _, e, _⟩ := h
  exact (ne_of_none e ht).symm
theorem Pen.mono {H : Hp} {p c : Addr} {n m : Int} (h : Pen H p c n) (l : n ≤ m) : Pen H p c m := by
  obtain ⟨a, b, ns, e1, e2, e3, e4, e5⟩ := h
  exact ⟨a, b, ns, e1, e2, e3, by omega, e5⟩
theorem Pen.same {H H1 : Hp} {p c : Addr} {n : Int} (h : Pen H p c n) (s : Same H H1) : Pen H1 p c n := by
  obtain ⟨a, b, ns, e1, e2, r⟩ := h
  exact ⟨a, b, ns, s _ _ e1, s _ _ e2, r⟩
theorem Pen.new {H : Hp} {p c t : Addr} {n : Int} {o : HO} (h : Pen H p c n) (ht : H t = none) : Pen (upd H t o) p c n := h.same fun _ _ e => get_new e ht
theorem Pen.set {H : Hp} {p c t : Addr} {n : Int} {o : HO} (h : Pen H p c n) (h1 : t ≠ p) (h2 : t ≠ c) : Pen (upd H t o) p c n := by
  obtain ⟨a, b, ns, e1, e2, r⟩ := h
  exact ⟨a, b, ns, get_ne h1.symm e1, get_ne h2.symm e2, r⟩
theorem Pen.but {H H1 : Hp} {p c x : Addr} {n : Int} (h : Pen H p c n) (s : But x H H1) (h1 : p ≠ x) (h2 : c ≠ x) : Pen H1 p c n := by
  obtain ⟨a, b, ns, e1, e2, r⟩ := h
  exact ⟨a, b, ns, s _ _ e1 h1, s _ _ e2 h2, r⟩
theorem But.free {p t : Addr} {H H1 : Hp} (b : But p H H1) (h : H1 t = none) (n : t ≠ p) : H t = none := by
  cases z : H t with
  | none => rfl
  | some o =>
    rw [b t o z n] at h
    cases h
theorem get_but {p q : Addr} {H H1 : Hp} {o : HO} (b : But p H H1) (hn : q ≠ p) (h : H q = some o) : H1 q = some o := b q o h hn
theorem get_same {q : Addr} {H H1 : Hp} {o : HO} (b : Same H H1) (h : H q = some o) : H1 q = some o := b q o h
theorem len_putF {f : Str} {y : V} {fs : List (Str × V)} {n : Nat} (h : fs.length ≤ n) : (putF f y fs).length ≤ n + 1 := Nat.le_trans (length_putF f y fs) (Nat.succ_le_succ h)
theorem free_back {H H1 : Hp} {p : Addr} (a : Same H H1) (h : H1 p = none) : H p = none := a.free h
theorem ne_new {H : Hp} {p q : Addr} {o : HO} (h : upd H p o q = none) : q ≠ p := fun z => by
  subst z
  rw [upd_same] at h
  cases h
theorem free_upd {H : Hp} {p q : Addr} {o : HO} (h : upd H p o q = none) : H q = none := by
  have := upd_ne (H := H) (o := o) (ne_new h)
  rw [this] at h
  exact h
theorem rel_int {i : Int} {t : Tok} : RelV (.int i) (.int i t) := ⟨t, rfl⟩
theorem rel_str {x : Str} {t : Tok} : RelV (.str x) (.str x t) := ⟨t, rfl⟩
theorem mul_lt {a b m n : Int} (a0 : 0 ≤ a) (b0 : 0 ≤ b) (h1 : a < m) (h2 : b < n) : 0 ≤ a * b ∧ a * b < m * n := by
  refine ⟨Int.mul_nonneg a0 b0, ?_⟩
  exact Int.lt_of_le_of_lt (Int.mul_le_mul_of_nonneg_left (Int.le_of_lt h2) a0) (Int.mul_lt_mul_of_pos_right h1 (by omega))
theorem pow3 {y t c e k : Int} (y0 : 0 ≤ y) (y1 : y < 2147483648) (t0 : 0 ≤ t) (t1 : t ≤ 100000) (c0 : 0 ≤ c) (c1 : c ≤ 1000000) (k0 : 0 ≤ k) (k1 : k ≤ 1000000) (e0 : 0 ≤ e) (e1 : e ≤ 1000000) : CPow (y * (2 * t + c) + k * t * t + e) 3 := by
  have a := mul_lt y0 (show 0 ≤ 2 * t + c by omega) y1 (show 2 * t + c < 2097152 by omega)
  have b := mul_lt k0 t0 (show k < 1048576 by omega) (show t < 131072 by omega)
  have d := mul_lt b.1 t0 b.2 (show t < 131072 by omega)
  refine ⟨by decide, by decide, ?_⟩
  omega
theorem great_nn {a B : Int} {b : Bool} (h : B ≤ a) : 0 ≤ 2 * (a - B) + (if b = true then 1 else 0) := by
  split <;> omega
end Ev
namespace Ev
open PySem PySem.Spec PyProof.Rows L2
theorem _root_.L2.Room.un0 {k : Nat} {A : Around} (r : Room k A) : A.units + 200 < cLine := by
  have := r.un
  omega
structure GOk (P : Program) (w : World) (K : PySem.W.Frag) (mg : Str → Option Value) (base : Heap) (CX : CXT) (k : Nat) (f : Addr) (fd : FuncData) (ps : List Str) (sp : Sp) : Prop where
  len : ∀ vs H Q E, sp vs H Q E → vs.length = ps.length
  run : ∀ (A : Around) (outer : List Env) (s : Shared) (H : Hp) (args : Args) (us : List Value) (vs : List V) (Q : VK) (E : XK),
    A.guards = some [] → Room k A → Env0 P w K mg base A outer s H → BindsTo s fd args (ps.zip us) → Vals vs us → sp vs H Q E →
    codeAny (model P w) A (.call (.ref f) args) (CR CX outer P w H s Q E) s
theorem GOk.of {P : Program} {w : World} {K : PySem.W.Frag} {mg : Str → Option Value} {base : Heap} {CX : CXT} {k : Nat} {f : Addr} {fd : FuncData} {ps : List Str} {sp : Sp}
    (F : FnOk P w K mg base CX k f fd ps sp) : GOk P w K mg base CX k f fd ps sp := ⟨F.len, fun A o s H a us vs Q E _ hr => F.run A o s H a us vs Q E hr⟩
theorem GOk.mono {P : Program} {w : World} {K : PySem.W.Frag} {mg : Str → Option Value} {base : Heap} {CX : CXT} {j k : Nat} {f : Addr} {fd : FuncData} {ps : List Str} {sp : Sp}
    (F : GOk P w K mg base CX j f fd ps sp) (h : j ≤ k) : GOk P w K mg base CX k f fd ps sp := ⟨F.len, fun A o s H a us vs Q E g hr => F.run A o s H a us vs Q E g (hr.mono h)⟩
theorem GOk.imp {P : Program} {w : World} {K : PySem.W.Frag} {mg : Str → Option Value} {base : Heap} {CX : CXT} {k : Nat} {f : Addr} {fd : FuncData} {ps : List Str} {sp sp' : Sp}
    (F : GOk P w K mg base CX k f fd ps sp) (h : ∀ vs H Q E, sp' vs H Q E → sp vs H Q E) : GOk P w K mg base CX k f fd ps sp' :=
  ⟨fun vs H Q E q => F.len vs H Q E (h _ _ _ _ q), fun A o s H a us vs Q E g hr e0 hb hv q => F.run A o s H a us vs Q E g hr e0 hb hv (h _ _ _ _ q)⟩
structure Fn (K : PySem.W.Frag) (x qual : Str) (st : Stmt) (f : Addr) (fd : FuncData) : Prop where
  ex : ∃ (oc : Value) (od : Option Addr) (dV kV doc pm : Value) (an : Option Addr) (cdv ct : Value) (osl : Array (Option Value)),
    fd = PySem.W.fnOf x qual (C8.fnArgs st) (C8.fnBody st) (C8.fnScope st) dV kV doc pm an cdv ct ∧ K.lookup f = some ⟨oc, od, .func fd, osl⟩ ∧ PySem.W.codeIn K cdv qual = true
theorem gfnX {CX : CXT} {P : Program} {w : World} {K : PySem.W.Frag} {mg : Str → Option Value} {base : Heap} {x qual : Str} {st : Stmt} {f : Addr} {fd : FuncData} {N ps : List Str} {k : Nat} {sp : Sp}
    (F : Fn K x qual st f fd) (S : FnScope N ps (C8.fnScope st)) (len : ∀ vs H Q E, sp vs H Q E → vs.length = ps.length)
    (hbody : ∀ (cdv : Value) (A : Around) (outer : List Env) (s : Shared) (H : Hp) (vs : List V) (Q : VK) (E : XK), fd.code = cdv → (A.deeper (envOfC qual (C8.fnScope st) s.heap.objs.size f cdv)).guards = some [] →
      Room k (A.deeper (envOfC qual (C8.fnScope st) s.heap.objs.size f cdv)) → sp vs H Q E →
      ∃ t, PSs (cxOf CX P w K mg base N qual (C8.fnScope st) f cdv A outer s H E) (C8.fnBody st) t ∧ t { nx := fun _ H' => Q .non H', rt := Q } (start N vs) H) :
    GOk P w K mg base CX (k + 1) f fd ps sp := by
  obtain ⟨oc, od, dV, kV, doc, pm, an, cdv, ct, osl, rfl, lk, hcd⟩ := F.ex
  refine ⟨len, fun A outer s H args us vs Q E hgd hr e0 hb r hsp => ?_⟩
  have KX : K.In s.heap := e0.mod.kin.keeps (fun b o z => (e0.bs b o z).1)
  have lim : s.heap.NoLimit := e0.mod.nolimit.keeps (fun b o z => (e0.bs b o z).1)
  have kinds : ∀ y ∈ ps.zip us, (C8.fnScope st).names.lookup y.1 = some .local ∨
      ((C8.fnScope st).names.lookup y.1 = some .cell ∧ ((cellsFrom (s.heap.objs.size + 1) (C8.fnScope st).names []).lookup y.1).isSome = true) := by
    rintro ⟨n, v⟩ hy
    cases S.par n (List.of_mem_zip hy).1 with
    | inl z => exact Or.inl z
    | inr z => exact Or.inr ⟨z, PySem.W.cellsFrom_some _ _ _ (Or.inl z)⟩
  refine codeAny_call_function hr.depth (KX _ _ lk) rfl S.co S.gen rfl (PySem.W.codeRec_of KX hcd) (hb _ _ _ _ ?_)
  refine wpAny_newFunctionEnv_cells S.kind kinds (fun env he s1 x => ?_)
  cases he
  refine ⟨lim.keeps x.toInCall.keep, codeAny_func ?_⟩
  obtain ⟨t, ht, hq⟩ := hbody cdv A outer s H vs Q E rfl hgd (hr.deeper _) hsp
  refine wpAny_mono (ht.run [] s1 (start N vs) H _ (inv_start S hr.hd e0 (len _ _ _ _ hsp) r x) hq) (fun fl s' hs => ?_) (fun e s' z => z)
  cases fl with
  | ret u => exact let ⟨v, _, H', J, rv, q⟩ := hs; ⟨v, H', J.os, J.bare, J.base, J.hok, rv, q⟩
  | next => exact let ⟨_, H', J, q⟩ := hs; ⟨V.non, H', J.os, J.bare, J.base, J.hok, rfl, q⟩
  | brk => exact let ⟨_, _, _, q⟩ := hs; False.elim q
  | cont => exact let ⟨_, _, _, q⟩ := hs; False.elim q
theorem gfn0 {CX : CXT} {P : Program} {w : World} {K : PySem.W.Frag} {mg : Str → Option Value} {base : Heap} {x qual : Str} {st : Stmt} {f : Addr} {fd : FuncData} {N ps : List Str} {k : Nat} {sp : Sp}
    (F : Fn K x qual st f fd) (S : FnScope N ps (C8.fnScope st)) (len : ∀ vs H Q E, sp vs H Q E → vs.length = ps.length)
    (hbody : ∀ (cdv : Value) (A : Around) (outer : List Env) (s : Shared) (H : Hp) (vs : List V) (Q : VK) (E : XK), (A.deeper (envOfC qual (C8.fnScope st) s.heap.objs.size f cdv)).guards = some [] →
      Room k (A.deeper (envOfC qual (C8.fnScope st) s.heap.objs.size f cdv)) → sp vs H Q E →
      ∃ t, PSs (cxOf CX P w K mg base N qual (C8.fnScope st) f cdv A outer s H E).nox (C8.fnBody st) t ∧ t { nx := fun _ H' => Q .non H', rt := Q } (start N vs) H) :
    GOk P w K mg base CX (k + 1) f fd ps sp :=
  gfnX F S len fun cdv A outer s H vs Q E _ hgd hr h => let ⟨t, a, b⟩ := hbody cdv A outer s H vs Q E hgd hr h; ⟨t, a.nox, b⟩
theorem gfn0c {CX : CXT} {P : Program} {w : World} {K : PySem.W.Frag} {mg : Str → Option Value} {base : Heap} {x qual : Str} {st : Stmt} {f : Addr} {fd : FuncData} {N ps : List Str} {k : Nat} {sp : Sp}
    (F : Fn K x qual st f fd) (S : FnScope N ps (C8.fnScope st)) (len : ∀ vs H Q E, sp vs H Q E → vs.length = ps.length)
    (hbody : ∀ (cdv : Value) (A : Around) (outer : List Env) (s : Shared) (H : Hp) (vs : List V) (Q : VK) (E : XK), fd.code = cdv → (A.deeper (envOfC qual (C8.fnScope st) s.heap.objs.size f cdv)).guards = some [] →
      Room k (A.deeper (envOfC qual (C8.fnScope st) s.heap.objs.size f cdv)) → sp vs H Q E →
      ∃ t, PSs (cxOf CX P w K mg base N qual (C8.fnScope st) f cdv A outer s H E).nox (C8.fnBody st) t ∧ t { nx := fun _ H' => Q .non H', rt := Q } (start N vs) H) :
    GOk P w K mg base CX (k + 1) f fd ps sp :=
  gfnX F S len fun cdv A outer s H vs Q E hc hgd hr h => let ⟨t, a, b⟩ := hbody cdv A outer s H vs Q E hc hgd hr h; ⟨t, a.nox, b⟩
section
variable {X : Cx} {CX : CXT} {k : Nat} {f C : Addr} {fd : FuncData} {ps ks : List Str} {sp : Sp} {dvs : List V} {ds : List Value} {E : XK} {x m : Str} {p pos apos : Pos} {e o : Expr} {es : List Expr} {ta : TE} {t tk : TA} {kws : List Keyword} {n : Nat}
  {g : List Value → List Value → List Value} {gV : List V → List V → List V}
theorem run_g {pins : List (Addr × Obj)} {σ : L2.St} {H : Hp} {s : Shared} {Q : VK} {us ws bs : List Value} {zs : List V} (F : GOk X.prog X.w X.K X.mg X.base CX k f fd ps sp) (hgd : X.A.guards = some []) (hr : Room k X.A) (hx : Passes CX X E)
    (I : Inv X pins σ H s) (hb : BindsTo s fd ⟨us, ks.zip ws⟩ (ps.zip bs)) (r : Vals zs bs) (h : sp zs H Q E) : wpAny (model X.prog X.w) X.A (call (.ref f) us (ks.zip ws)) (EP X pins σ Q) X.xe s := by
  refine wpAny_call (codeAny_mono (F.run X.A X.stack s H ⟨us, ks.zip ws⟩ bs zs Q E hgd hr I.env0 hb r h) fun res s' hq => ?_)
  match res, hq with
  | .error e, hq => exact hx pins σ H s e s' I hq
  | .ok (.ret u), hq => exact I.after hq
  | .ok .next, hq => exact hq.elim
  | .ok .brk, hq => exact hq.elim
  | .ok .cont, hq => exact hq.elim
theorem run_gp {pins : List (Addr × Obj)} {σ : L2.St} {H : Hp} {s : Shared} {Q : VK} {us : List Value} {vs : List V} (F : GOk X.prog X.w X.K X.mg X.base CX k f fd ps sp) (hgd : X.A.guards = some []) (hr : Room k X.A) (hb : Binds X.K fd ps ds) (hd : Vals dvs ds) (hx : Passes CX X E)
    (I : Inv X pins σ H s) (r : Vals vs us) (h : sp (vs ++ dvs) H Q E) : wpAny (model X.prog X.w) X.A (call (.ref f) us) (EP X pins σ Q) X.xe s := by
  have r2 : Vals (vs ++ dvs) (us ++ ds) := r.append hd
  have hl : (us ++ ds).length = ps.length := r2.length.symm.trans (F.len _ _ _ _ h)
  exact run_g (ks := []) (ws := []) F hgd hr hx I (hb s us I.kIn hl) r2 h
theorem run_gk {pins : List (Addr × Obj)} {σ : L2.St} {H : Hp} {s : Shared} {Q : VK} {us ws : List Value} {vs zs : List V} (F : GOk X.prog X.w X.K X.mg X.base CX k f fd ps sp) (hgd : X.A.guards = some []) (hr : Room k X.A) (hb : KBn X.K fd ps n ks g gV) (hx : Passes CX X E)
    (I : Inv X pins σ H s) (r : Vals vs us) (rz : Vals zs ws) (l1 : vs.length = n) (l2 : zs.length = ks.length) (h : sp (gV vs zs) H Q E) : wpAny (model X.prog X.w) X.A (call (.ref f) us (ks.zip ws)) (EP X pins σ Q) X.xe s :=
  run_g F hgd hr hx I (hb.to s us ws I.kIn (r.length.symm.trans l1) (rz.length.symm.trans l2)) (hb.rel r rz) h
theorem pe_g (F : GOk X.prog X.w X.K X.mg X.base CX k f fd ps sp) (hgd : X.A.guards = some []) (hr : Room k X.A) (hg : Gl X x) (hm : X.mg x = some (.ref f)) (hk : PySem.W.keepIn X.K (.ref f) = true) (hb : Binds X.K fd ps ds) (hd : Vals dvs ds) (hx : Passes CX X E)
    (ha : PA X (e :: es) t) (hdb : (x == ("__debug__" : Str)) = false := by decide) (he : starEach (e :: es) X.env = (false, eval e X.env) :: starEach es X.env := by rfl) (hpl : (backTo pos (starEach es X.env)).any (·.1) = false := by rfl) :
    PE X (.Call (.Name x p) (e :: es) [] pos) (tCall sp dvs E t) :=
  ⟨fun pins s σ H Q I h => wpAny_Call_Name_kw (ld_glob I hg hm (PySem.W.callWith_K (h₀ := X.base) I.ok.mod.kin hk
    (thn (ha.run pos pins s σ H _ I h) fun us s1 ⟨vs, H1, I1, r, q⟩ => ⟨I1.kIn, run_gp F hgd hr hb hd hx I1 r q⟩) he hpl) hdb)⟩
theorem pe_g0 (F : GOk X.prog X.w X.K X.mg X.base CX k f fd ps sp) (hgd : X.A.guards = some []) (hr : Room k X.A) (hg : Gl X x) (hm : X.mg x = some (.ref f)) (hk : PySem.W.keepIn X.K (.ref f) = true) (hb : Binds X.K fd ps ds) (hd : Vals dvs ds) (hx : Passes CX X E)
    (hdb : (x == ("__debug__" : Str)) = false := by decide) : PE X (.Call (.Name x p) [] [] pos) (tCall sp dvs E tNil) :=
  ⟨fun pins s σ H Q I h => wpAny_Call_Name_kw (ld_glob I hg hm (PySem.W.callWith_K0 I.kIn hk (run_gp (us := []) F hgd hr hb hd hx I .nil h)) hdb)⟩
def tGK (n m : Nat) (sp : Sp) (gV : List V → List V → List V) (E : XK) (t tk : TA) : TE := fun σ H Q => t σ H fun vs H1 => tk σ H1 fun zs H2 => vs.length = n ∧ zs.length = m ∧ sp (gV vs zs) H2 Q E
theorem pe_gK (F : GOk X.prog X.w X.K X.mg X.base CX k f fd ps sp) (hgd : X.A.guards = some []) (hr : Room k X.A) (hg : Gl X x) (hm : X.mg x = some (.ref f)) (hk : PySem.W.keepIn X.K (.ref f) = true) (hb : KBn X.K fd ps n ks g gV) (hx : Passes CX X E)
    (ha : PA X (e :: es) t) (hkw : PK X kws tk) (hall : (backToKw pos (keywordEach kws X.env)).all (·.1.isSome) = true := by rfl) (hks : (backToKw pos (keywordEach kws X.env)).filterMap (·.1) = ks := by rfl)
    (hdb : (x == ("__debug__" : Str)) = false := by decide) (he : starEach (e :: es) X.env = (false, eval e X.env) :: starEach es X.env := by rfl)
    (hpl : ((backTo pos (starEach (e :: es) X.env)).any (·.1) || (backToKw pos (keywordEach kws X.env)).any (·.1.isNone)) = false := by rfl) :
    PE X (.Call (.Name x p) (e :: es) kws pos) (tGK n ks.length sp gV E t tk) := by
  refine ⟨fun pins s σ H Q I h => wpAny_Call_Name_kw (ld_glob I hg hm (PySem.W.callWith_KW (h₀ := X.base) I.ok.mod.kin hk hall (thn (ha.run pos pins s σ H _ I h) fun us s1 ⟨vs, H1, I1, r, q⟩ => ?_) hpl he) hdb)⟩
  refine thn (hkw.run pos pins s1 σ H1 _ I1 q) fun ws s2 ⟨zs, H2, I2, rz, l1, l2, q2⟩ => ⟨I2.kIn, ?_⟩
  rw [hks]
  exact run_gk F hgd hr hb hx I2 r rz l1 l2 q2
theorem pe_gK0 (F : GOk X.prog X.w X.K X.mg X.base CX k f fd ps sp) (hgd : X.A.guards = some []) (hr : Room k X.A) (hg : Gl X x) (hm : X.mg x = some (.ref f)) (hk : PySem.W.keepIn X.K (.ref f) = true) (hb : KBn X.K fd ps 0 ks g gV) (hx : Passes CX X E)
    (hkw : PK X kws tk) (hall : (backToKw pos (keywordEach kws X.env)).all (·.1.isSome) = true := by rfl) (hks : (backToKw pos (keywordEach kws X.env)).filterMap (·.1) = ks := by rfl)
    (hdb : (x == ("__debug__" : Str)) = false := by decide) (hpl : ((backTo pos (starEach [] X.env)).any (·.1) || (backToKw pos (keywordEach kws X.env)).any (·.1.isNone)) = false := by rfl) :
    PE X (.Call (.Name x p) [] kws pos) (tGK 0 ks.length sp gV E tNil tk) := by
  refine ⟨fun pins s σ H Q I h => wpAny_Call_Name_kw (ld_glob I hg hm (PySem.W.callWith_KW0 (h₀ := X.base) I.ok.mod.kin hk hall ?_ hpl) hdb)⟩
  refine thn (hkw.run pos pins s σ H _ I h) fun ws s2 ⟨zs, H2, I2, rz, l1, l2, q2⟩ => ⟨I2.kIn, ?_⟩
  rw [hks]
  exact run_gk (us := []) (vs := []) F hgd hr hb hx I2 .nil rz rfl l2 q2
theorem pe_gm {pl : Sem Bool} (he : PE X o ta) (c : Cls X.K C) (hm : Meth X.K C m f) (F : GOk X.prog X.w X.K X.mg X.base CX k f fd ps sp) (hgd : X.A.guards = some []) (hr : Room k X.A) (hb : Binds X.K fd ps ds) (hd : Vals dvs ds) (hx : Passes CX X E) (ha : PA X (e :: es) t)
    (hst : starEach (e :: es) X.env = (false, eval e X.env) :: starEach es X.env := by rfl) (hpl : (backTo pos (starEach es X.env)).any (·.1) = false := by rfl)
    (ht : eval (.Call (.Attribute o m apos) (e :: es) [] pos) X.env = (do
      let ov ← eval o X.env
      standAt apos.atName
      let (f, first) ← holding [ov] (getMethod ov m pl)
      callWith pos f first (backTo pos (starEach (e :: es) X.env)) (backToKw pos (keywordEach [] X.env))) := by rfl) :
    PE X (.Call (.Attribute o m apos) (e :: es) [] pos) (tMeth C m sp dvs E ta t) := by
  refine ⟨fun pins s σ H Q I h => PySem.W.methodCall_KW (pl := pl) (thn (he.run pins s σ H _ I h) fun u s1 ⟨x, H1, I1, rx, a, dx, fs, ex, ea, l, q⟩ => ?_) ht⟩
  subst ex
  cases rx
  exact getmeth_ok I1 ea c hm l (PySem.W.callWith_K (first := [.ref a]) (h₀ := X.base) I.ok.mod.kin hm.kp (thn (ha.run pos pins s1 σ H1 _ I1 q) fun us s2 ⟨vs, H2, I2, r, q2⟩ =>
    ⟨I2.kIn, run_gp (us := .ref a :: us) (vs := .ref a :: vs) F hgd hr hb hd hx I2 (.cons rfl r) q2⟩) hst hpl)
theorem pe_gm0 {pl : Sem Bool} (he : PE X o ta) (c : Cls X.K C) (hm : Meth X.K C m f) (F : GOk X.prog X.w X.K X.mg X.base CX k f fd ps sp) (hgd : X.A.guards = some []) (hr : Room k X.A) (hb : Binds X.K fd ps ds) (hd : Vals dvs ds) (hx : Passes CX X E)
    (ht : eval (.Call (.Attribute o m apos) [] [] pos) X.env = (do
      let ov ← eval o X.env
      standAt apos.atName
      let (f, first) ← holding [ov] (getMethod ov m pl)
      callWith pos f first (backTo pos (starEach [] X.env)) (backToKw pos (keywordEach [] X.env))) := by rfl) :
    PE X (.Call (.Attribute o m apos) [] [] pos) (tMeth C m sp dvs E ta tNil) := by
  refine ⟨fun pins s σ H Q I h => PySem.W.methodCall_KW (pl := pl) (thn (he.run pins s σ H _ I h) fun u s1 ⟨x, H1, I1, rx, a, dx, fs, ex, ea, l, q⟩ => ?_) ht⟩
  subst ex
  cases rx
  exact getmeth_ok I1 ea c hm l (PySem.W.callWith_K0 (first := [.ref a]) I1.kIn hm.kp (run_gp (us := [.ref a]) (vs := [.ref a]) F hgd hr hb hd hx I1 (.cons rfl .nil) q))
theorem guards_make {A : Around} (h : A.guards = some []) (us : List Value) (kw : List (Str × Value)) : (A.under (.builtin "type.__call__" ⟨.ref C :: us, kw⟩)).guards = some [] := by
  first
    | (simp [Around.under, h, pushGuards, Code.guards, Code.isGuard, guardIds]; done)
    | (unfold Around.under; simp [h, pushGuards, Code.guards, Code.isGuard, guardIds]; done)
    | (simp only [Around.under, h]; rfl)
theorem run_gmake {pins : List (Addr × Obj)} {σ : L2.St} {H : Hp} {s : Shared} {Q : VK} {us ws bs : List Value} {vs zs : List V} (M : Mk X.K C f) (F : GOk X.prog X.w X.K X.mg X.base CX k f fd ps sp) (hgd : X.A.guards = some []) (hr : Room (k + 1) X.A) (hx : Passes CX X E)
    (I : Inv X pins σ H s) (hb : ∀ (s' : Shared) (v : Value), X.K.In s'.heap → BindsTo s' fd ⟨v :: us, ks.zip ws⟩ (ps.zip (v :: bs))) (r : Vals zs bs)
    (h : ∀ x dx, H x = none → H dx = none → dx ≠ x → sp (.ref x :: zs) (upd (upd H dx (.own x)) x (.ins C dx [])) (fun v H2 => v = .non ∧ Q (.ref x) H2) E) :
    wpAny (model X.prog X.w) X.A (call (.ref C) us (ks.zip ws)) (EP X pins σ Q) X.xe s := by
  have hq := h (s.heap.objs.size + 1) s.heap.objs.size (I.hok.fresh (Nat.le_succ _)) (I.hok.fresh (Nat.le_refl _)) (Nat.ne_of_lt (Nat.lt_succ_self _))
  have J := Inv.made (C := C) I
  have rr : Vals (V.ref (s.heap.objs.size + 1) :: zs) (Value.ref (s.heap.objs.size + 1) :: bs) := .cons rfl r
  refine wpAny_call (make_map (f := f) I.kIn M.makes M.init (beq_iff_eq.mp M.fn) (codeAny_mono (F.run _ X.stack _ _ ⟨.ref (s.heap.objs.size + 1) :: us, ks.zip ws⟩ (.ref (s.heap.objs.size + 1) :: bs) _ _ E (guards_make hgd us (ks.zip ws)) (hr.make C us (ks.zip ws))
    (J.env0.make C us (ks.zip ws)) (hb _ _ J.kIn) rr hq) fun res s' hq' => ?_))
  match res, hq' with
  | .error e, z => exact hx pins σ _ _ e s' J z
  | .ok (.ret u), z =>
    obtain ⟨v, H', I3, rv, ev, q3⟩ := J.after z
    subst ev
    exact ⟨rv, .ref (s.heap.objs.size + 1), H', I3, rfl, q3⟩
  | .ok .next, z => exact z.elim
  | .ok .brk, z => exact z.elim
  | .ok .cont, z => exact z.elim
end
end Ev
namespace Ev
open PySem PySem.Spec PyProof.Rows L2
section
variable (P : Program) (w : World) (K : PySem.W.Frag) (mg : Str → Option Value) (base : Heap)
structure GC (k : Nat) (x : Str) (sp : Sp) (dvs : List V) : Prop where
  ex : ∃ (f : Addr) (fd : FuncData) (ps : List Str) (ds : List Value), GOk P w K mg base (L2.CX P w) k f fd ps sp ∧ mg x = some (.ref f) ∧ PySem.W.keepIn K (.ref f) = true ∧ Binds K fd ps ds ∧ Vals dvs ds
structure GCK (k : Nat) (x : Str) (sp : Sp) (n : Nat) (ks : List Str) (gV : List V → List V → List V) : Prop where
  ex : ∃ (f : Addr) (fd : FuncData) (ps : List Str) (g : List Value → List Value → List Value), GOk P w K mg base (L2.CX P w) k f fd ps sp ∧ mg x = some (.ref f) ∧ PySem.W.keepIn K (.ref f) = true ∧ KBn K fd ps n ks g gV
structure GM (k : Nat) (C : Addr) (m : Str) (sp : Sp) (dvs : List V) : Prop where
  ex : ∃ (f : Addr) (fd : FuncData) (ps : List Str) (ds : List Value), Cls K C ∧ Meth K C m f ∧ GOk P w K mg base (L2.CX P w) k f fd ps sp ∧ Binds K fd ps ds ∧ Vals dvs ds
structure GN (k : Nat) (x : Str) (C : Addr) (sp : Sp) (n : Nat) (ks : List Str) (gV : List V → List V → List V) : Prop where
  ex : ∃ (f : Addr) (fd : FuncData) (ps : List Str) (g : List Value → List Value → List Value), Mk K C f ∧ GOk P w K mg base (L2.CX P w) k f fd ps sp ∧ mg x = some (.ref C) ∧ KBn K fd ps (n + 1) ks g gV
end
section
variable {X : Cx} {k j n : Nat} {C : Addr} {x m : Str} {sp : Sp} {dvs : List V} {E : XK} {p pos apos : Pos} {e o : Expr} {es : List Expr} {ta : TE} {t tk : TA} {kws : List Keyword} {ks : List Str} {gV : List V → List V → List V}
theorem pe_cE (c : GC X.prog X.w X.K X.mg X.base k x sp dvs) (hgd : X.A.guards = some []) (hr : Room j X.A) (hk : k ≤ j) (hx : Passes (L2.CX X.prog X.w) X E) (hg : Gl X x) (ha : PA X (e :: es) t)
    (hdb : (x == ("__debug__" : Str)) = false := by decide) (he : starEach (e :: es) X.env = (false, eval e X.env) :: starEach es X.env := by rfl) (hpl : (backTo pos (starEach es X.env)).any (·.1) = false := by rfl) :
    PE X (.Call (.Name x p) (e :: es) [] pos) (tCall sp dvs E t) :=
  let ⟨_, _, _, _, F, hm, kp, b, d⟩ := c.ex
  pe_g F hgd (hr.mono hk) hg hm kp b d hx ha hdb he hpl
theorem pe_c (c : GC X.prog X.w X.K X.mg X.base k x sp dvs) (hgd : X.A.guards = some []) (hr : Room j X.A) (hk : k ≤ j) (hg : Gl X x) (ha : PA X (e :: es) t)
    (hdb : (x == ("__debug__" : Str)) = false := by decide) (he : starEach (e :: es) X.env = (false, eval e X.env) :: starEach es X.env := by rfl) (hpl : (backTo pos (starEach es X.env)).any (·.1) = false := by rfl) :
    PE X (.Call (.Name x p) (e :: es) [] pos) (tCall sp dvs E0 t) := pe_cE c hgd hr hk passL hg ha hdb he hpl
theorem pe_c0E (c : GC X.prog X.w X.K X.mg X.base k x sp dvs) (hgd : X.A.guards = some []) (hr : Room j X.A) (hk : k ≤ j) (hx : Passes (L2.CX X.prog X.w) X E) (hg : Gl X x)
    (hdb : (x == ("__debug__" : Str)) = false := by decide) : PE X (.Call (.Name x p) [] [] pos) (tCall sp dvs E tNil) :=
  let ⟨_, _, _, _, F, hm, kp, b, d⟩ := c.ex
  pe_g0 F hgd (hr.mono hk) hg hm kp b d hx hdb
theorem pe_c0 (c : GC X.prog X.w X.K X.mg X.base k x sp dvs) (hgd : X.A.guards = some []) (hr : Room j X.A) (hk : k ≤ j) (hg : Gl X x)
    (hdb : (x == ("__debug__" : Str)) = false := by decide) : PE X (.Call (.Name x p) [] [] pos) (tCall sp dvs E0 tNil) := pe_c0E c hgd hr hk passL hg hdb
theorem pe_cKE (c : GCK X.prog X.w X.K X.mg X.base k x sp n ks gV) (hgd : X.A.guards = some []) (hr : Room j X.A) (hk : k ≤ j) (hx : Passes (L2.CX X.prog X.w) X E) (hg : Gl X x)
    (ha : PA X (e :: es) t) (hkw : PK X kws tk) (hall : (backToKw pos (keywordEach kws X.env)).all (·.1.isSome) = true := by rfl) (hks : (backToKw pos (keywordEach kws X.env)).filterMap (·.1) = ks := by rfl)
    (hdb : (x == ("__debug__" : Str)) = false := by decide) (he : starEach (e :: es) X.env = (false, eval e X.env) :: starEach es X.env := by rfl)
    (hpl : ((backTo pos (starEach (e :: es) X.env)).any (·.1) || (backToKw pos (keywordEach kws X.env)).any (·.1.isNone)) = false := by rfl) :
    PE X (.Call (.Name x p) (e :: es) kws pos) (tGK n ks.length sp gV E t tk) :=
  let ⟨_, _, _, _, F, hm, kp, b⟩ := c.ex
  pe_gK F hgd (hr.mono hk) hg hm kp b hx ha hkw hall hks hdb he hpl
theorem pe_cK (c : GCK X.prog X.w X.K X.mg X.base k x sp n ks gV) (hgd : X.A.guards = some []) (hr : Room j X.A) (hk : k ≤ j) (hg : Gl X x)
    (ha : PA X (e :: es) t) (hkw : PK X kws tk) (hall : (backToKw pos (keywordEach kws X.env)).all (·.1.isSome) = true := by rfl) (hks : (backToKw pos (keywordEach kws X.env)).filterMap (·.1) = ks := by rfl)
    (hdb : (x == ("__debug__" : Str)) = false := by decide) (he : starEach (e :: es) X.env = (false, eval e X.env) :: starEach es X.env := by rfl)
    (hpl : ((backTo pos (starEach (e :: es) X.env)).any (·.1) || (backToKw pos (keywordEach kws X.env)).any (·.1.isNone)) = false := by rfl) :
    PE X (.Call (.Name x p) (e :: es) kws pos) (tGK n ks.length sp gV E0 t tk) := pe_cKE c hgd hr hk passL hg ha hkw hall hks hdb he hpl
theorem pe_cK0E (c : GCK X.prog X.w X.K X.mg X.base k x sp 0 ks gV) (hgd : X.A.guards = some []) (hr : Room j X.A) (hk : k ≤ j) (hx : Passes (L2.CX X.prog X.w) X E) (hg : Gl X x)
    (hkw : PK X kws tk) (hall : (backToKw pos (keywordEach kws X.env)).all (·.1.isSome) = true := by rfl) (hks : (backToKw pos (keywordEach kws X.env)).filterMap (·.1) = ks := by rfl)
    (hdb : (x == ("__debug__" : Str)) = false := by decide) (hpl : ((backTo pos (starEach [] X.env)).any (·.1) || (backToKw pos (keywordEach kws X.env)).any (·.1.isNone)) = false := by rfl) :
    PE X (.Call (.Name x p) [] kws pos) (tGK 0 ks.length sp gV E tNil tk) :=
  let ⟨_, _, _, _, F, hm, kp, b⟩ := c.ex
  pe_gK0 F hgd (hr.mono hk) hg hm kp b hx hkw hall hks hdb hpl
theorem pe_cK0 (c : GCK X.prog X.w X.K X.mg X.base k x sp 0 ks gV) (hgd : X.A.guards = some []) (hr : Room j X.A) (hk : k ≤ j) (hg : Gl X x)
    (hkw : PK X kws tk) (hall : (backToKw pos (keywordEach kws X.env)).all (·.1.isSome) = true := by rfl) (hks : (backToKw pos (keywordEach kws X.env)).filterMap (·.1) = ks := by rfl)
    (hdb : (x == ("__debug__" : Str)) = false := by decide) (hpl : ((backTo pos (starEach [] X.env)).any (·.1) || (backToKw pos (keywordEach kws X.env)).any (·.1.isNone)) = false := by rfl) :
    PE X (.Call (.Name x p) [] kws pos) (tGK 0 ks.length sp gV E0 tNil tk) := pe_cK0E c hgd hr hk passL hg hkw hall hks hdb hpl
theorem pe_mE {pl : Sem Bool} (c : GM X.prog X.w X.K X.mg X.base k C m sp dvs) (hgd : X.A.guards = some []) (hr : Room j X.A) (hk : k ≤ j) (hx : Passes (L2.CX X.prog X.w) X E) (he : PE X o ta) (ha : PA X (e :: es) t)
    (hst : starEach (e :: es) X.env = (false, eval e X.env) :: starEach es X.env := by rfl) (hpl : (backTo pos (starEach es X.env)).any (·.1) = false := by rfl)
    (ht : eval (.Call (.Attribute o m apos) (e :: es) [] pos) X.env = (do
      let ov ← eval o X.env
      standAt apos.atName
      let (f, first) ← holding [ov] (getMethod ov m pl)
      callWith pos f first (backTo pos (starEach (e :: es) X.env)) (backToKw pos (keywordEach [] X.env))) := by rfl) :
    PE X (.Call (.Attribute o m apos) (e :: es) [] pos) (tMeth C m sp dvs E ta t) :=
  let ⟨_, _, _, _, hc, hm, F, b, d⟩ := c.ex
  pe_gm (pl := pl) he hc hm F hgd (hr.mono hk) b d hx ha hst hpl ht
theorem pe_m {pl : Sem Bool} (c : GM X.prog X.w X.K X.mg X.base k C m sp dvs) (hgd : X.A.guards = some []) (hr : Room j X.A) (hk : k ≤ j) (he : PE X o ta) (ha : PA X (e :: es) t)
    (hst : starEach (e :: es) X.env = (false, eval e X.env) :: starEach es X.env := by rfl) (hpl : (backTo pos (starEach es X.env)).any (·.1) = false := by rfl)
    (ht : eval (.Call (.Attribute o m apos) (e :: es) [] pos) X.env = (do
      let ov ← eval o X.env
      standAt apos.atName
      let (f, first) ← holding [ov] (getMethod ov m pl)
      callWith pos f first (backTo pos (starEach (e :: es) X.env)) (backToKw pos (keywordEach [] X.env))) := by rfl) :
    PE X (.Call (.Attribute o m apos) (e :: es) [] pos) (tMeth C m sp dvs E0 ta t) := pe_mE (pl := pl) c hgd hr hk passL he ha hst hpl ht
theorem pe_m0E {pl : Sem Bool} (c : GM X.prog X.w X.K X.mg X.base k C m sp dvs) (hgd : X.A.guards = some []) (hr : Room j X.A) (hk : k ≤ j) (hx : Passes (L2.CX X.prog X.w) X E) (he : PE X o ta)
    (ht : eval (.Call (.Attribute o m apos) [] [] pos) X.env = (do
      let ov ← eval o X.env
      standAt apos.atName
      let (f, first) ← holding [ov] (getMethod ov m pl)
      callWith pos f first (backTo pos (starEach [] X.env)) (backToKw pos (keywordEach [] X.env))) := by rfl) :
    PE X (.Call (.Attribute o m apos) [] [] pos) (tMeth C m sp dvs E ta tNil) :=
  let ⟨_, _, _, _, hc, hm, F, b, d⟩ := c.ex
  pe_gm0 (pl := pl) he hc hm F hgd (hr.mono hk) b d hx ht
theorem pe_m0 {pl : Sem Bool} (c : GM X.prog X.w X.K X.mg X.base k C m sp dvs) (hgd : X.A.guards = some []) (hr : Room j X.A) (hk : k ≤ j) (he : PE X o ta)
    (ht : eval (.Call (.Attribute o m apos) [] [] pos) X.env = (do
      let ov ← eval o X.env
      standAt apos.atName
      let (f, first) ← holding [ov] (getMethod ov m pl)
      callWith pos f first (backTo pos (starEach [] X.env)) (backToKw pos (keywordEach [] X.env))) := by rfl) :
    PE X (.Call (.Attribute o m apos) [] [] pos) (tMeth C m sp dvs E0 ta tNil) := pe_m0E (pl := pl) c hgd hr hk passL he ht
theorem run_gnK {f : Addr} {fd : FuncData} {ps : List Str} {g : List Value → List Value → List Value} {pins : List (Addr × Obj)} {σ : L2.St} {H : Hp} {s : Shared} {Q : VK} {us ws : List Value} {vs zs : List V} (M : Mk X.K C f) (F : GOk X.prog X.w X.K X.mg X.base (L2.CX X.prog X.w) k f fd ps sp)
    (hgd : X.A.guards = some []) (hr : Room (k + 1) X.A) (hb : KBn X.K fd ps (n + 1) ks g gV) (hx : Passes (L2.CX X.prog X.w) X E) (I : Inv X pins σ H s) (r : Vals vs us) (rz : Vals zs ws) (l1 : vs.length = n) (l2 : zs.length = ks.length)
    (h : ∀ x dx, H x = none → H dx = none → dx ≠ x → sp (gV (.ref x :: vs) zs) (upd (upd H dx (.own x)) x (.ins C dx [])) (fun v H2 => v = .non ∧ Q (.ref x) H2) E) :
    wpAny (model X.prog X.w) X.A (call (.ref C) us (ks.zip ws)) (EP X pins σ Q) X.xe s := by
  have hq := h (s.heap.objs.size + 1) s.heap.objs.size (I.hok.fresh (Nat.le_succ _)) (I.hok.fresh (Nat.le_refl _)) (Nat.ne_of_lt (Nat.lt_succ_self _))
  have J := Inv.made (C := C) I
  have rr : Vals (V.ref (s.heap.objs.size + 1) :: vs) (Value.ref (s.heap.objs.size + 1) :: us) := .cons rfl r
  have len1 : (Value.ref (s.heap.objs.size + 1) :: us).length = n + 1 := by
    have := r.length
    simp only [List.length_cons]
    omega
  refine wpAny_call (make_map (f := f) I.kIn M.makes M.init (beq_iff_eq.mp M.fn) (codeAny_mono (F.run _ X.stack _ _ ⟨.ref (s.heap.objs.size + 1) :: us, ks.zip ws⟩ (g (.ref (s.heap.objs.size + 1) :: us) ws) _ _ E (guards_make hgd us (ks.zip ws)) (hr.make C us (ks.zip ws))
    (J.env0.make C us (ks.zip ws)) (hb.to _ _ ws J.kIn len1 (rz.length.symm.trans l2)) (hb.rel rr rz) hq) fun res s' hq' => ?_))
  match res, hq' with
  | .error e, z => exact hx pins σ _ _ e s' J z
  | .ok (.ret u), z =>
    obtain ⟨v, H', I3, rv, ev, q3⟩ := J.after z
    subst ev
    exact ⟨rv, .ref (s.heap.objs.size + 1), H', I3, rfl, q3⟩
  | .ok .next, z => exact z.elim
  | .ok .brk, z => exact z.elim
  | .ok .cont, z => exact z.elim
theorem pe_nE (c : GN X.prog X.w X.K X.mg X.base k x C sp n ks gV) (hgd : X.A.guards = some []) (hr : Room j X.A) (hk : k + 1 ≤ j) (hx : Passes (L2.CX X.prog X.w) X E) (hg : Gl X x)
    (ha : PA X (e :: es) t) (hkw : PK X kws tk) (hall : (backToKw pos (keywordEach kws X.env)).all (·.1.isSome) = true := by rfl) (hks : (backToKw pos (keywordEach kws X.env)).filterMap (·.1) = ks := by rfl)
    (hdb : (x == ("__debug__" : Str)) = false := by decide) (he : starEach (e :: es) X.env = (false, eval e X.env) :: starEach es X.env := by rfl)
    (hpl : ((backTo pos (starEach (e :: es) X.env)).any (·.1) || (backToKw pos (keywordEach kws X.env)).any (·.1.isNone)) = false := by rfl) :
    PE X (.Call (.Name x p) (e :: es) kws pos) (tMakeK C n ks.length sp gV E t tk) := by
  obtain ⟨_, _, _, _, M, F, hm, b⟩ := c.ex
  refine ⟨fun pins s σ H Q I h => wpAny_Call_Name_kw (ld_glob I hg hm (PySem.W.callWith_KW (h₀ := X.base) I.ok.mod.kin M.kp hall (thn (ha.run pos pins s σ H _ I h) fun us s1 ⟨vs, H1, I1, r, q⟩ => ?_) hpl he) hdb)⟩
  refine thn (hkw.run pos pins s1 σ H1 _ I1 q) fun ws s2 ⟨zs, H2, I2, rz, l1, l2, q2⟩ => ⟨I2.kIn, ?_⟩
  rw [hks]
  exact run_gnK M F hgd (hr.mono hk) b hx I2 r rz l1 l2 q2
theorem pe_n (c : GN X.prog X.w X.K X.mg X.base k x C sp n ks gV) (hgd : X.A.guards = some []) (hr : Room j X.A) (hk : k + 1 ≤ j) (hg : Gl X x)
    (ha : PA X (e :: es) t) (hkw : PK X kws tk) (hall : (backToKw pos (keywordEach kws X.env)).all (·.1.isSome) = true := by rfl) (hks : (backToKw pos (keywordEach kws X.env)).filterMap (·.1) = ks := by rfl)
    (hdb : (x == ("__debug__" : Str)) = false := by decide) (he : starEach (e :: es) X.env = (false, eval e X.env) :: starEach es X.env := by rfl)
    (hpl : ((backTo pos (starEach (e :: es) X.env)).any (·.1) || (backToKw pos (keywordEach kws X.env)).any (·.1.isNone)) = false := by rfl) :
    PE X (.Call (.Name x p) (e :: es) kws pos) (tMakeK C n ks.length sp gV E0 t tk) := pe_nE c hgd hr hk passL hg ha hkw hall hks hdb he hpl
theorem pe_n0E (c : GN X.prog X.w X.K X.mg X.base k x C sp 0 ks gV) (hgd : X.A.guards = some []) (hr : Room j X.A) (hk : k + 1 ≤ j) (hx : Passes (L2.CX X.prog X.w) X E) (hg : Gl X x)
    (hkw : PK X kws tk) (hall : (backToKw pos (keywordEach kws X.env)).all (·.1.isSome) = true := by rfl) (hks : (backToKw pos (keywordEach kws X.env)).filterMap (·.1) = ks := by rfl)
    (hdb : (x == ("__debug__" : Str)) = false := by decide) (hpl : ((backTo pos (starEach [] X.env)).any (·.1) || (backToKw pos (keywordEach kws X.env)).any (·.1.isNone)) = false := by rfl) :
    PE X (.Call (.Name x p) [] kws pos) (tMakeK C 0 ks.length sp gV E tNil tk) := by
  obtain ⟨_, _, _, _, M, F, hm, b⟩ := c.ex
  refine ⟨fun pins s σ H Q I h => wpAny_Call_Name_kw (ld_glob I hg hm (PySem.W.callWith_KW0 (h₀ := X.base) I.ok.mod.kin M.kp hall ?_ hpl) hdb)⟩
  refine thn (hkw.run pos pins s σ H _ I h) fun ws s2 ⟨zs, H2, I2, rz, l1, l2, q2⟩ => ⟨I2.kIn, ?_⟩
  rw [hks]
  exact run_gnK (us := []) (vs := []) M F hgd (hr.mono hk) b hx I2 .nil rz rfl l2 q2
end
theorem kbn_pos {K : PySem.W.Frag} {fd : FuncData} {ps : List Str} (b : Binds K fd ps []) : KBn K fd ps ps.length [] (fun us _ => us) (fun vs _ => vs) :=
  ⟨fun s us ws X h1 h2 => by
    have := b s us X (by rw [List.append_nil]; exact h1)
    rw [List.append_nil] at this
    exact this, fun r _ => r⟩
end Ev
namespace Ev
open PySem PySem.Spec PyProof.Rows L2
theorem law_g {P : Program} {w : World} {K : PySem.W.Frag} {mg mb : Str → Option Value} {CX : CXT} {k : Nat} {fa a : Addr} {fd : FuncData} {x : Str} {sp : Sp} {s₁ : Shared} {vs : List Value} {ns : List Int}
    (KX : K.In s₁.heap) (hns : s₁.heap.Ns mainGlobals mg) (hb : s₁.heap.Ns builtinsNs mb) (hbb : ∀ y : Str, y ≠ "__name__" → mb y = bootBuiltins y) (hlim : s₁.heap.NoLimit) (hg : s₁.gens = #[])
    (ha : s₁.heap.get? a = some { cls := .type "list", data := .seq vs.toArray }) (hi : IntsAre vs ns) (hl : ns.length ≤ sizeLine) (hr : Room k callerA)
    (F : ∀ base : Heap, K.In base → base.Ns mainGlobals mg → GOk P w K mg base CX k fa fd [x] sp) (hbind : ∀ (s : Shared) (u : Value), BindsTo s fd ⟨[u], []⟩ [(x, u)])
    (hsp : ∀ H : Hp, Only H → SqL K H a (ns.map V.int) → sp [.ref a] H (fun v _ => v = .bl true) fun _ _ _ => False)
    (hCX : ∀ H e s', CX [] H s₁ (fun _ _ _ => False) e s' → False) :
    codeAny (model P w) callerA (.call (.ref fa) ⟨[.ref a], []⟩) (fun r s' => r = .ok (.ret (.bool true)) ∧ OldK s₁.heap s'.heap ∧ s'.os = s₁.os ∧ AllBare s'.gens) s₁ := by
  have rv := vals_ints hi
  obtain ⟨H, hO, hS, hok, hA, hK⟩ : ∃ H : Hp, Only H ∧ SqL K H a (ns.map V.int) ∧ HOk P w H s₁.heap ∧ (∀ b, H b ≠ none → b = a) ∧ (H a ≠ none → K.lookup a = none) := by
    cases hk : K.lookup a with
    | some o =>
      have eo : o = { cls := .type "list", data := .seq vs.toArray } := Option.some.inj ((KX a o hk).symm.trans ha)
      subst eo
      refine ⟨fun _ => none, fun _ => Or.inl rfl, Or.inr ⟨_, vs.toArray, _, hk, rfl, rfl, rfl, ?_, ?_⟩, fun b u z => (nomatch z), fun b z => (z rfl).elim, fun z => (z rfl).elim⟩
      · rw [List.size_toArray, hi.length]
        exact hl
      · simpa using rv
    | none =>
      refine ⟨fun b => if b = a then some (.frz { cls := .type "list", data := .seq vs.toArray } (.lst (ns.map V.int))) else none, fun b => ?_, Or.inl (Or.inr ⟨{ cls := .type "list", data := .seq vs.toArray }, if_pos rfl⟩), fun b u z => ?_, fun b z => ?_, fun _ => rfl⟩
      · by_cases e : b = a
        · exact Or.inr ⟨_, _, if_pos e⟩
        · exact Or.inl (if_neg e)
      · by_cases e : b = a
        · subst e
          cases (if_pos rfl).symm.trans z
          exact ⟨ha, (List.length_map (as := ns) V.int).symm ▸ hl, vs, _, rv, ha⟩
        · cases (if_neg e).symm.trans z
      · by_cases e : b = a
        · exact e
        · exact (z (if_neg e)).elim
  have keep : ∀ {b : Addr} {o : Obj}, s₁.heap.get? b = some o → H b = none → (hidT s₁.heap H).get? b = some o := fun e n => hidT_get e n
  have nodict : ∀ {b : Addr} {o : Obj} {es : Array DictEntry} {ep : Nat}, s₁.heap.get? b = some o → o.data = .dict es ep → H b = none := by
    intro b o es ep e d
    refine Classical.byContradiction fun z => ?_
    have e' := hA b z
    subst e'
    cases ha.symm.trans e
    cases d
  have nsK : ∀ {b : Addr} {m : Str → Option Value}, s₁.heap.Ns b m → (hidT s₁.heap H).Ns b m := fun ⟨o, es, ep, e, d, r⟩ => ⟨o, es, ep, keep e (nodict e d), d, r⟩
  have kb : K.In (hidT s₁.heap H) := fun b o e => keep (KX b o e) (Classical.byContradiction fun z => by
    have e' := hA b z
    subst e'
    rw [hK z] at e
    cases e)
  have mod : Mod K mg (hidT s₁.heap H) := ⟨kb, nsK hns, ⟨mb, nsK hb, hbb⟩, let ⟨mc, h1, h2⟩ := hlim; ⟨mc, nsK h1, h2⟩⟩
  have e0 : Env0 P w K mg (hidT s₁.heap H) callerA [] s₁ H := ⟨rfl, mod, fun _ _ e => of_hidT e, Nat.le_of_eq (hidT_size _ _), trivial, fun b hb => (nomatch (show b ∈ ([] : List Addr) from hb)), hok, .of_eq hg⟩
  refine codeAny_mono ((F _ kb (nsK hns)).run callerA [] s₁ H ⟨[.ref a], []⟩ [.ref a] [.ref a] _ _ rfl hr e0 (hbind s₁ (.ref a)) (.cons rfl .nil) (hsp H hO hS)) fun r s' h => ?_
  match r, h with
  | .error e, z => exact (hCX H e s' z).elim
  | .ok .next, z => exact z.elim
  | .ok .brk, z => exact z.elim
  | .ok .cont, z => exact z.elim
  | .ok (.ret u), ⟨v, H', os, bare, un, hok', r', (q : v = .bl true)⟩ =>
    subst q
    cases (show u = Value.bool true from r')
    refine ⟨rfl, OldK.of_keep fun b o e => ?_, os, bare⟩
    rcases hO b with z | ⟨ob, xs, z⟩
    · exact un.keep b o e z (fun y => (nomatch (show b ∈ ([] : List Addr) from y))) (by simp)
    · have o1 := (hok b _ z).1
      have o2 := (hok' b _ (un.frzs b ob _ z)).1
      exact o2.trans (o1.symm.trans e)
theorem walk_g {l : PySem.W.OpenLaw} {n k : Nat} {q : Program} {loose : List Str} {XP : (Str → Option Value) → Heap → Prop} {YP : World → Heap → Prop} {d : DefRec} {K : Params → PySem.W.Frag} {sp : PySem.W.Frag → Sp} {x : Str}
    (hn : l.most = some n) (hn2 : n ≤ sizeLine) (hdf : d.params.defaults = []) (hr : Room k callerA) (hY : ∀ (w : World) (h : Heap), YP w h → (K w.params).In h)
    (F : ∀ (w : World) (mg : Str → Option Value) (fa : Addr) (h : Heap), (K w.params).In h → h.Ns mainGlobals mg → mg d.name = some (.ref fa) →
      ∃ fd : FuncData, (∀ (s : Shared) (u : Value), BindsTo s fd ⟨[u], []⟩ [(x, u)]) ∧
        ∀ base : Heap, (K w.params).In base → base.Ns mainGlobals mg → GOk l.prog w (K w.params) mg base (L2.CX l.prog w) k fa fd [x] (sp (K w.params)))
    (hsp : ∀ (K : PySem.W.Frag) (H : Hp) (a : Addr) (ns : List Int), ns.length ≤ n → (∀ z ∈ ns, Builtin.Int.intBits z ≤ 1048576) → Only H → SqL K H a (ns.map V.int) → sp K [.ref a] H (fun v _ => v = .bl true) fun _ _ _ => False) :
    PySem.W.WalkO q loose XP YP l.row.toRowW d [] (fun f vs => PySem.call f vs) := by
  refine Att.attach_callB hn hdf fun w s₀ s₁ mg mb fa o pm cd doc a vs ns G Y ho hd hcd hmg hobj hints hlen hbits hg => ?_
  obtain ⟨fd, b, hF⟩ := F w mg fa _ (hY w _ Y) G.T.g hmg
  refine law_g (hY w _ Y) G.T.g G.T.b G.T.builtins G.T.nolimit hg hobj hints (Nat.le_trans hlen hn2) hr hF b (fun H hO hS => hsp _ H a ns hlen hbits hO hS) fun H e s' z => ?_
  obtain ⟨_, _, _, _, _, _, _, _, _, _, _, _, y⟩ := z
  exact y.elim
end Ev
namespace Ev
open PySem PySem.Spec PyProof.Rows L2
mutual
def cost : PyData → Nat
  | .none => 4
  | .bool _ => 5
  | .int _ => 1921
  | .str x => (reprText x).length
  | .list xs => costs xs + 2
  | .tuple xs => costs xs + 2
  | .dict _ => 0
def costs : List PyData → Nat
  | [] => 0
  | x :: xs => cost x + 2 + costs xs
end
theorem listText_le (ts : List Str) : (listText ts).length ≤ piled ts + 2 := by
  have h1 : (listText ts).length = (textFrom 0 "[" ts).length + 1 := by
    show (textFrom 0 "[" ts ++ "]").length = _
    rw [strLen_append]
    rfl
  rw [h1]
  cases ts with
  | nil =>
    show (Str.ofString "[").length + 1 ≤ _
    decide +kernel
  | cons t r =>
    have e : ((("[" : Str) ++ (if (0 : Nat) > 0 then ", " else "" : String) ++ t)).length = 1 + t.length := by
      rw [strLen_append, strLen_append]
      rfl
    have h2 : (textFrom 0 "[" (t :: r)).length = ((("[" : Str) ++ (if (0 : Nat) > 0 then ", " else "" : String) ++ t)).length + piled r := textFrom_length_pos r 1 _ (Nat.succ_pos 0)
    rw [h2, e, piled_cons]
    omega
mutual
theorem shown_le : ∀ d : PyData, d.showable = true → d.hasDict = false → (PyData.shown d).length ≤ cost d
  | .none, _, _ => by
    show (Str.ofString "None").length ≤ 4
    decide +kernel
  | .bool true, _, _ => by
    show (PyData.shown (.bool true)).length ≤ 5
    decide +kernel
  | .bool false, _, _ => by
    show (PyData.shown (.bool false)).length ≤ 5
    decide +kernel
  | .int i, h, _ => PyProof.Rows.int_text_len_1921 (of_decide_eq_true h)
  | .str x, _, _ => Nat.le_refl _
  | .list xs, h, hd => by
    have a := shown_les xs (by simpa [PyData.showable] using h) (by simpa [PyData.hasDict] using hd)
    have b := listText_le (PyData.shownAll xs)
    show (listText (PyData.shownAll xs)).length ≤ costs xs + 2
    omega
  | .tuple xs, h, hd => by
    have a := shown_les xs (by simpa [PyData.showable] using h) (by simpa [PyData.hasDict] using hd)
    have b := fmt_text (PyData.shownAll xs)
    show (tupleText (PyData.shownAll xs)).length ≤ costs xs + 2
    omega
  | .dict _, _, hd => by simp [PyData.hasDict] at hd
theorem shown_les : ∀ ds : List PyData, PyData.showableAll ds = true → PyData.hasDictAll ds = false → piled (PyData.shownAll ds) ≤ costs ds
  | [], _, _ => Nat.le_refl _
  | d :: ds, h, hd => by
    have h1 : d.showable = true ∧ PyData.showableAll ds = true := by simpa [PyData.showableAll] using h
    have h2 : d.hasDict = false ∧ PyData.hasDictAll ds = false := by simpa [PyData.hasDictAll] using hd
    have a := shown_le d h1.1 h2.1
    have b := shown_les ds h1.2 h2.2
    show piled (PyData.shown d :: PyData.shownAll ds) ≤ cost d + 2 + costs ds
    rw [piled_cons]
    omega
end
mutual
theorem nodict : ∀ d : PyData, d.canLay0 = true → d.hasDict = false
  | .none, _ => rfl
  | .bool _, _ => rfl
  | .int _, _ => rfl
  | .str _, _ => rfl
  | .list xs, h => by
    show PyData.hasDictAll xs = false
    exact nodicts xs (by simpa [PyData.canLay0] using h)
  | .tuple xs, h => by
    show PyData.hasDictAll xs = false
    exact nodicts xs (by simpa [PyData.canLay0] using h)
  | .dict _, h => by simp [PyData.canLay0] at h
theorem nodicts : ∀ ds : List PyData, PyData.canLayAll0 ds = true → PyData.hasDictAll ds = false
  | [], _ => rfl
  | d :: ds, h => by
    have h1 : d.canLay0 = true ∧ PyData.canLayAll0 ds = true := by simpa [PyData.canLayAll0] using h
    show (d.hasDict || PyData.hasDictAll ds) = false
    rw [nodict d h1.1, nodicts ds h1.2]
    rfl
end
structure Shows (d : PyData) : Prop where
  sh : d.showable = true
  nd : d.hasDict = false
  dp : d.depth ≤ 64
  ct : cost d ≤ 16777216
section
variable {X : Cx}
def rRepr (K : PySem.W.Frag) : List V → Hp → VK → Prop := fun vs H Q => ∃ (x : V) (d : PyData), vs = [x] ∧ Dp K H x d ∧ Shows d ∧ Q (.str d.shown) H
theorem call_repr (hgd : X.A.guards = some []) (hu : X.A.units + 64 < cLine) (hu2 : X.A.units + 200 < cLine) : CallR X (.builtin "repr") (rRepr X.K) := by
  intro pins s σ H vs us Q I r h
  obtain ⟨x, d, rfl, hd, S, q⟩ := h
  cases r with
  | cons rx rn =>
    cases rn
    rename_i u
    have hz : d.shown.length ≤ sizeLine := by
      have a := shown_le d S.sh S.nd
      have b := S.ct
      rw [sizeLine_eq]
      omega
    obtain ⟨as, hr⟩ := Dp.reads I d x u hd rx
    cases hd with
    | non =>
      cases rx
      exact P.repr_of_none ⟨.str _, H, I.tok _, ⟨_, rfl⟩, q⟩
    | bl b =>
      cases rx
      exact P.repr_of_bool ⟨.str _, H, I.tok _, ⟨_, rfl⟩, q⟩
    | int i =>
      obtain ⟨t, rfl⟩ := rx
      exact P.repr_of_int (of_decide_eq_true S.sh) ⟨.str _, H, I.tok _, ⟨_, rfl⟩, q⟩
    | str z =>
      obtain ⟨t, rfl⟩ := rx
      exact P.repr_of_str ⟨.str _, H, I.tok _, ⟨_, rfl⟩, q⟩ hz
    | lst a b =>
      cases rx
      exact repr_of_reads' hr S.sh (PyData.noDict_hsm S.nd) hgd (by have := S.dp; omega) (fun _ _ e => e) (fun h' t tk hk => ⟨.str _, H, I.kept hk, ⟨_, rfl⟩, q⟩) hz
    | tup a b =>
      cases rx
      exact repr_of_reads' hr S.sh (PyData.noDict_hsm S.nd) hgd (by have := S.dp; omega) (fun _ _ e => e) (fun h' t tk hk => ⟨.str _, H, I.kept hk, ⟨_, rfl⟩, q⟩) hz
end
end Ev
namespace Ev
open PySem L2
theorem Same.new {H H1 : Hp} {q : Addr} {o : HO} (a : Same H H1) (h : H1 q = none) : Same H (upd H1 q o) := fun c u e => get_new (a c u e) h
theorem Same.seqT {K : PySem.W.Frag} {H H' : Hp} {a : Addr} {xs : List V} (e : Same H H') (h : SqT K H a xs) : SqT K H' a xs := by
  rcases h with (h | ⟨o, h⟩) | h
  · exact .inl (.inl (e _ _ h))
  · exact .inl (.inr ⟨o, e _ _ h⟩)
  · exact .inr h
theorem Same.old {H H1 : Hp} {q : Addr} {o : HO} (a : Same H H1) (h : H q = none) : Same H (upd H1 q o) := fun c u e => get_ne (ne_of_none e h) (a c u e)
theorem Same.but {H H1 : Hp} (a : Same H H1) (p : Addr) : But p H H1 := fun c u e _ => a c u e
def outs (f : Nat → Option V) (n : Nat) : List V := (List.range n).filterMap f
theorem outs_succ (f : Nat → Option V) (n : Nat) : outs f (n + 1) = outs f n ++ (f n).toList := by
  unfold outs
  rw [List.range_succ, List.filterMap_append]
  cases h : f n with
  | none => simp [h]
  | some y => simp [h]
theorem outs_len (f : Nat → Option V) : ∀ n, (outs f n).length ≤ n
  | 0 => Nat.le_refl _
  | n + 1 => by
    have := outs_len f n
    rw [outs_succ, List.length_append]
    cases f n with
    | none => simp; omega
    | some y => simp; omega
theorem outs_map (g : Nat → V) (n : Nat) : outs (fun i => some (g i)) n = (List.range n).map g := by
  unfold outs
  exact congrFun (List.filterMap_eq_map (f := g)) _
theorem outs_list {xs : List V} (h : V → V) : outs (fun i => (xs[i]?).map h) xs.length = xs.map h := by
  have z : ∀ n, n ≤ xs.length → outs (fun i => (xs[i]?).map h) n = (xs.take n).map h := by
    intro n
    induction n with
    | zero => intro _; rfl
    | succ n ih =>
      intro hn
      rw [outs_succ, ih (by omega), List.take_add_one, List.map_append]
      congr 1
      rw [List.getElem?_eq_getElem (by omega)]
      rfl
  rw [z _ (Nat.le_refl _), List.take_length]
theorem cat_ne {K : PySem.W.Frag} {H : Hp} {a b : Addr} {xs ys : List V} {Q : VK} (hx : SqT K H a xs) (hy : SqT K H b ys) (h1 : xs ≠ []) (h2 : ys ≠ []) (hz : xs.length + ys.length ≤ 1000)
    (q : ∀ p, H p = none → Q (.ref p) (upd H p (.tup (xs ++ ys)))) : rCatA K (.ref a) (.ref b) H Q :=
  ⟨a, b, xs, ys, rfl, rfl, hx, hy, Nat.le_trans hz (by decide), fun z => (h1 z).elim, fun _ z => (h2 z).elim, fun _ _ => q⟩
theorem sl_part {K : PySem.W.Frag} {H : Hp} {a : Addr} {xs : List V} {lo hi : Option Int} {Q : VK} (hx : SqT K H a xs) (hn : ¬ (HT.sIx xs.length 0 lo = 0 ∧ HT.sIx xs.length xs.length hi = xs.length))
    (q : ∀ p, H p = none → Q (.ref p) (upd H p (.tup (cutV xs lo hi)))) : rSlA K (.ref a) lo hi H Q := ⟨a, xs, rfl, hx, fun z => (hn z).elim, fun _ => q⟩
section
variable {g : TG} {tt : TT} {te : TE} {vs : List Nat} {σ : L2.St} {H1 : Hp} {D : Addr} {Qd : Hp → Prop} {K : PySem.W.Frag} {a : Addr} {xs : List V} {lo : Int} {n : Nat}
def LcTurn (g : TG) (tt : TT) (te : TE) (vs : List Nat) (σ : L2.St) (x : V) (H : Hp) (R : V → Hp → Prop) (N : Hp → Prop) : Prop :=
  g x (wipe σ vs) H fun σ2 H2 => wipe σ2 vs = wipe σ vs ∧ tt σ2 H2 fun b H3 => if b = true then te σ2 H3 R else N H3
theorem lc_step {f : Nat → Option V} {i : Nat} {x : V} {H : Hp} (hz : i < 16777216) (hD : H1 D = none) (hS : Same H1 H) (hI : H D = some (.lst (outs f i)))
    (hs : ∀ (R : V → Hp → Prop) (N : Hp → Prop), (∀ y H4, f i = some y → Same H H4 → R y H4) → (∀ H4, f i = none → Same H H4 → N H4) → LcTurn g tt te vs σ x H R N) :
    g x (wipe σ vs) H fun σ2 H2 => wipe σ2 vs = wipe σ vs ∧ tt σ2 H2 fun b H3 =>
      if b = true then te σ2 H3 fun y H4 => ∃ acc, H4 D = some (.lst acc) ∧ acc.length < sizeLine ∧ (Same H1 (upd H4 D (.lst (acc ++ [y]))) ∧ (upd H4 D (.lst (acc ++ [y]))) D = some (.lst (outs f (i + 1))))
      else (Same H1 H3 ∧ H3 D = some (.lst (outs f (i + 1)))) := by
  refine hs (fun y H4 => ∃ acc, H4 D = some (.lst acc) ∧ acc.length < sizeLine ∧ (Same H1 (upd H4 D (.lst (acc ++ [y]))) ∧ (upd H4 D (.lst (acc ++ [y]))) D = some (.lst (outs f (i + 1))))) (fun H3 => Same H1 H3 ∧ H3 D = some (.lst (outs f (i + 1)))) (fun y H4 e s => ?_) (fun H4 e s => ?_)
  · refine ⟨outs f i, s _ _ hI, ?_, Same.old (hS.trans s) hD, ?_⟩
    · have := outs_len f i
      rw [sizeLine_eq]
      omega
    · rw [upd_same, outs_succ, e]
      rfl
  · refine ⟨hS.trans s, ?_⟩
    rw [outs_succ, e]
    rw [s _ _ hI]
    simp
theorem lcT {f : Nat → Option V} (hx : SqT K H1 a xs) (hD : H1 D = none) (hz : xs.length < 16777216)
    (hs : ∀ i x H (R : V → Hp → Prop) (N : Hp → Prop), xs[i]? = some x → Same H1 H → (∀ y H4, f i = some y → Same H H4 → R y H4) → (∀ H4, f i = none → Same H H4 → N H4) → LcTurn g tt te vs σ x H R N)
    (hd : ∀ H, Same H1 H → H D = some (.lst (outs f xs.length)) → Qd H) :
    ∃ W : Nat → Nat → Hp → Prop, (∃ m, W 0 m (upd H1 D (.lst []))) ∧ ∀ i m H, W i m H →
      ((Itt K a).stop i H ∧ Qd H) ∨ ((Itt K a).go i H ∧ ∃ Nx : Hp → Prop, (∀ H', Nx H' → ∃ m', m' < m ∧ W (i + 1) m' H') ∧ ∀ x H', (Itt K a).yld i H x H' → g x (wipe σ vs) H' fun σ2 H2 => wipe σ2 vs = wipe σ vs ∧ tt σ2 H2 fun b H3 =>
        if b = true then te σ2 H3 fun y H4 => ∃ acc, H4 D = some (.lst acc) ∧ acc.length < sizeLine ∧ Nx (upd H4 D (.lst (acc ++ [y]))) else Nx H3) :=
  lc_tup (fun i H => Same H1 H ∧ H D = some (.lst (outs f i))) ⟨Same.old (Same.refl _) hD, upd_same⟩ (fun i H _ p => Same.seqT p.1 hx)
    (fun i x H hi p => lc_step (by have := (List.getElem?_eq_some_iff.mp hi).1; omega) hD p.1 p.2 fun R N r n => hs i x H R N hi p.1 r n) (fun H p => hd H p.1 p.2)
theorem lcL {f : Nat → Option V} (hx : SqL K H1 a xs) (hD : H1 D = none) (hz : xs.length < 16777216)
    (hs : ∀ i x H (R : V → Hp → Prop) (N : Hp → Prop), xs[i]? = some x → Same H1 H → (∀ y H4, f i = some y → Same H H4 → R y H4) → (∀ H4, f i = none → Same H H4 → N H4) → LcTurn g tt te vs σ x H R N)
    (hd : ∀ H, Same H1 H → H D = some (.lst (outs f xs.length)) → Qd H) :
    ∃ W : Nat → Nat → Hp → Prop, (∃ m, W 0 m (upd H1 D (.lst []))) ∧ ∀ i m H, W i m H →
      ((Itl K a).stop i H ∧ Qd H) ∨ ((Itl K a).go i H ∧ ∃ Nx : Hp → Prop, (∀ H', Nx H' → ∃ m', m' < m ∧ W (i + 1) m' H') ∧ ∀ x H', (Itl K a).yld i H x H' → g x (wipe σ vs) H' fun σ2 H2 => wipe σ2 vs = wipe σ vs ∧ tt σ2 H2 fun b H3 =>
        if b = true then te σ2 H3 fun y H4 => ∃ acc, H4 D = some (.lst acc) ∧ acc.length < sizeLine ∧ Nx (upd H4 D (.lst (acc ++ [y]))) else Nx H3) :=
  lc_list (fun i H => Same H1 H ∧ H D = some (.lst (outs f i))) ⟨Same.old (Same.refl _) hD, upd_same⟩ (fun i H _ p => p.1.seq hx)
    (fun i x H hi p => lc_step (by have := (List.getElem?_eq_some_iff.mp hi).1; omega) hD p.1 p.2 fun R N r n => hs i x H R N hi p.1 r n) (fun H p => hd H p.1 p.2)
theorem lcR {f : Nat → Option V} (hD : H1 D = none) (hz : n < 16777216)
    (hs : ∀ i H (R : V → Hp → Prop) (N : Hp → Prop), i < n → Same H1 H → (∀ y H4, f i = some y → Same H H4 → R y H4) → (∀ H4, f i = none → Same H H4 → N H4) → LcTurn g tt te vs σ (.int (lo + i)) H R N)
    (hd : ∀ H, Same H1 H → H D = some (.lst (outs f n)) → Qd H) :
    ∃ W : Nat → Nat → Hp → Prop, (∃ m, W 0 m (upd H1 D (.lst []))) ∧ ∀ i m H, W i m H →
      ((Itr lo n).stop i H ∧ Qd H) ∨ ((Itr lo n).go i H ∧ ∃ Nx : Hp → Prop, (∀ H', Nx H' → ∃ m', m' < m ∧ W (i + 1) m' H') ∧ ∀ x H', (Itr lo n).yld i H x H' → g x (wipe σ vs) H' fun σ2 H2 => wipe σ2 vs = wipe σ vs ∧ tt σ2 H2 fun b H3 =>
        if b = true then te σ2 H3 fun y H4 => ∃ acc, H4 D = some (.lst acc) ∧ acc.length < sizeLine ∧ Nx (upd H4 D (.lst (acc ++ [y]))) else Nx H3) :=
  lc_range (fun i H => Same H1 H ∧ H D = some (.lst (outs f i))) ⟨Same.old (Same.refl _) hD, upd_same⟩
    (fun i H hi p => lc_step (by omega) hD p.1 p.2 fun R N r n => hs i H R N hi p.1 r n) (fun H p => hd H p.1 p.2)
end
end Ev
namespace Ev
open PySem PySem.Spec PyProof.Rows L2
section
variable {X : Cx} {CX : CXT} {k j : Nat} {f C : Addr} {fd : FuncData} {ps ks : List Str} {sp : Sp} {dvs : List V} {ds : List Value} {E : XK} {m : Str} {n : Nat}
theorem run_gA {A' : Around} {pins : List (Addr × Obj)} {σ : L2.St} {H : Hp} {s : Shared} {Q : VK} {us : List Value} {vs : List V} (F : GOk X.prog X.w X.K X.mg X.base CX k f fd ps sp) (hg : A'.guards = some []) (hr : Room k A') (hf : A'.frames = X.A.frames)
    (hb : Binds X.K fd ps ds) (hd : Vals dvs ds) (hx : Passes CX X E) (I : Inv X pins σ H s) (r : Vals vs us) (h : sp (vs ++ dvs) H Q E) : wpAny (model X.prog X.w) A' (call (.ref f) us) (EP X pins σ Q) X.xe s := by
  have e0 : Env0 X.prog X.w X.K X.mg X.base A' X.stack s H := by
    have e := I.env0
    exact ⟨by rw [hf]; exact e.frames, e.mod, e.bs, e.bsz, e.funs, e.frf, e.hok, e.bare⟩
  have r2 : Vals (vs ++ dvs) (us ++ ds) := r.append hd
  have hl : (us ++ ds).length = ps.length := r2.length.symm.trans (F.len _ _ _ _ h)
  refine wpAny_call (codeAny_mono (F.run A' X.stack s H ⟨us, []⟩ (us ++ ds) (vs ++ dvs) Q E hg hr e0 (hb s us I.kIn hl) r2 h) fun res s' hq => ?_)
  match res, hq with
  | .error e, hq => exact hx pins σ H s e s' I hq
  | .ok (.ret u), hq => exact I.after hq
  | .ok .next, hq => exact hq.elim
  | .ok .brk, hq => exact hq.elim
  | .ok .cont, hq => exact hq.elim
theorem looks_ty {pins : List (Addr × Obj)} {σ : L2.St} {H : Hp} {s : Shared} {x : V} {u t : Value} (I : Inv X pins σ H s) (rx : RelV x u) (ty : TyX X.K H x t) : PySem.W.Looks (model X.prog X.w) s.heap (typeOf u) t := by
  obtain ⟨P, Z, p, _⟩ := kit_of I rx ty
  exact Z.ty _ _ I.kIn p
theorem inst_at {pins : List (Addr × Obj)} {σ : L2.St} {H : Hp} {s : Shared} {a dx : Addr} {fs : List (Str × V)} (I : Inv X pins σ H s) (h : H a = some (.ins C dx fs)) : ∃ ox od, PySem.W.InstAt s.heap a ox C od ∧ ox.data = .plain := by
  obtain ⟨mA, O, _⟩ := ins_get I.hok h
  obtain ⟨od, J, _⟩ := O.look
  exact ⟨_, _, J, rfl⟩
def rOwnC (K : PySem.W.Frag) (C : Addr) (sp : Sp) (E : XK) (g : Bool → Bool) : R2 := fun x y H Q => ∃ (a dx : Addr) (fs : List (Str × V)) (t : Value), x = .ref a ∧ H a = some (.ins C dx fs) ∧ TyX K H y t ∧ PySem.W.notFirst K C t = true ∧ sp [.ref a, y] H (fun v H' => ∃ b, v = .bl b ∧ Q (.bl (g b)) H') E
theorem op_eqO (c : GM X.prog X.w X.K X.mg X.base k C "__eq__" sp []) (hgd : X.A.guards = some []) (hr : Room j X.A) (hk : k ≤ j) (hx : Passes (L2.CX X.prog X.w) X E) {K : PySem.W.Frag} (hK : X.K = K := by rfl) : OpR X (compareOp .Eq) (rOwnC K C sp E id) := by
  subst hK
  intro pins s σ H x y v u Q I rx ry h
  obtain ⟨a, dx, fs, t, rfl, ha, ty, nf, q⟩ := h
  obtain ⟨f, fd, ps, ds, cl, M, F, b, d⟩ := c.ex
  cases d
  cases rx
  obtain ⟨ox, od, J, _⟩ := inst_at I ha
  obtain ⟨mm, hF⟩ := I.fr
  show wpAny (model X.prog X.w) X.A (richCompare .Eq (.ref a) u) (EP X pins σ Q) X.xe s
  refine PySem.W.cmp_K (op := .Eq) (tb := t) (hr.mono hk).units0 hF I.ok.mod.kin J (looks_ty I ry ty) nf M.at_ M.fn ?_
  refine wpAny_mono (run_gA (vs := [.ref a, y]) (us := [.ref a, u]) (dvs := []) F hgd (hr.mono hk) rfl b .nil hx I (.cons rfl (.cons ry .nil)) q) (fun w s' hw => ?_) fun _ _ z => z
  obtain ⟨v', H', I', rv, bb, ev, q'⟩ := hw
  subst ev
  cases rv
  exact ⟨.bl bb, H', I', rfl, q'⟩
theorem ne_K {h₀ : Heap} {L x : Addr} {mm : Str → Option Value} {ox : Obj} {od : Option Obj} {b tb : Value} {K : PySem.W.Frag} {prog : Program} {w : World} {A : Around} {E : Value → Shared → Prop} {s : Shared} {Q : Value → Shared → Prop} (hu : A.units + 1 < cLine) (F : Fr h₀ L s.heap mm) (X₀ : K.In h₀) (I : PySem.W.InstAt s.heap x ox C od) (hb : PySem.W.Looks (model prog w) s.heap (typeOf b) tb)
    (hn : PySem.W.notFirst K C tb = true) (hne : PySem.W.findIn K (.ref C) "__ne__" = some (some (.builtin "object.__ne__"))) (hs : PySem.W.findIn K (.ref C) "__eq__" = some (some (.ref f))) (hf : PySem.W.isFn K (.ref f) = true) (hm : PySem.W.mroIn K C (.type "object") = some true)
    (h : wpAny (model prog w) A.in1 (call (.ref f) [.ref x, b]) (fun v s' => ∃ r, v = .bool r ∧ Q (.bool (!r)) s') E s) : wpAny (model prog w) A (richCompare .NotEq (.ref x) b) Q E s := by
  have X := X₀.keeps F.keep
  have body : wpAny (model prog w) A.in1 (Builtin.«object.__ne__» ⟨[.ref x, b], []⟩) (fun fin s' => match fin with | .done f => wants (fun v s' => Q v s' ∧ ∃ r, v = .bool r) E (.ok f) s' | .again c' => c'.quiet = true ∧ codeAny (model prog w) A c' (wants (fun v s' => Q v s' ∧ ∃ r, v = .bool r) E) s') (fun e s' => wants (fun v s' => Q v s' ∧ ∃ r, v = .bool r) E (.error e) s') s := by
    unfold Builtin.«object.__ne__»
    repeat (first
      | with_reducible refine wpAny_cRoomFor hu ?_
      | (refine wpAny_bind (m := callSpecialIfBound? (.ref x) (Str.ofString "__eq__") [b])
          (PySem.W.ifBound_K X I hs hf (wpAny_mono h (fun r s' hr => by
            obtain ⟨b, rfl, hq⟩ := hr
            repeat (first | exact ⟨hq, _, rfl⟩ | exact wpAny_pure ⟨hq, _, rfl⟩ | (refine wpAny_bind (m := truthy (.bool _)) (wpAny_truthy_bool ?_)) | wp_step)) fun _ _ e => e)))
      | wp_step)
  have one : wpAny (model prog w) A (tryCompare (.ref x) "__ne__" b) (fun r s' => ∃ v, r = some v ∧ Q v s') E s := by
    unfold tryCompare
    simp only [callSpecialIfBound?, bindSpecialIfBound?]
    refine wpAny_bind (wpAny_holding (wpAny_bind (wpAny_bind (wpAny_bind (I.type.here ((PySem.W.looks_findIn X hne).here ?_))))))
    refine wpAny_bind (wpAny_askSetting (wpAny_ite ?_))
    have fin : wpAny (model prog w) A (call (.builtin "object.__ne__") ([.ref x] ++ [b])) (fun v s' => Q v s' ∧ ∃ r, v = .bool r) E s :=
      wpAny_call (codeAny_call_builtin PySem.F.cmp_object.ne.plain PySem.F.cmpEntry_ne (PySem.W.check_slot PySem.F.cmpKind_ne PySem.F.cmpSplit_ne (I.type.andThen (PySem.W.looks_mroIn X hm)) (PySem.F.cmpArgs_ne _ _) body))
    have fin2 : wpAny (model prog w) A (call (.builtin "object.__ne__") ([.ref x] ++ [b]) >>= fun v => pure (some v)) (fun r s' => wpAny (model prog w) A (match r with | some .notImplemented | none => pure none | some v => pure (some v) : Sem (Option Value)) (fun r s' => ∃ v, r = some v ∧ Q v s') E s') E s := wpAny_bind (wpAny_mono fin (fun v s' hv => by
      obtain ⟨hq, r, rfl⟩ := hv
      exact wpAny_pure (wpAny_pure ⟨_, rfl, hq⟩)) fun _ _ z => z)
    split
    · exact wpAny_bind (wpAny_of_eq (PySem.F.cmp_object.ne.bind _) (wpAny_pure (by exact fin2)))
    · exact wpAny_tryCatch (wpAny_bind (wpAny_of_eq (PySem.F.cmp_object.ne.bind _) (wpAny_pure (by exact fin2))))
  unfold richCompare
  simp only [oneThing_ref]
  refine wpAny_holding (wpAny_bind (wpAny_cRoomFor (by omega) ?_))
  refine wpAny_bind (I.type.here (wpAny_bind (hb.here ?_)))
  rw [cmpInfo_NotEq]
  dsimp only
  split
  · rename_i q
    have e : PySem.W.subIn K tb (.ref C) = some false := by
      rcases Bool.or_eq_true_iff.mp hn with e | e
      · rw [beq_iff_eq.mp e] at q; simp at q
      · exact beq_iff_eq.mp e
    refine wpAny_bind ((PySem.W.looks_subIn X e).here ?_)
    simp only [Bool.false_eq_true, if_false]
    refine wpAny_bind (wpAny_mono one (fun r s' z => ?_) fun _ _ e => e)
    obtain ⟨v, rfl, hq⟩ := z
    exact wpAny_pure hq
  · refine wpAny_bind (wpAny_pure ?_)
    simp only [Bool.false_eq_true, if_false]
    refine wpAny_bind (wpAny_mono one (fun r s' z => ?_) fun _ _ e => e)
    obtain ⟨v, rfl, hq⟩ := z
    exact wpAny_pure hq
structure NeO (K : PySem.W.Frag) (C : Addr) : Prop where
  ne : PySem.W.findIn K (.ref C) "__ne__" = some (some (.builtin "object.__ne__"))
  ob : PySem.W.mroIn K C (.type "object") = some true
theorem op_neO (c : GM X.prog X.w X.K X.mg X.base k C "__eq__" sp []) (N : NeO X.K C) (hgd : X.A.guards = some []) (hr : Room j X.A) (hk : k + 1 ≤ j) (hx : Passes (L2.CX X.prog X.w) X E) {K : PySem.W.Frag} (hK : X.K = K := by rfl) : OpR X (compareOp .NotEq) (rOwnC K C sp E not) := by
  subst hK
  intro pins s σ H x y v u Q I rx ry h
  obtain ⟨a, dx, fs, t, rfl, ha, ty, nf, q⟩ := h
  obtain ⟨f, fd, ps, ds, cl, M, F, b, d⟩ := c.ex
  cases d
  cases rx
  obtain ⟨ox, od, J, _⟩ := inst_at I ha
  obtain ⟨mm, hF⟩ := I.fr
  have hr2 := hr.mono hk
  show wpAny (model X.prog X.w) X.A (richCompare .NotEq (.ref a) u) (EP X pins σ Q) X.xe s
  refine ne_K (tb := t) (by have := hr2.un0; omega) hF I.ok.mod.kin J (looks_ty I ry ty) nf N.ne M.at_ M.fn N.ob ?_
  refine wpAny_mono (run_gA (vs := [.ref a, y]) (us := [.ref a, u]) (dvs := []) F hgd hr2.in1 rfl b .nil hx I (.cons rfl (.cons ry .nil)) q) (fun w s' hw => ?_) fun _ _ z => z
  obtain ⟨v', H', I', rv, bb, ev, q'⟩ := hw
  subst ev
  cases rv
  exact ⟨bb, rfl, .bl (!bb), H', I', rfl, q'⟩
def rOwn1 (C : Addr) (sp : Sp) (E : XK) (P : V → Prop) : V → Hp → VK → Prop := fun x H Q => ∃ (a dx : Addr) (fs : List (Str × V)), x = .ref a ∧ H a = some (.ins C dx fs) ∧ sp [.ref a] H (fun v H' => P v ∧ Q v H') E
theorem call_lenO (c : GM X.prog X.w X.K X.mg X.base k C "__len__" sp []) (hgd : X.A.guards = some []) (hr : Room j X.A) (hk : k + 1 ≤ j) (hx : Passes (L2.CX X.prog X.w) X E) :
    CallR X (.builtin "len") (fun xs H Q => ∃ x, xs = [x] ∧ rOwn1 C sp E (fun v => ∃ n : Int, v = .int n ∧ 0 ≤ n ∧ n < 2 ^ 63) x H Q) := by
  intro pins s σ H xs us Q I r h
  obtain ⟨x, rfl, a, dx, fs, rfl, ha, q⟩ := h
  obtain ⟨f, fd, ps, ds, cl, M, F, b, d⟩ := c.ex
  cases d
  cases r with
  | cons rx rn =>
    cases rn
    cases rx
    obtain ⟨ox, od, J, _⟩ := inst_at I ha
    obtain ⟨mm, hF⟩ := I.fr
    refine PySem.W.len_K hF I.ok.mod.kin J M.at_ M.fn ?_
    refine wpAny_mono (run_gA (vs := [.ref a]) (us := [.ref a]) (dvs := []) F hgd (hr.mono hk).in1 rfl b .nil hx I (.cons rfl .nil) q) (fun w s' hw => ?_) fun _ _ z => z
    obtain ⟨v', H', I', rv, ⟨n, ev, h0, h1⟩, q'⟩ := hw
    subst ev
    obtain ⟨t, rfl⟩ := rv
    exact ⟨⟨h0, h1⟩, .int n, H', I'.tok _, ⟨_, rfl⟩, q'⟩
theorem un_negO (c : GM X.prog X.w X.K X.mg X.base k C "__neg__" sp []) (hgd : X.A.guards = some []) (hr : Room j X.A) (hk : k ≤ j) (hx : Passes (L2.CX X.prog X.w) X E) : UnR X (unaryOp .USub) (rOwn1 C sp E fun _ => True) := by
  intro pins s σ H x v Q I rx h
  obtain ⟨a, dx, fs, rfl, ha, q⟩ := h
  obtain ⟨f, fd, ps, ds, cl, M, F, b, d⟩ := c.ex
  cases d
  cases rx
  obtain ⟨ox, od, J, _⟩ := inst_at I ha
  obtain ⟨mm, hF⟩ := I.fr
  refine PySem.W.ksp_neg hF I.ok.mod.kin J M.at_ M.fn (wpAny_mono (run_gA (vs := [.ref a]) (us := [.ref a]) (dvs := []) F hgd (hr.mono hk) rfl b .nil hx I (.cons rfl .nil) q) (fun w s' hw => ?_) fun _ _ z => z)
  obtain ⟨v', H', I', rv, _, q'⟩ := hw
  exact ⟨v', H', I', rv, q'⟩
theorem un_invO (c : GM X.prog X.w X.K X.mg X.base k C "__invert__" sp []) (hgd : X.A.guards = some []) (hr : Room j X.A) (hk : k ≤ j) (hx : Passes (L2.CX X.prog X.w) X E) : UnR X (unaryOp .Invert) (rOwn1 C sp E fun _ => True) := by
  intro pins s σ H x v Q I rx h
  obtain ⟨a, dx, fs, rfl, ha, q⟩ := h
  obtain ⟨f, fd, ps, ds, cl, M, F, b, d⟩ := c.ex
  cases d
  cases rx
  obtain ⟨ox, od, J, _⟩ := inst_at I ha
  obtain ⟨mm, hF⟩ := I.fr
  refine PySem.W.ksp_inv hF I.ok.mod.kin J M.at_ M.fn (wpAny_mono (run_gA (vs := [.ref a]) (us := [.ref a]) (dvs := []) F hgd (hr.mono hk) rfl b .nil hx I (.cons rfl .nil) q) (fun w s' hw => ?_) fun _ _ z => z)
  obtain ⟨v', H', I', rv, _, q'⟩ := hw
  exact ⟨v', H', I', rv, q'⟩
def rOwnB (C : Addr) (sp : Sp) (E : XK) : V → Hp → (Bool → Hp → Prop) → Prop := fun x H Q => ∃ (a dx : Addr) (fs : List (Str × V)), x = .ref a ∧ H a = some (.ins C dx fs) ∧ sp [.ref a] H (fun v H' => ∃ b, v = .bl b ∧ Q b H') E
theorem tru_boolO (c : GM X.prog X.w X.K X.mg X.base k C "__bool__" sp []) (hgd : X.A.guards = some []) (hr : Room j X.A) (hk : k ≤ j) (hx : Passes (L2.CX X.prog X.w) X E) : TruR X (rOwnB C sp E) := by
  intro pins s σ H x v Q I rx h
  obtain ⟨a, dx, fs, rfl, ha, q⟩ := h
  obtain ⟨f, fd, ps, ds, cl, M, F, b, d⟩ := c.ex
  cases d
  cases rx
  obtain ⟨ox, od, J, _⟩ := inst_at I ha
  obtain ⟨mm, hF⟩ := I.fr
  refine PySem.W.truthy_K hF I.ok.mod.kin J M.at_ M.fn (wpAny_mono (run_gA (vs := [.ref a]) (us := [.ref a]) (dvs := []) F hgd (hr.mono hk) rfl b .nil hx I (.cons rfl .nil) q) (fun w s' hw => ?_) fun _ _ z => z)
  obtain ⟨v', H', I', rv, bb, ev, q'⟩ := hw
  subst ev
  cases rv
  exact ⟨H', I', q'⟩
end
end Ev
namespace Ev
open PySem PySem.Spec PyProof.Rows L2
section
variable (P : Program) (w : World) (K : PySem.W.Frag) (mg : Str → Option Value) (base : Heap)
structure GMK (k : Nat) (C : Addr) (m : Str) (sp : Sp) (n : Nat) (ks : List Str) (gV : List V → List V → List V) : Prop where
  ex : ∃ (f : Addr) (fd : FuncData) (ps : List Str) (g : List Value → List Value → List Value), Cls K C ∧ Meth K C m f ∧ GOk P w K mg base (L2.CX P w) k f fd ps sp ∧ KBn K fd ps (n + 1) ks g gV
structure GO (k : Nat) (C : Addr) (sp : Sp) (n : Nat) (ks : List Str) (gV : List V → List V → List V) : Prop where
  ex : ∃ (f : Addr) (fd : FuncData) (ps : List Str) (g : List Value → List Value → List Value), Meth K C "__call__" f ∧ PySem.W.fnIn K f = true ∧ GOk P w K mg base (L2.CX P w) k f fd ps sp ∧ KBn K fd ps (n + 1) ks g gV
structure GS (k : Nat) (C : Addr) (m : Str) (sp : Sp) (dvs : List V) : Prop where
  ex : ∃ (p f : Addr) (fd : FuncData) (ps : List Str) (ds : List Value), Cls K C ∧ PySem.W.findIn K (.ref C) m = some (some (.ref p)) ∧ PySem.W.typeIn K (.ref p) = some (.type "staticmethod") ∧
    PySem.W.specialIn K (.ref p) "__get__" = some (some (.builtin "staticmethod.__get__")) ∧ PySem.W.takesIn K (.ref p) = some false ∧ PySem.W.copiedNames.contains m = false ∧ (∃ rest, PySem.W.recIn K p "staticmethod" = some (.ref f :: rest)) ∧
    PySem.W.keepIn K (.ref f) = true ∧ GOk P w K mg base (L2.CX P w) k f fd ps sp ∧ Binds K fd ps ds ∧ Vals dvs ds
end
section
variable {X : Cx} {k j n : Nat} {C : Addr} {x m : Str} {sp : Sp} {dvs : List V} {E : XK} {p pos apos : Pos} {e o : Expr} {es : List Expr} {ta : TE} {t tk : TA} {kws : List Keyword} {ks : List Str} {gV : List V → List V → List V}
def tMethK (C : Addr) (m : Str) (n l : Nat) (sp : Sp) (gV : List V → List V → List V) (E : XK) (ta : TE) (t tk : TA) : TE := fun σ H Q => ta σ H fun x H1 => ∃ a dx fs, x = .ref a ∧ H1 a = some (.ins C dx fs) ∧ fs.lookup m = none ∧
  t σ H1 fun vs H2 => tk σ H2 fun zs H3 => vs.length = n ∧ zs.length = l ∧ sp (gV (x :: vs) zs) H3 Q E
theorem run_gmk {f : Addr} {fd : FuncData} {ps : List Str} {g : List Value → List Value → List Value} {pins : List (Addr × Obj)} {σ : L2.St} {H : Hp} {s : Shared} {Q : VK} {a : Addr} {us ws : List Value} {vs zs : List V} (F : GOk X.prog X.w X.K X.mg X.base (L2.CX X.prog X.w) k f fd ps sp) (hgd : X.A.guards = some []) (hr : Room k X.A)
    (hb : KBn X.K fd ps (n + 1) ks g gV) (hx : Passes (L2.CX X.prog X.w) X E) (I : Inv X pins σ H s) (r : Vals vs us) (rz : Vals zs ws) (l1 : vs.length = n) (l2 : zs.length = ks.length) (h : sp (gV (.ref a :: vs) zs) H Q E) :
    wpAny (model X.prog X.w) X.A (call (.ref f) (.ref a :: us) (ks.zip ws)) (EP X pins σ Q) X.xe s :=
  run_gk (vs := .ref a :: vs) F hgd hr hb hx I (.cons rfl r) rz (by rw [List.length_cons, l1]) l2 h
theorem pe_mKE {pl : Sem Bool} (c : GMK X.prog X.w X.K X.mg X.base k C m sp n ks gV) (hgd : X.A.guards = some []) (hr : Room j X.A) (hk : k ≤ j) (hx : Passes (L2.CX X.prog X.w) X E) (ho : PE X o ta)
    (ha : PA X (e :: es) t) (hkw : PK X kws tk) (hall : (backToKw pos (keywordEach kws X.env)).all (·.1.isSome) = true := by rfl) (hks : (backToKw pos (keywordEach kws X.env)).filterMap (·.1) = ks := by rfl)
    (he : starEach (e :: es) X.env = (false, eval e X.env) :: starEach es X.env := by rfl)
    (hpl : ((backTo pos (starEach (e :: es) X.env)).any (·.1) || (backToKw pos (keywordEach kws X.env)).any (·.1.isNone)) = false := by rfl)
    (ht : eval (.Call (.Attribute o m apos) (e :: es) kws pos) X.env = (do
      let ov ← eval o X.env
      standAt apos.atName
      let (f, first) ← holding [ov] (getMethod ov m pl)
      callWith pos f first (backTo pos (starEach (e :: es) X.env)) (backToKw pos (keywordEach kws X.env))) := by rfl) :
    PE X (.Call (.Attribute o m apos) (e :: es) kws pos) (tMethK C m n ks.length sp gV E ta t tk) := by
  obtain ⟨_, _, _, _, hc, hm, F, b⟩ := c.ex
  refine ⟨fun pins s σ H Q I h => PySem.W.methodCall_KW (pl := pl) (thn (ho.run pins s σ H _ I h) fun u s1 ⟨x, H1, I1, rx, a, dx, fs, ex, ea, l, q⟩ => ?_) ht⟩
  subst ex
  cases rx
  refine getmeth_ok I1 ea hc hm l (PySem.W.callWith_KW (first := [.ref a]) (h₀ := X.base) I.ok.mod.kin hm.kp hall (thn (ha.run pos pins s1 σ H1 _ I1 q) fun us s2 ⟨vs, H2, I2, r, q2⟩ => ?_) hpl he)
  refine thn (hkw.run pos pins s2 σ H2 _ I2 q2) fun ws s3 ⟨zs, H3, I3, rz, l1, l2, q3⟩ => ⟨I3.kIn, ?_⟩
  rw [hks]
  exact run_gmk F hgd (hr.mono hk) b hx I3 r rz l1 l2 q3
theorem pe_mK0E {pl : Sem Bool} (c : GMK X.prog X.w X.K X.mg X.base k C m sp 0 ks gV) (hgd : X.A.guards = some []) (hr : Room j X.A) (hk : k ≤ j) (hx : Passes (L2.CX X.prog X.w) X E) (ho : PE X o ta)
    (hkw : PK X kws tk) (hall : (backToKw pos (keywordEach kws X.env)).all (·.1.isSome) = true := by rfl) (hks : (backToKw pos (keywordEach kws X.env)).filterMap (·.1) = ks := by rfl)
    (hpl : ((backTo pos (starEach [] X.env)).any (·.1) || (backToKw pos (keywordEach kws X.env)).any (·.1.isNone)) = false := by rfl)
    (ht : eval (.Call (.Attribute o m apos) [] kws pos) X.env = (do
      let ov ← eval o X.env
      standAt apos.atName
      let (f, first) ← holding [ov] (getMethod ov m pl)
      callWith pos f first (backTo pos (starEach [] X.env)) (backToKw pos (keywordEach kws X.env))) := by rfl) :
    PE X (.Call (.Attribute o m apos) [] kws pos) (tMethK C m 0 ks.length sp gV E ta tNil tk) := by
  obtain ⟨_, _, _, _, hc, hm, F, b⟩ := c.ex
  refine ⟨fun pins s σ H Q I h => PySem.W.methodCall_KW (pl := pl) (thn (ho.run pins s σ H _ I h) fun u s1 ⟨x, H1, I1, rx, a, dx, fs, ex, ea, l, q⟩ => ?_) ht⟩
  subst ex
  cases rx
  refine getmeth_ok I1 ea hc hm l (PySem.W.callWith_KW0 (first := [.ref a]) (h₀ := X.base) I.ok.mod.kin hm.kp hall ?_ hpl)
  refine thn (hkw.run pos pins s1 σ H1 _ I1 q) fun ws s3 ⟨zs, H3, I3, rz, l1, l2, q3⟩ => ⟨I3.kIn, ?_⟩
  rw [hks]
  exact run_gmk (us := []) (vs := []) F hgd (hr.mono hk) b hx I3 .nil rz rfl l2 q3
def tInst (C : Addr) (n l : Nat) (sp : Sp) (gV : List V → List V → List V) (E : XK) (ta : TE) (t tk : TA) : TE := fun σ H Q => ta σ H fun x H1 => ∃ a, x = V.ref a ∧
  t σ H1 fun vs H2 => tk σ H2 fun zs H3 => vs.length = n ∧ zs.length = l ∧ (∃ dx fs, H3 a = some (.ins C dx fs)) ∧ sp (gV (x :: vs) zs) H3 Q E
theorem inst_kw {M : Model} {A : Around} {E : Value → Shared → Prop} {s : Shared} {a : Addr} {pos : Pos} {Q : Value → Shared → Prop} {args : List (Bool × Sem Value)} {kw : List (Option Str × Sem Value)} (hplain : (args.any (·.1) || kw.any (·.1.isNone)) = false)
    (h : wpAny M A (evalArgs (.ref a) true args kw) (fun z s₁ => (∃ C ox od, PySem.W.InstAt s₁.heap a ox C od ∧ ox.data = .plain) ∧ wpAny M A (call (.ref a) ([] ++ z.pos) z.kw) Q E s₁) E s) : wpAny M A (callWith pos (.ref a) [] args kw) Q E s := by
  unfold callWith
  refine wpAny_bind (wpAny_holding (wpAny_mono h (fun z s₁ h₁ => wpAny_bind (wpAny_standAt ?_)) fun _ _ y => y))
  obtain ⟨⟨C, ox, od, J, hd⟩, h₁⟩ := h₁
  have L := PySem.W.kco_keeper (M := M) J hd
  simp only [hplain]
  refine wpAny_bind (L.here ?_)
  have tail : ∀ {t : Sem Value}, wpAny M A t Q E s₁ → wpAny M A (t >>= fun r => holding [r] point >>= fun _ => pure r) Q E s₁ :=
    fun ht => wpAny_bind (wpAny_mono ht (fun r s₂ hr => wpAny_bind (wpAny_holding (wpAny_point (wpAny_pure hr)))) fun _ _ y => y)
  first
    | exact tail (wpAny_operateT h₁)
    | exact tail h₁
theorem run_o {f : Addr} {fd : FuncData} {ps : List Str} {g : List Value → List Value → List Value} {pins : List (Addr × Obj)} {σ : L2.St} {H : Hp} {s : Shared} {Q : VK} {a dx : Addr} {fs : List (Str × V)} {us ws : List Value} {vs zs : List V} (hm : Meth X.K C "__call__" f) (hfi : PySem.W.fnIn X.K f = true)
    (F : GOk X.prog X.w X.K X.mg X.base (L2.CX X.prog X.w) k f fd ps sp) (hgd : X.A.guards = some []) (hr : Room k X.A)
    (hb : KBn X.K fd ps (n + 1) ks g gV) (hx : Passes (L2.CX X.prog X.w) X E) (I : Inv X pins σ H s) (ha : H a = some (.ins C dx fs)) (r : Vals vs us) (rz : Vals zs ws) (l1 : vs.length = n) (l2 : zs.length = ks.length) (h : sp (gV (.ref a :: vs) zs) H Q E) :
    wpAny (model X.prog X.w) X.A (call (.ref a) us (ks.zip ws)) (EP X pins σ Q) X.xe s := by
  obtain ⟨ox, od, J, hd⟩ := inst_at I ha
  have r2 : Vals (.ref a :: vs) (.ref a :: us) := .cons rfl r
  refine wpAny_call (PySem.W.kco_code (a := ⟨us, ks.zip ws⟩) I.kIn J hd hm.at_ hm.fn hfi (codeAny_mono (F.run X.A X.stack s H ⟨.ref a :: us, ks.zip ws⟩ (g (.ref a :: us) ws) (gV (.ref a :: vs) zs) Q E hgd hr I.env0
    (hb.to s _ ws I.kIn (r2.length.symm.trans (by rw [List.length_cons, l1])) (rz.length.symm.trans l2)) (hb.rel r2 rz) h) fun res s' hq => ?_))
  match res, hq with
  | .error e, hq => exact hx pins σ H s e s' I hq
  | .ok (.ret u), hq => exact I.after hq
  | .ok .next, hq => exact hq.elim
  | .ok .brk, hq => exact hq.elim
  | .ok .cont, hq => exact hq.elim
theorem pe_oE (c : GO X.prog X.w X.K X.mg X.base k C sp n [] gV) (hgd : X.A.guards = some []) (hr : Room j X.A) (hk : k ≤ j) (hx : Passes (L2.CX X.prog X.w) X E) (ho : PE X o ta) (ha : PA X (e :: es) t)
    (ht : eval (.Call o (e :: es) [] pos) X.env = (do callWith pos (← eval o X.env) [] (backTo pos (starEach (e :: es) X.env)) (backToKw pos (keywordEach [] X.env))) := by rfl)
    (he : starEach (e :: es) X.env = (false, eval e X.env) :: starEach es X.env := by rfl) (hpl : (backTo pos (starEach es X.env)).any (·.1) = false := by rfl) : PE X (.Call o (e :: es) [] pos) (tInst C n 0 sp gV E ta t tNil) := by
  obtain ⟨_, _, _, _, hm, hfi, F, b⟩ := c.ex
  refine ⟨fun pins s σ H Q I h => ?_⟩
  refine Call_ (thn (ho.run pins s σ H _ I h) fun u s1 ⟨y, H1, I1, ry, a, ey, q⟩ => ?_) ht
  subst ey
  obtain rfl : u = Value.ref a := ry
  refine StX.callO_with (thn (ha.run pos pins s1 σ H1 _ I1 q) fun us s2 ⟨vs, H2, I2, r, l1, l2, ⟨dx, fs, hi⟩, q2⟩ => ?_) he hpl
  obtain ⟨ox, od, J, hd⟩ := inst_at I2 hi
  exact ⟨⟨C, ox, od, J, hd⟩, run_o (ks := []) (ws := []) (zs := []) hm hfi F hgd (hr.mono hk) b hx I2 hi r .nil l1 rfl q2⟩
theorem pe_oK0E (c : GO X.prog X.w X.K X.mg X.base k C sp 0 ks gV) (hgd : X.A.guards = some []) (hr : Room j X.A) (hk : k ≤ j) (hx : Passes (L2.CX X.prog X.w) X E) (ho : PE X o ta) (hkw : PK X kws tk)
    (hall : (backToKw pos (keywordEach kws X.env)).all (·.1.isSome) = true := by rfl) (hks : (backToKw pos (keywordEach kws X.env)).filterMap (·.1) = ks := by rfl)
    (ht : eval (.Call o [] kws pos) X.env = (do callWith pos (← eval o X.env) [] (backTo pos (starEach [] X.env)) (backToKw pos (keywordEach kws X.env))) := by rfl)
    (hpl : ((backTo pos (starEach [] X.env)).any (·.1) || (backToKw pos (keywordEach kws X.env)).any (·.1.isNone)) = false := by rfl) : PE X (.Call o [] kws pos) (tInst C 0 ks.length sp gV E ta tNil tk) := by
  obtain ⟨_, _, _, _, hm, hfi, F, b⟩ := c.ex
  refine ⟨fun pins s σ H Q I h => ?_⟩
  rw [ht]
  refine wpAny_bind (thn (ho.run pins s σ H _ I h) fun u s1 ⟨y, H1, I1, ry, a, ey, q⟩ => ?_)
  subst ey
  obtain rfl : u = Value.ref a := ry
  refine inst_kw hpl (PySem.evalArgs_kw_nil hall (thn (hkw.run pos pins s1 σ H1 _ I1 q) fun ws s2 ⟨zs, H2, I2, rz, l1, l2, ⟨dx, fs, hi⟩, q2⟩ => ?_))
  obtain ⟨ox, od, J, hd⟩ := inst_at I2 hi
  refine ⟨⟨C, ox, od, J, hd⟩, ?_⟩
  rw [hks]
  exact run_o (us := []) (vs := []) hm hfi F hgd (hr.mono hk) b hx I2 hi .nil rz rfl l2 q2
theorem pe_sE {pl : Sem Bool} (c : GS X.prog X.w X.K X.mg X.base k C m sp dvs) (hgd : X.A.guards = some []) (hr : Room j X.A) (hk : k ≤ j) (hx : Passes (L2.CX X.prog X.w) X E) (he : PE X o ta) (ha : PA X (e :: es) t)
    (hst : starEach (e :: es) X.env = (false, eval e X.env) :: starEach es X.env := by rfl) (hpl : (backTo pos (starEach es X.env)).any (·.1) = false := by rfl)
    (ht : eval (.Call (.Attribute o m apos) (e :: es) [] pos) X.env = (do
      let ov ← eval o X.env
      standAt apos.atName
      let (f, first) ← holding [ov] (getMethod ov m pl)
      callWith pos f first (backTo pos (starEach (e :: es) X.env)) (backToKw pos (keywordEach [] X.env))) := by rfl) :
    PE X (.Call (.Attribute o m apos) (e :: es) [] pos) (fun σ H Q => ta σ H fun x H1 => ∃ a dx fs, x = .ref a ∧ H1 a = some (.ins C dx fs) ∧ fs.lookup m = none ∧ t σ H1 fun vs H2 => sp (vs ++ dvs) H2 Q E) := by
  obtain ⟨p, f, fd, ps, ds, hc, ha', hty, hg, htk, hcp, ⟨rest, hrc⟩, hkp, F, b, d⟩ := c.ex
  refine ⟨fun pins s σ H Q I h => PySem.W.methodCall_KW (pl := pl) (thn (he.run pins s σ H _ I h) fun u s1 ⟨x, H1, I1, rx, a, dx, fs, ex, ea, l, q⟩ => ?_) ht⟩
  subst ex
  cases rx
  obtain ⟨mA, O, r, _, _, _⟩ := ins_get I1.hok ea
  have hn : mA m = none := RelO.none_of (by rw [← l]; exact r m)
  obtain ⟨od, J, hl⟩ := O.look
  have hl' : PySem.W.lookIn m od = some none := by
    have := hl m
    rw [hn] at this
    exact this
  have hcl : PySem.W.isClsIn X.K C = true := by
    obtain ⟨cd, hc', _⟩ := PySem.W.any_some hc.hd
    show (PySem.W.clsIn X.K C).isSome = true
    rw [hc']
    rfl
  refine PySem.W.method_usual (r := some (.ref p)) I1.kIn J (PySem.W.plainGet_of (hc.get m)).1 (PySem.W.plainGet_of (hc.get m)).2 ha' ?_ ?_
  · simp only [Option.all_some, hty, Option.any_some]
    decide +kernel
  · refine PySem.W.get_bind I1.kIn J (PySem.W.plainGet_of (hc.get m)).1 (ClX.find_cm hcl ha' hg htk hcp hl') (PySem.W.plainGet_of (hc.get m)).2 ?_
    refine wpAny_call (PySem.W.sm_get (s := { s1 with toks := s1.toks + 1 }) I1.kIn hrc (PySem.W.handed_on rfl ?_))
    exact PySem.W.callWith_K (first := []) (h₀ := X.base) I.ok.mod.kin hkp (thn (ha.run pos pins _ σ H1 _ (I1.tok _) q) fun us s2 ⟨vs, H2, I2, r, q2⟩ => ⟨I2.kIn, run_gp F hgd (hr.mono hk) b d hx I2 r q2⟩) hst hpl
def tMethP (D : Addr → Prop) (m : Str) (sp : Addr → Sp) (dvs : List V) (E : XK) (ta : TE) (t : TA) : TE := fun σ H Q => ta σ H fun x H1 => ∃ a C dx fs, x = .ref a ∧ D C ∧ H1 a = some (.ins C dx fs) ∧ fs.lookup m = none ∧
  t σ H1 fun vs H2 => sp C (x :: (vs ++ dvs)) H2 Q E
theorem pe_mP {D : Addr → Prop} {sp : Addr → Sp} {pl : Sem Bool} (c : ∀ C, D C → GM X.prog X.w X.K X.mg X.base k C m (sp C) dvs) (hgd : X.A.guards = some []) (hr : Room j X.A) (hk : k ≤ j) (hx : Passes (L2.CX X.prog X.w) X E) (he : PE X o ta) (ha : PA X (e :: es) t)
    (hst : starEach (e :: es) X.env = (false, eval e X.env) :: starEach es X.env := by rfl) (hpl : (backTo pos (starEach es X.env)).any (·.1) = false := by rfl)
    (ht : eval (.Call (.Attribute o m apos) (e :: es) [] pos) X.env = (do
      let ov ← eval o X.env
      standAt apos.atName
      let (f, first) ← holding [ov] (getMethod ov m pl)
      callWith pos f first (backTo pos (starEach (e :: es) X.env)) (backToKw pos (keywordEach [] X.env))) := by rfl) :
    PE X (.Call (.Attribute o m apos) (e :: es) [] pos) (tMethP D m sp dvs E ta t) := by
  refine ⟨fun pins s σ H Q I h => PySem.W.methodCall_KW (pl := pl) (thn (he.run pins s σ H _ I h) fun u s1 ⟨x, H1, I1, rx, a, C, dx, fs, ex, hD, ea, l, q⟩ => ?_) ht⟩
  subst ex
  cases rx
  obtain ⟨_, _, _, _, hc, hm, F, b, d⟩ := (c C hD).ex
  exact getmeth_ok I1 ea hc hm l (PySem.W.callWith_K (first := [.ref a]) (h₀ := X.base) I.ok.mod.kin hm.kp (thn (ha.run pos pins s1 σ H1 _ I1 q) fun us s2 ⟨vs, H2, I2, r, q2⟩ =>
    ⟨I2.kIn, run_gp (us := .ref a :: us) (vs := .ref a :: vs) F hgd (hr.mono hk) b d hx I2 (.cons rfl r) q2⟩) hst hpl)
theorem pe_mPK0 {D : Addr → Prop} {sp : Addr → Sp} {pl : Sem Bool} (c : ∀ C, D C → GMK X.prog X.w X.K X.mg X.base k C m (sp C) 0 ks gV) (hgd : X.A.guards = some []) (hr : Room j X.A) (hk : k ≤ j) (hx : Passes (L2.CX X.prog X.w) X E) (ho : PE X o ta)
    (hkw : PK X kws tk) (hall : (backToKw pos (keywordEach kws X.env)).all (·.1.isSome) = true := by rfl) (hks : (backToKw pos (keywordEach kws X.env)).filterMap (·.1) = ks := by rfl)
    (hpl : ((backTo pos (starEach [] X.env)).any (·.1) || (backToKw pos (keywordEach kws X.env)).any (·.1.isNone)) = false := by rfl)
    (ht : eval (.Call (.Attribute o m apos) [] kws pos) X.env = (do
      let ov ← eval o X.env
      standAt apos.atName
      let (f, first) ← holding [ov] (getMethod ov m pl)
      callWith pos f first (backTo pos (starEach [] X.env)) (backToKw pos (keywordEach kws X.env))) := by rfl) :
    PE X (.Call (.Attribute o m apos) [] kws pos) (fun σ H Q => ta σ H fun x H1 => ∃ a C dx fs, x = .ref a ∧ D C ∧ H1 a = some (.ins C dx fs) ∧ fs.lookup m = none ∧ tk σ H1 fun zs H3 => zs.length = ks.length ∧ sp C (gV [x] zs) H3 Q E) := by
  refine ⟨fun pins s σ H Q I h => PySem.W.methodCall_KW (pl := pl) (thn (ho.run pins s σ H _ I h) fun u s1 ⟨x, H1, I1, rx, a, C, dx, fs, ex, hD, ea, l, q⟩ => ?_) ht⟩
  subst ex
  cases rx
  obtain ⟨_, _, _, _, hc, hm, F, b⟩ := (c C hD).ex
  refine getmeth_ok I1 ea hc hm l (PySem.W.callWith_KW0 (first := [.ref a]) (h₀ := X.base) I.ok.mod.kin hm.kp hall ?_ hpl)
  refine thn (hkw.run pos pins s1 σ H1 _ I1 q) fun ws s3 ⟨zs, H3, I3, rz, l2, q3⟩ => ⟨I3.kIn, ?_⟩
  rw [hks]
  exact run_gmk (us := []) (vs := []) F hgd (hr.mono hk) b hx I3 .nil rz rfl l2 q3
end
end Ev
namespace Ev
open PySem PySem.Spec PyProof.Rows L2
def SI (b : Bool) (h : Heap) (it l : Addr) (k : Nat) : Prop := match b with
  | true => h.IsListIter it l k
  | false => h.IsTupleIter it l k
def SS (b : Bool) (h : Heap) (l : Addr) (xs : Array Value) : Prop := match b with
  | true => h.IsList l xs
  | false => h.IsTuple l xs
theorem SI.to {b : Bool} {h h' : Heap} {it l : Addr} {k : Nat} (x : SI b h it l k) (e : ∀ o, h.get? it = some o → h'.get? it = some o) : SI b h' it l k := by
  cases b
  · obtain ⟨o, ho, r⟩ := x
    exact ⟨o, e o ho, r⟩
  · obtain ⟨o, ho, r⟩ := x
    exact ⟨o, e o ho, r⟩
theorem SS.to {b : Bool} {h h' : Heap} {l : Addr} {xs : Array Value} (x : SS b h l xs) (e : ∀ o, h.get? l = some o → h'.get? l = some o) : SS b h' l xs := by
  cases b
  · obtain ⟨o, ho, r⟩ := x
    exact ⟨o, e o ho, r⟩
  · obtain ⟨o, ho, r⟩ := x
    exact ⟨o, e o ho, r⟩
theorem SI.obj {b : Bool} {h : Heap} {it l : Addr} {k : Nat} (x : SI b h it l k) : ∃ o, h.get? it = some o ∧ o.data = .fields #[.ref l, .int k 0] := by
  cases b
  · obtain ⟨o, ho, _, d⟩ := x
    exact ⟨o, ho, d⟩
  · obtain ⟨o, ho, _, d⟩ := x
    exact ⟨o, ho, d⟩
theorem SS.lt {b : Bool} {h : Heap} {l : Addr} {xs : Array Value} (x : SS b h l xs) : l < h.objs.size := by
  cases b
  · obtain ⟨o, ho, _⟩ := x
    exact Heap.lt_size ho
  · obtain ⟨o, ho, _⟩ := x
    exact Heap.lt_size ho
section
variable {prog : Program} {w : World} {A : Around} {E : Value → Shared → Prop} {s : Shared}
theorem si_item {b : Bool} {it l : Addr} {i : Nat} {items : Array Value} {x : Value} {Q : Value → Shared → Prop} (hit : SI b s.heap it l i) (hl : SS b s.heap l items) (hx : items[i]? = some x)
    (hQ : ∀ h', SI b h' it l (i + 1) → Heap.SameBut it s.heap h' → Q x { s with heap := h' }) : wpAny (model prog w) A (Builtin.SmallTypes.nextOf (.ref it)) Q E s := by
  cases b
  · exact RZ.nextOf_tuple_item hit hl hx hQ
  · exact wpAny_nextOf_list_item hit hl hx hQ
theorem si_end {b : Bool} {it l : Addr} {i : Nat} {items : Array Value} {Q : Value → Shared → Prop} (hh : A.handled = none) (hit : SI b s.heap it l i) (hl : SS b s.heap l items) (hx : items[i]? = none)
    (hE : ∀ h' e, Heap.ExtBut it s.heap h' → (∃ o, h'.get? e = some o ∧ o.cls = .type "StopIteration") → E (.ref e) { s with heap := h' }) : wpAny (model prog w) A (Builtin.SmallTypes.nextOf (.ref it)) Q E s := by
  cases b
  · exact RZ.nextOf_tuple_end hh hit hl hx hE
  · exact wpAny_nextOf_list_end hh hit hl hx hE
theorem zk_item {b1 b2 : Bool} {z TI TO i1 i2 l1 l2 : Addr} {k1 k2 : Nat} {xs ys : Array Value} {x y a b : Value} {Q : Value → Shared → Prop} (D : ZipApart z TI TO i1 i2 l1 l2) (hz : IsZip s.heap z TI TO .none) (hTI : IsPair s.heap TI (.ref i1) (.ref i2)) (hTO : IsPair s.heap TO a b)
    (h1 : SI b1 s.heap i1 l1 k1) (h2 : SI b2 s.heap i2 l2 k2) (hl1 : SS b1 s.heap l1 xs) (hl2 : SS b2 s.heap l2 ys) (hx : xs[k1]? = some x) (hy : ys[k2]? = some y)
    (hQ : ∀ h', IsZip h' z TI TO (rawInt s.heap.objs.size) → IsPair h' TO x y → SI b1 h' i1 l1 (k1 + 1) → SI b2 h' i2 l2 (k2 + 1) → IsPair h' s.heap.objs.size x y → (∀ c o, c ≠ z → c ≠ TO → c ≠ i1 → c ≠ i2 → s.heap.get? c = some o → h'.get? c = some o) → Q (.ref s.heap.objs.size) { s with heap := h' }) :
    wpAny (model prog w) A (Builtin.«zip.__next__» ⟨[.ref z], []⟩) (fun fin s' => ∃ v, fin = .done (.ret v) ∧ Q v s') E s := by
  show wpAny _ _ (field (.ref z) 2 >>= _) _ _ _
  refine wpAny_bind (wpAny_field hz rfl (x := .bool false) rfl ?_)
  show wpAny _ _ (field (.ref z) 3 >>= _) _ _ _
  refine wpAny_bind (wpAny_field hz rfl (x := .ref TI) rfl (wpAny_bind (wpAny_seqItems hTI rfl ?_)))
  show wpAny _ _ (Builtin.SmallTypes.ownedTupleIsFree (.ref z) >>= _) _ _ _
  refine wpAny_bind ?_
  unfold Builtin.SmallTypes.ownedTupleIsFree
  refine wpAny_bind (wpAny_field hz rfl (x := .none) rfl (wpAny_pure ?_))
  simp only [if_true]
  refine wpAny_bind (wpAny_rule (wpAny_bind (wpAny_field hz rfl (x := .ref TO) rfl (wpAny_bind (wpAny_setField_rec hz (by simp) fun g1 zz1 e1 => ?_)))))
  replace zz1 : IsZip g1 z TI TO .ellipsis := zz1
  have q1 : ∀ c o, c ≠ z → s.heap.get? c = some o → g1.get? c = some o := fun c o n h => e1.extBut _ _ n h
  refine wpAny_bind ?_
  simp only [List.zipIdx_cons, List.zipIdx_nil, List.forIn_cons, List.forIn_nil]
  refine wpAny_bind (wpAny_bind (wpAny_onRaise ?_))
  show wpAny _ _ (Builtin.SmallTypes.nextOf (.ref i1) >>= _) _ _ _
  refine wpAny_bind (si_item (s := { s with heap := g1 }) (h1.to fun o => q1 _ o D.i1z) (hl1.to fun o => q1 _ o D.l1z) hx fun g2 n1 e2 => wpAny_pure ?_)
  have q2 : ∀ c o, c ≠ z → c ≠ i1 → s.heap.get? c = some o → g2.get? c = some o := fun c o n m h => e2.extBut _ _ m (q1 c o n h)
  have p2 : IsPair g2 TO a b := q2 _ _ D.TOz D.TOi1 hTO
  refine wpAny_bind (wpAny_seqItems p2 rfl (wpAny_bind (wpAny_updateSeq_pair p2 fun g3 p3 e3 => wpAny_bind (wpAny_letGo (wpAny_pure ?_)))))
  replace p3 : IsPair g3 TO x b := p3
  have q3 : ∀ c o, c ≠ z → c ≠ i1 → c ≠ TO → s.heap.get? c = some o → g3.get? c = some o := fun c o n m l h => e3.extBut _ _ l (q2 c o n m h)
  refine wpAny_bind (wpAny_bind (wpAny_onRaise ?_))
  show wpAny _ _ (Builtin.SmallTypes.nextOf (.ref i2) >>= _) _ _ _
  refine wpAny_bind (si_item (s := { s with heap := g3 }) (h2.to fun o => q3 _ o D.i2z D.i12.symm D.TOi2.symm) (hl2.to fun o => q3 _ o D.l2z D.l2i1 D.l2TO) hy fun g4 n2 e4 => wpAny_pure ?_)
  have p4 : IsPair g4 TO x b := e4.extBut _ _ D.TOi2 p3
  refine wpAny_bind (wpAny_seqItems p4 rfl (wpAny_bind (wpAny_updateSeq_pair p4 fun g5 p5 e5 => wpAny_bind (wpAny_letGo (wpAny_pure (wpAny_pure ?_))))))
  replace p5 : IsPair g5 TO x y := p5
  refine wpAny_bind (wpAny_seqItems p5 rfl (wpAny_bind (wpAny_newTuple ?_)))
  have hsz : g5.objs.size = s.heap.objs.size := by rw [e5.1, e4.1, e3.1, e2.1, e1.1]
  have z5 : IsZip g5 z TI TO .ellipsis := e5.extBut _ _ D.TOz.symm (e4.extBut _ _ D.i2z.symm (e3.extBut _ _ D.TOz.symm (e2.extBut _ _ D.i1z.symm zz1)))
  have q5 : ∀ c o, c ≠ z → c ≠ TO → c ≠ i1 → c ≠ i2 → s.heap.get? c = some o → g5.get? c = some o := fun c o a1 a2 a3 a4 h => e5.extBut _ _ a2 (e4.extBut _ _ a4 (q3 c o a1 a3 a2 h))
  have m1 : SI b1 g5 i1 l1 (k1 + 1) := n1.to fun o h => e5.extBut _ _ D.TOi1.symm (e4.extBut _ _ D.i12 (e3.extBut _ _ D.TOi1.symm h))
  have m2 : SI b2 g5 i2 l2 (k2 + 1) := n2.to fun o h => e5.extBut _ _ D.TOi2.symm h
  show wpAny _ _ (Builtin.SmallTypes.ownedTupleHandOut (.ref z) (.ref g5.objs.size) >>= _) _ _ _
  refine wpAny_bind ?_
  unfold Builtin.SmallTypes.ownedTupleHandOut
  have z6 : IsZip (g5.push { cls := .type "tuple", data := .seq #[x, y] }) z TI TO .ellipsis := Heap.get?_push_of_some _ z5
  refine wpAny_bind (wpAny_setField_rec z6 (by simp) fun g7 z7 e7 => ?_)
  replace z7 : IsZip g7 z TI TO (rawInt g5.objs.size) := z7
  refine wpAny_setField_rec z7 (by simp) fun g8 z8 e8 => ?_
  replace z8 : IsZip g8 z TI TO (rawInt g5.objs.size) := z8
  have up : ∀ c o, c ≠ z → g5.get? c = some o → g8.get? c = some o := fun c o n h => e8.extBut _ _ n (e7.extBut _ _ n (Heap.get?_push_of_some _ h))
  have zl : z < g5.objs.size := Heap.lt_size z5
  have pp : IsPair g8 g5.objs.size x y := e8.extBut _ _ (Nat.ne_of_gt zl) (e7.extBut _ _ (Nat.ne_of_gt zl) (Heap.get?_push_size _ rfl))
  rw [hsz] at z8 pp
  refine wpAny_pure ⟨_, rfl, ?_⟩
  show Q (.ref g5.objs.size) _
  rw [hsz]
  exact hQ g8 z8 (up _ _ D.TOz p5) (m1.to fun o h => up _ o D.i1z h) (m2.to fun o h => up _ o D.i2z h) pp fun c o a1 a2 a3 a4 h => up c o a1 (q5 c o a1 a2 a3 a4 h)
theorem zk_end {b1 b2 : Bool} {z TI TO i1 i2 l1 l2 : Addr} {k1 k2 : Nat} {xs ys : Array Value} {a b : Value} {Q : Fin → Shared → Prop} (hh : A.handled = none) (D : ZipApart z TI TO i1 i2 l1 l2) (hz : IsZip s.heap z TI TO .none) (hTI : IsPair s.heap TI (.ref i1) (.ref i2)) (hTO : IsPair s.heap TO a b)
    (h1 : SI b1 s.heap i1 l1 k1) (h2 : SI b2 s.heap i2 l2 k2) (hl1 : SS b1 s.heap l1 xs) (hl2 : SS b2 s.heap l2 ys) (hend : xs[k1]? = none ∨ ys[k2]? = none)
    (hE : ∀ h' e, (∀ c o, c ≠ z → c ≠ TO → c ≠ i1 → c ≠ i2 → s.heap.get? c = some o → h'.get? c = some o) → (∃ o, h'.get? e = some o ∧ o.cls = .type "StopIteration") → E (.ref e) { s with heap := h' }) :
    wpAny (model prog w) A (Builtin.«zip.__next__» ⟨[.ref z], []⟩) Q E s := by
  show wpAny _ _ (field (.ref z) 2 >>= _) _ _ _
  refine wpAny_bind (wpAny_field hz rfl (x := .bool false) rfl ?_)
  show wpAny _ _ (field (.ref z) 3 >>= _) _ _ _
  refine wpAny_bind (wpAny_field hz rfl (x := .ref TI) rfl (wpAny_bind (wpAny_seqItems hTI rfl ?_)))
  show wpAny _ _ (Builtin.SmallTypes.ownedTupleIsFree (.ref z) >>= _) _ _ _
  refine wpAny_bind ?_
  unfold Builtin.SmallTypes.ownedTupleIsFree
  refine wpAny_bind (wpAny_field hz rfl (x := .none) rfl (wpAny_pure ?_))
  simp only [if_true]
  refine wpAny_bind (wpAny_rule (wpAny_bind (wpAny_field hz rfl (x := .ref TO) rfl (wpAny_bind (wpAny_setField_rec hz (by simp) fun g1 zz1 e1 => ?_)))))
  replace zz1 : IsZip g1 z TI TO .ellipsis := zz1
  have q1 : ∀ c o, c ≠ z → s.heap.get? c = some o → g1.get? c = some o := fun c o n h => e1.extBut _ _ n h
  refine wpAny_bind ?_
  simp only [List.zipIdx_cons, List.zipIdx_nil, List.forIn_cons, List.forIn_nil]
  refine wpAny_bind (wpAny_bind (wpAny_onRaise ?_))
  show wpAny _ _ (Builtin.SmallTypes.nextOf (.ref i1) >>= _) _ _ _
  cases hx : xs[k1]? with
  | none =>
    refine wpAny_bind (si_end (s := { s with heap := g1 }) hh (h1.to fun o => q1 _ o D.i1z) (hl1.to fun o => q1 _ o D.l1z) hx fun g2 e e2 he => ?_)
    obtain ⟨oe, hoe, hce⟩ := he
    have z2 : IsZip g2 z TI TO .ellipsis := e2 _ _ D.i1z.symm zz1
    have hez : e ≠ z := fun x => by
      subst x
      rw [z2] at hoe
      cases hoe
      simp at hce
    exact wpAny_setField_rec z2 (by simp) fun g3 _ e3 => hE g3 e (fun c o a1 _ a3 _ h => e3.extBut _ _ a1 (e2 _ _ a3 (q1 c o a1 h))) ⟨oe, e3.extBut _ _ hez hoe, hce⟩
  | some x =>
    have hy : ys[k2]? = none := by
      rcases hend with h | h
      · rw [hx] at h
        cases h
      · exact h
    refine wpAny_bind (si_item (s := { s with heap := g1 }) (h1.to fun o => q1 _ o D.i1z) (hl1.to fun o => q1 _ o D.l1z) hx fun g2 n1 e2 => wpAny_pure ?_)
    have q2 : ∀ c o, c ≠ z → c ≠ i1 → s.heap.get? c = some o → g2.get? c = some o := fun c o n m h => e2.extBut _ _ m (q1 c o n h)
    have p2 : IsPair g2 TO a b := q2 _ _ D.TOz D.TOi1 hTO
    refine wpAny_bind (wpAny_seqItems p2 rfl (wpAny_bind (wpAny_updateSeq_pair p2 fun g3 p3 e3 => wpAny_bind (wpAny_letGo (wpAny_pure ?_)))))
    have q3 : ∀ c o, c ≠ z → c ≠ i1 → c ≠ TO → s.heap.get? c = some o → g3.get? c = some o := fun c o n m l h => e3.extBut _ _ l (q2 c o n m h)
    refine wpAny_bind (wpAny_bind (wpAny_onRaise ?_))
    show wpAny _ _ (Builtin.SmallTypes.nextOf (.ref i2) >>= _) _ _ _
    refine wpAny_bind (si_end (s := { s with heap := g3 }) hh (h2.to fun o => q3 _ o D.i2z D.i12.symm D.TOi2.symm) (hl2.to fun o => q3 _ o D.l2z D.l2i1 D.l2TO) hy fun g4 e e4 he => ?_)
    obtain ⟨oe, hoe, hce⟩ := he
    have z4 : IsZip g4 z TI TO .ellipsis := e4 _ _ D.i2z.symm (e3.extBut _ _ D.TOz.symm (e2.extBut _ _ D.i1z.symm zz1))
    have hez : e ≠ z := fun x => by
      subst x
      rw [z4] at hoe
      cases hoe
      simp at hce
    exact wpAny_setField_rec z4 (by simp) fun g5 _ e5 => hE g5 e (fun c o a1 a2 a3 a4 h => e5.extBut _ _ a1 (e4 _ _ a4 (q3 c o a1 a3 a2 h))) ⟨oe, e5.extBut _ _ hez hoe, hce⟩
theorem zk_next {b1 b2 : Bool} {z TI TO i1 i2 l1 l2 : Addr} {k1 k2 : Nat} {xs ys : Array Value} {x y a b : Value} {Q : Option Value → Shared → Prop} (D : ZipApart z TI TO i1 i2 l1 l2) (hz : IsZip s.heap z TI TO .none) (hTI : IsPair s.heap TI (.ref i1) (.ref i2)) (hTO : IsPair s.heap TO a b)
    (h1 : SI b1 s.heap i1 l1 k1) (h2 : SI b2 s.heap i2 l2 k2) (hl1 : SS b1 s.heap l1 xs) (hl2 : SS b2 s.heap l2 ys) (hx : xs[k1]? = some x) (hy : ys[k2]? = some y)
    (hQ : ∀ h', IsZip h' z TI TO (rawInt s.heap.objs.size) → IsPair h' TO x y → SI b1 h' i1 l1 (k1 + 1) → SI b2 h' i2 l2 (k2 + 1) → IsPair h' s.heap.objs.size x y → (∀ c o, c ≠ z → c ≠ TO → c ≠ i1 → c ≠ i2 → s.heap.get? c = some o → h'.get? c = some o) → Q (some (.ref s.heap.objs.size)) { s with heap := h' }) :
    wpAny (model prog w) A (pyNext (.ref z)) Q E s := by
  have hT : s.TypeIs (.ref z) "zip" := ⟨_, hz, rfl⟩
  unfold pyNext
  exact wpAny_bind (wpAny_attempt (wpAny_callSpecial?_slot (name := Str.ofString "__next__") hT F.slot_zip_next (wpAny_call_entry F.slot_zip_next hT F.entry_zip_next
    (zk_item D hz hTI hTO h1 h2 hl1 hl2 hx hy fun h' a1 a2 a3 a4 a5 a7 => wpAny_pure (hQ h' a1 a2 a3 a4 a5 a7)) (F.args_zip_next_1 _))))
theorem zk_stop {b1 b2 : Bool} {z TI TO i1 i2 l1 l2 : Addr} {k1 k2 : Nat} {xs ys : Array Value} {a b : Value} {Q : Option Value → Shared → Prop} (hh : A.handled = none) (D : ZipApart z TI TO i1 i2 l1 l2) (hz : IsZip s.heap z TI TO .none) (hTI : IsPair s.heap TI (.ref i1) (.ref i2)) (hTO : IsPair s.heap TO a b)
    (h1 : SI b1 s.heap i1 l1 k1) (h2 : SI b2 s.heap i2 l2 k2) (hl1 : SS b1 s.heap l1 xs) (hl2 : SS b2 s.heap l2 ys) (hend : xs[k1]? = none ∨ ys[k2]? = none)
    (hQ : ∀ h', (∀ c o, c ≠ z → c ≠ TO → c ≠ i1 → c ≠ i2 → s.heap.get? c = some o → h'.get? c = some o) → Q none { s with heap := h' }) : wpAny (model prog w) A (pyNext (.ref z)) Q E s := by
  have hT : s.TypeIs (.ref z) "zip" := ⟨_, hz, rfl⟩
  unfold pyNext
  refine wpAny_bind (wpAny_attempt (wpAny_callSpecial?_slot (name := Str.ofString "__next__") hT F.slot_zip_next (wpAny_call_entry F.slot_zip_next hT F.entry_zip_next (zk_end hh D hz hTI hTO h1 h2 hl1 hl2 hend fun h' e hk he => ?_) (F.args_zip_next_1 _))))
  obtain ⟨o, ho, hc⟩ := he
  exact wpAny_bind (wpAny_isInstance (T := "StopIteration") (b := true) ⟨o, ho, hc⟩ isSubtype_stop (wpAny_pure (hQ _ hk)))
end
def itO (b : Bool) (l : Addr) : Obj := { cls := .type (if b then "list_iterator" else "tuple_iterator"), data := .fields #[.ref l, .int 0 0] }
abbrev zk1 (b1 : Bool) (h : Heap) (l1 : Addr) : Heap := h.push (itO b1 l1)
abbrev zk2 (b1 b2 : Bool) (h : Heap) (l1 l2 : Addr) : Heap := (zk1 b1 h l1).push (itO b2 l2)
abbrev zk3 (b1 b2 : Bool) (h : Heap) (l1 l2 : Addr) : Heap := (zk2 b1 b2 h l1 l2).push { cls := .type "tuple", data := .seq #[.ref h.objs.size, .ref (zk1 b1 h l1).objs.size] }
abbrev zk4 (b1 b2 : Bool) (h : Heap) (l1 l2 : Addr) : Heap := (zk3 b1 b2 h l1 l2).push { cls := .type "tuple", data := .seq #[.none, .none] }
abbrev zk5 (b1 b2 : Bool) (h : Heap) (l1 l2 : Addr) : Heap := (zk4 b1 b2 h l1 l2).push { cls := .type "zip", data := .fields #[.none, .bool false, .bool false, .ref (zk2 b1 b2 h l1 l2).objs.size, .ref (zk3 b1 b2 h l1 l2).objs.size] }
theorem zk_new (b1 b2 : Bool) (l1 l2 : Addr) (xs ys : Array Value) :
    Meets (Builtin.«zip.__new__» ⟨[.type "zip", .ref l1, .ref l2], []⟩) (fun _ R s => SS b1 s.heap l1 xs ∧ SS b2 s.heap l2 ys ∧ R (.ok (.ret (.ref (zk4 b1 b2 s.heap l1 l2).objs.size))) { s with heap := zk5 b1 b2 s.heap l1 l2 }) :=
  .of_wp fun prog w A R s h => by
    obtain ⟨hp, g, d, tk, os⟩ := s
    obtain ⟨hl1, hl2, h⟩ := h
    have hsub := sub_zip
    have hl2' : SS b2 (hp.push (itO b1 l1)) l2 ys := hl2.to fun o e => Heap.get?_push_of_some _ e
    cases b1 <;> cases b2
    · have y1 : Heap.IsTuple (Shared.heap ⟨hp, g, d, tk, os⟩) l1 xs := hl1
      have y2 : Heap.IsTuple (Shared.heap ⟨hp.push { cls := .type "tuple_iterator", data := .fields #[.ref l1, .int 0 0] }, g, d, tk, os⟩) l2 ys := hl2'
      wp_walk using wpAny_pyIter_tuple y1, wpAny_pyIter_tuple y2
      exact ⟨_, rfl, h⟩
    · have y1 : Heap.IsTuple (Shared.heap ⟨hp, g, d, tk, os⟩) l1 xs := hl1
      have y2 : Heap.IsList (Shared.heap ⟨hp.push { cls := .type "tuple_iterator", data := .fields #[.ref l1, .int 0 0] }, g, d, tk, os⟩) l2 ys := hl2'
      wp_walk using wpAny_pyIter_tuple y1, wpAny_pyIter_list y2
      exact ⟨_, rfl, h⟩
    · have y1 : Heap.IsList (Shared.heap ⟨hp, g, d, tk, os⟩) l1 xs := hl1
      have y2 : Heap.IsTuple (Shared.heap ⟨hp.push { cls := .type "list_iterator", data := .fields #[.ref l1, .int 0 0] }, g, d, tk, os⟩) l2 ys := hl2'
      wp_walk using wpAny_pyIter_list y1, wpAny_pyIter_tuple y2
      exact ⟨_, rfl, h⟩
    · have y1 : Heap.IsList (Shared.heap ⟨hp, g, d, tk, os⟩) l1 xs := hl1
      have y2 : Heap.IsList (Shared.heap ⟨hp.push { cls := .type "list_iterator", data := .fields #[.ref l1, .int 0 0] }, g, d, tk, os⟩) l2 ys := hl2'
      wp_walk using wpAny_pyIter_list y1, wpAny_pyIter_list y2
      exact ⟨_, rfl, h⟩
theorem itO_is {b : Bool} {h : Heap} {a l : Addr} (e : h.get? a = some (itO b l)) : SI b h a l 0 := by
  cases b
  · exact ⟨_, e, rfl, rfl⟩
  · exact ⟨_, e, rfl, rfl⟩
section
variable {prog : Program} {w : World} {A : Around} {E : Value → Shared → Prop} {s : Shared}
theorem call_zk {b1 b2 : Bool} {l1 l2 : Addr} {xs ys : Array Value} {Q : Value → Shared → Prop} (hl1 : SS b1 s.heap l1 xs) (hl2 : SS b2 s.heap l2 ys)
    (h : ∀ h', IsZip h' (s.heap.objs.size + 4) (s.heap.objs.size + 2) (s.heap.objs.size + 3) .none → IsPair h' (s.heap.objs.size + 2) (.ref s.heap.objs.size) (.ref (s.heap.objs.size + 1)) → IsPair h' (s.heap.objs.size + 3) .none .none → SI b1 h' s.heap.objs.size l1 0 → SI b2 h' (s.heap.objs.size + 1) l2 0 →
      (∀ c o, s.heap.get? c = some o → h'.get? c = some o) → Q (.ref (s.heap.objs.size + 4)) { s with heap := h' }) : wpAny (model prog w) A (call (.type "zip") [.ref l1, .ref l2]) Q E s := by
  refine callType_new F.called_zip (by decide) (F.typeCall_zip_2 _ _) (F.newCall_zip_2 _ _) (fun obj => F.args_object_init_3 obj _ _) F.entry_zip_new (zk_new b1 b2 l1 l2 xs ys) ⟨hl1, hl2, ?_⟩
  have z1 : (zk1 b1 s.heap l1).objs.size = s.heap.objs.size + 1 := Heap.size_push ..
  have z2 : (zk2 b1 b2 s.heap l1 l2).objs.size = s.heap.objs.size + 2 := by rw [Heap.size_push, z1]
  have z3 : (zk3 b1 b2 s.heap l1 l2).objs.size = s.heap.objs.size + 3 := by rw [Heap.size_push, z2]
  have z4 : (zk4 b1 b2 s.heap l1 l2).objs.size = s.heap.objs.size + 4 := by rw [Heap.size_push, z3]
  have y5 : (zk5 b1 b2 s.heap l1 l2).get? (zk4 b1 b2 s.heap l1 l2).objs.size = some _ := Heap.get?_push_size _ rfl
  have y4 : (zk5 b1 b2 s.heap l1 l2).get? (zk3 b1 b2 s.heap l1 l2).objs.size = some _ := Heap.get?_push_of_some _ (Heap.get?_push_size _ rfl)
  have y3 : (zk5 b1 b2 s.heap l1 l2).get? (zk2 b1 b2 s.heap l1 l2).objs.size = some _ := Heap.get?_push_of_some _ (Heap.get?_push_of_some _ (Heap.get?_push_size _ rfl))
  have y2 : (zk5 b1 b2 s.heap l1 l2).get? (zk1 b1 s.heap l1).objs.size = some (itO b2 l2) := Heap.get?_push_of_some _ (Heap.get?_push_of_some _ (Heap.get?_push_of_some _ (Heap.get?_push_size _ (by cases b2 <;> rfl))))
  have y1 : (zk5 b1 b2 s.heap l1 l2).get? s.heap.objs.size = some (itO b1 l1) := Heap.get?_push_of_some _ (Heap.get?_push_of_some _ (Heap.get?_push_of_some _ (Heap.get?_push_of_some _ (Heap.get?_push_size _ (by cases b1 <;> rfl)))))
  show _ ∧ _
  rw [z2, z3, z4] at y5
  rw [z1, z2] at y3
  rw [z3] at y4
  rw [z1] at y2
  rw [z4]
  exact ⟨⟨_, y5, rfl⟩, h _ y5 y3 y4 (itO_is y1) (itO_is y2) fun c o x => Heap.get?_push_of_some _ (Heap.get?_push_of_some _ (Heap.get?_push_of_some _ (Heap.get?_push_of_some _ (Heap.get?_push_of_some _ x))))⟩
end
def SqB (b : Bool) (K : PySem.W.Frag) (H : Hp) (a : Addr) (xs : List V) : Prop := match b with
  | true => SqL K H a xs
  | false => SqT K H a xs
theorem sqb_ss {X : Cx} {pins : List (Addr × Obj)} {σ : L2.St} {H : Hp} {s : Shared} {b : Bool} {a : Addr} {xs : List V} (I : Inv X pins σ H s) (h : SqB b X.K H a xs) : ∃ its : List Value, Vals xs its ∧ SS b s.heap a its.toArray := by
  cases b
  · obtain ⟨its, rv, p, _⟩ := I.tuple (show SqT X.K H a xs from h)
    exact ⟨its, rv, p⟩
  · obtain ⟨its, rv, p, _⟩ := I.list (show SqL X.K H a xs from h)
    exact ⟨its, rv, p.isList⟩
theorem sqb_inj {X : Cx} {pins : List (Addr × Obj)} {σ : L2.St} {H : Hp} {s : Shared} {b : Bool} {a : Addr} {xs ys : List V} (I : Inv X pins σ H s) (h : SqB b X.K H a xs) (h' : SqB b X.K H a ys) : xs = ys := by
  cases b
  · exact I.tuple_inj h h'
  · exact I.list_inj h h'
def ItzB (b1 b2 : Bool) (K : PySem.W.Frag) (a b : Addr) : It :=
  ⟨fun i H => ∃ (xs ys : List V) (x y : V), SqB b1 K H a xs ∧ SqB b2 K H b ys ∧ xs[i]? = some x ∧ ys[i]? = some y,
    fun i H v H' => ∃ T x y, v = .ref T ∧ H T = none ∧ H' = upd H T (.tup [x, y]) ∧ (∀ xs, SqB b1 K H a xs → xs[i]? = some x) ∧ ∀ ys, SqB b2 K H b ys → ys[i]? = some y,
    fun i H => ∃ xs ys : List V, SqB b1 K H a xs ∧ SqB b2 K H b ys ∧ (xs.length ≤ i ∨ ys.length ≤ i)⟩
theorem turn_zk {b1 b2 : Bool} {P : Program} {w : World} {K : PySem.W.Frag} {elts : List Expr} {kk : Nat} {tpos : Pos} {a b z TI TO i1 i2 : Addr} (D : ZipApart z TI TO i1 i2 a b) :
    Turn P w K (.Tuple elts kk tpos) (ItzB b1 b2 K a b) [z, TI, TO, i1, i2] z (fun i h => IsZip h z TI TO .none ∧ IsPair h TI (.ref i1) (.ref i2) ∧ (∃ x y, IsPair h TO x y) ∧ SI b1 h i1 a i ∧ SI b2 h i2 b i) where
  mem := by simp
  obj := fun i h st c hc => by
    obtain ⟨hz, hTI, ⟨x, y, hTO⟩, q1, q2⟩ := st
    obtain ⟨o1, e1, d1⟩ := q1.obj
    obtain ⟨o2, e2, d2⟩ := q2.obj
    have e' : c = z ∨ c = TI ∨ c = TO ∨ c = i1 ∨ c = i2 := by simpa using hc
    rcases e' with rfl | rfl | rfl | rfl | rfl
    · exact ⟨_, hz, fun v q => nomatch q⟩
    · exact ⟨_, hTI, fun v q => nomatch q⟩
    · exact ⟨_, hTO, fun v q => nomatch q⟩
    · exact ⟨o1, e1, fun v q => by rw [d1] at q; cases q⟩
    · exact ⟨o2, e2, fun v q => by rw [d2] at q; cases q⟩
  keep := fun i h h' st k => by
    obtain ⟨hz, hTI, ⟨x, y, hTO⟩, h1, h2⟩ := st
    exact ⟨k z (by simp) _ hz, k TI (by simp) _ hTI, ⟨x, y, k TO (by simp) _ hTO⟩, h1.to fun o q => k i1 (by simp) o q, h2.to fun o q => k i2 (by simp) o q⟩
  item := by
    intro X hP hw hK hc i pins s σ H E I hf st hg
    subst hP hw hK
    obtain ⟨hz, hTI, ⟨x0, y0, hTO⟩, h1, h2⟩ := st
    obtain ⟨xs, ys, x, y, hqx, hqy, hx, hy⟩ := hg
    obtain ⟨its, rv, p⟩ := sqb_ss I hqx
    obtain ⟨its2, rv2, p2⟩ := sqb_ss I hqy
    obtain ⟨u, hu, ru⟩ := rv.get hx
    obtain ⟨u2, hu2, ru2⟩ := rv2.get hy
    have zl : z < s.heap.objs.size := Heap.lt_size hz
    refine zk_next D hz hTI hTO h1 h2 p p2 (x := u) (y := u2) (by simpa using hu) (by simpa using hu2) fun h' z' TO' h1' h2' hT hk => ?_
    refine ⟨_, rfl, wpAny_letOwnedTupleGo_zip (s := { s with heap := h' }) z' fun g zg sb => ?_⟩
    have hT2 : g.get? s.heap.objs.size = some { cls := .type "tuple", data := .seq #[u, u2] } := (sb.2 _ (Nat.ne_of_gt zl)).trans hT
    have new : ObjOk X.prog X.w (upd H s.heap.objs.size (.tup [x, y])) g s.heap.objs.size (.tup [x, y]) := ⟨by show 2 ≤ sizeLine; decide, [u, u2], .cons ru (.cons ru2 .nil), ⟨_, hT2, rfl, _, rfl⟩⟩
    have I1 : Inv X pins σ (upd H s.heap.objs.size (.tup [x, y])) { s with heap := g } :=
      I.turnedNew (t' := s.toks) (ch := [z, TI, TO, i1, i2]) (fun c o hb q => (sb.2 c (fun q' => hb (by simp [q']))).trans (hk c o (fun q' => hb (by simp [q'])) (fun q' => hb (by simp [q'])) (fun q' => hb (by simp [q'])) (fun q' => hb (by simp [q'])) q)) hf (Nat.le_refl _) new
    refine ⟨.ref s.heap.objs.size, _, I1, rfl, ⟨_, x, y, rfl, I.hok.fresh (Nat.le_refl _), rfl, fun l hl => by rw [sqb_inj I hl hqx]; exact hx, fun l hl => by rw [sqb_inj I hl hqy]; exact hy⟩, ⟨zg, (sb.2 _ D.TIz).trans (hk _ _ D.TIz D.TITO D.TIi1 D.TIi2 hTI), ⟨u, u2, (sb.2 _ D.TOz).trans TO'⟩, h1'.to fun o q => (sb.2 _ D.i1z).trans q, h2'.to fun o q => (sb.2 _ D.i2z).trans q⟩, fun c hcm => ?_⟩
    obtain ⟨o1, e1, _⟩ := h1.obj
    obtain ⟨o2, e2, _⟩ := h2.obj
    have hlt : c < s.heap.objs.size := by
      have e' : c = z ∨ c = TI ∨ c = TO ∨ c = i1 ∨ c = i2 := by simpa using hcm
      rcases e' with q | q | q | q | q
      · rw [q]; exact zl
      · rw [q]; exact Heap.lt_size hTI
      · rw [q]; exact Heap.lt_size hTO
      · rw [q]; exact Heap.lt_size e1
      · rw [q]; exact Heap.lt_size e2
    rw [upd_ne (Nat.ne_of_lt hlt)]
    exact (hf c hcm).1
  done := by
    intro X hP hw hK hc i pins s σ H E I hf st hg
    subst hP hw hK
    obtain ⟨hz, hTI, ⟨x0, y0, hTO⟩, h1, h2⟩ := st
    obtain ⟨xs, ys, hqx, hqy, hend⟩ := hg
    obtain ⟨its, rv, p⟩ := sqb_ss I hqx
    obtain ⟨its2, rv2, p2⟩ := sqb_ss I hqy
    have m1 := rv.length
    have m2 := rv2.length
    have he : its.toArray[i]? = none ∨ its2.toArray[i]? = none := by
      rcases hend with q | q
      · exact .inl (by simp; omega)
      · exact .inr (by simp; omega)
    exact zk_stop (I.ok.hd hc) D hz hTI hTO h1 h2 p p2 he fun h' hk => ⟨rfl, I.turnedL (t' := s.toks) (ch := [z, TI, TO, i1, i2]) (fun c o hb q => hk c o (fun q' => hb (by simp [q'])) (fun q' => hb (by simp [q'])) (fun q' => hb (by simp [q'])) (fun q' => hb (by simp [q'])) q) hf⟩
  self := fun A i s Q E st h => wpAny_pyIter_zip st.1 h
def iZipB (b1 b2 : Bool) (K : PySem.W.Frag) (ta : TA) : TI := fun σ H R => ta σ H fun vs H1 => ∃ a b xs ys, vs = [.ref a, .ref b] ∧ SqB b1 K H1 a xs ∧ SqB b2 K H1 b ys ∧ R (ItzB b1 b2 K a b) H1
theorem pi_zipB (b1 b2 : Bool) {X : Cx} {e e2 : Expr} {ta : TA} {p pos tpos : Pos} {elts : List Expr} {kk : Nat} (hg : Gl X "zip") (hm : X.mg "zip" = none) (ha : PA X [e, e2] ta)
    (hs : starEach [e, e2] X.env = (false, eval e X.env) :: starEach [e2] X.env := by rfl) (hpl : (backTo pos (starEach [e2] X.env)).any (·.1) = false := by rfl) :
    PI X (.Tuple elts kk tpos) (.Call (.Name "zip" p) [e, e2] [] pos) (iZipB b1 b2 X.K ta) := by
  refine ⟨fun pins s σ H R I h => ?_⟩
  refine Call_ (ld_blt I hg hm PyProof.Rows.boot_zip (PyProof.Rows.callWith_type1 (thn (ha.run pos pins s σ H _ I h) fun us s1 ⟨vs, H1, I1, r1, q1⟩ => ?_) hs hpl))
  obtain ⟨a, b, xs, ys, ex, qx, qy, q⟩ := q1
  subst ex
  obtain ⟨u1, u2, rfl, ra, rb⟩ := vals2 r1
  cases ra
  cases rb
  obtain ⟨its, rv, p1⟩ := sqb_ss I1 qx
  obtain ⟨its2, rv2, p2⟩ := sqb_ss I1 qy
  refine call_zk p1 p2 fun h' hz hTI hTO h1 h2 hk => wpAny_pyIter_zip hz ?_
  have I2 : Inv X pins σ H1 { s1 with heap := h' } := I1.kept (t' := s1.toks) hk
  refine ⟨s1.heap.objs.size + 4, [s1.heap.objs.size + 4, s1.heap.objs.size + 2, s1.heap.objs.size + 3, s1.heap.objs.size, s1.heap.objs.size + 1], _, _, H1, rfl, I2, turn_zk (PySem.W.ktu_apart s1.heap.objs.size a b p1.lt p2.lt), ⟨hz, hTI, ⟨_, _, hTO⟩, h1, h2⟩, fun c hcm => ?_, q⟩
  have e' : c = s1.heap.objs.size + 4 ∨ c = s1.heap.objs.size + 2 ∨ c = s1.heap.objs.size + 3 ∨ c = s1.heap.objs.size ∨ c = s1.heap.objs.size + 1 := by simpa using hcm
  have hle : s1.heap.objs.size ≤ c := by
    rcases e' with q | q | q | q | q <;> rw [q] <;> first | exact Nat.le_refl _ | exact Nat.le_add_right _ _
  exact I1.fpOk hle (I1.hok.fresh hle)
end Ev
namespace Ev
open PySem L2
section
variable {g : TG} {tt : TT} {te : TE} {vs : List Nat} {σ : L2.St} {H1 : Hp} {D : Addr} {Qd : Hp → Prop} {K : PySem.W.Frag} {a b : Addr} {xs ys : List V} {lo : Int} {n : Nat}
def LcGoal (J : It) (g : TG) (tt : TT) (te : TE) (vs : List Nat) (σ : L2.St) (H1 : Hp) (D : Addr) (Qd : Hp → Prop) : Prop :=
  ∃ W : Nat → Nat → Hp → Prop, (∃ m, W 0 m (upd H1 D (.lst []))) ∧ ∀ i m H, W i m H →
    (J.stop i H ∧ Qd H) ∨ (J.go i H ∧ ∃ Nx : Hp → Prop, (∀ H', Nx H' → ∃ m', m' < m ∧ W (i + 1) m' H') ∧ ∀ x H', J.yld i H x H' → g x (wipe σ vs) H' fun σ2 H2 => wipe σ2 vs = wipe σ vs ∧ tt σ2 H2 fun b H3 =>
      if b = true then te σ2 H3 fun y H4 => ∃ acc, H4 D = some (.lst acc) ∧ acc.length < sizeLine ∧ Nx (upd H4 D (.lst (acc ++ [y]))) else Nx H3)
theorem lcIt {J : It} {P : Nat → List V → Hp → Prop} (hz : n < 16777216) (h0 : P 0 [] (upd H1 D (.lst [])))
    (hgo : ∀ i acc H, i < n → H D = some (.lst acc) → P i acc H → J.go i H) (hst : ∀ acc H, H D = some (.lst acc) → P n acc H → J.stop n H)
    (hs : ∀ i acc H x H' (R : V → Hp → Prop) (N : Hp → Prop), i < n → H D = some (.lst acc) → P i acc H → J.yld i H x H' → (∀ y H4, H4 D = some (.lst acc) → P (i + 1) (acc ++ [y]) (upd H4 D (.lst (acc ++ [y]))) → R y H4) → (∀ H4, H4 D = some (.lst acc) → P (i + 1) acc H4 → N H4) → LcTurn g tt te vs σ x H' R N)
    (hd : ∀ acc H, acc.length ≤ n → H D = some (.lst acc) → P n acc H → Qd H) : LcGoal J g tt te vs σ H1 D Qd := by
  refine ⟨fun i m H => m = n - i ∧ i ≤ n ∧ ∃ acc, acc.length ≤ i ∧ H D = some (.lst acc) ∧ P i acc H, ⟨n, by omega, by omega, [], by simp, upd_same, h0⟩, ?_⟩
  rintro i m H ⟨rfl, hi, acc, hl, hD, p⟩
  by_cases h : i < n
  · refine Or.inr ⟨hgo i acc H h hD p, fun H' => i + 1 ≤ n ∧ ∃ acc, acc.length ≤ i + 1 ∧ H' D = some (.lst acc) ∧ P (i + 1) acc H', fun H' q => ⟨n - (i + 1), by omega, rfl, q⟩, fun x H' y => ?_⟩
    refine hs i acc H x H' _ _ h hD p y (fun v H4 e q => ⟨acc, e, ?_, by omega, acc ++ [v], ?_, upd_same, q⟩) (fun H4 e q => ⟨by omega, acc, by omega, e, q⟩)
    · rw [sizeLine_eq]
      omega
    · rw [List.length_append]
      simp
      omega
  · have e : i = n := by omega
    subst e
    exact Or.inl ⟨hst acc H hD p, hd acc H hl hD p⟩
theorem lcRI {P : Nat → List V → Hp → Prop} (hz : n < 16777216) (h0 : P 0 [] (upd H1 D (.lst [])))
    (hs : ∀ i acc H (R : V → Hp → Prop) (N : Hp → Prop), i < n → H D = some (.lst acc) → P i acc H → (∀ y H4, H4 D = some (.lst acc) → P (i + 1) (acc ++ [y]) (upd H4 D (.lst (acc ++ [y]))) → R y H4) → (∀ H4, H4 D = some (.lst acc) → P (i + 1) acc H4 → N H4) → LcTurn g tt te vs σ (.int (lo + i)) H R N)
    (hd : ∀ acc H, acc.length ≤ n → H D = some (.lst acc) → P n acc H → Qd H) : LcGoal (Itr lo n) g tt te vs σ H1 D Qd :=
  lcIt hz h0 (fun i acc H h _ _ => h) (fun acc H _ _ => Nat.le_refl _) (fun i acc H x H' R N h e p y r k => by
    obtain ⟨rfl, rfl⟩ := y
    exact hs i acc _ R N h e p r k) hd
theorem lcLI {P : Nat → List V → Hp → Prop} (hz : xs.length < 16777216) (h0 : P 0 [] (upd H1 D (.lst []))) (hq : ∀ i acc H, P i acc H → SqL K H a xs)
    (hs : ∀ i x acc H (R : V → Hp → Prop) (N : Hp → Prop), xs[i]? = some x → H D = some (.lst acc) → P i acc H → (∀ y H4, H4 D = some (.lst acc) → P (i + 1) (acc ++ [y]) (upd H4 D (.lst (acc ++ [y]))) → R y H4) → (∀ H4, H4 D = some (.lst acc) → P (i + 1) acc H4 → N H4) → LcTurn g tt te vs σ x H R N)
    (hd : ∀ acc H, acc.length ≤ xs.length → H D = some (.lst acc) → P xs.length acc H → Qd H) : LcGoal (Itl K a) g tt te vs σ H1 D Qd :=
  lcIt hz h0 (fun i acc H h _ p => ⟨xs, _, hq i acc H p, List.getElem?_eq_getElem h⟩) (fun acc H _ p => ⟨xs, hq _ acc H p, Nat.le_refl _⟩) (fun i acc H x H' R N h e p y r k => by
    obtain ⟨rfl, y2⟩ := y
    exact hs i x acc _ R N (y2 xs (hq i acc _ p)) e p r k) hd
theorem lcTI {P : Nat → List V → Hp → Prop} (hz : xs.length < 16777216) (h0 : P 0 [] (upd H1 D (.lst []))) (hq : ∀ i acc H, P i acc H → SqT K H a xs)
    (hs : ∀ i x acc H (R : V → Hp → Prop) (N : Hp → Prop), xs[i]? = some x → H D = some (.lst acc) → P i acc H → (∀ y H4, H4 D = some (.lst acc) → P (i + 1) (acc ++ [y]) (upd H4 D (.lst (acc ++ [y]))) → R y H4) → (∀ H4, H4 D = some (.lst acc) → P (i + 1) acc H4 → N H4) → LcTurn g tt te vs σ x H R N)
    (hd : ∀ acc H, acc.length ≤ xs.length → H D = some (.lst acc) → P xs.length acc H → Qd H) : LcGoal (Itt K a) g tt te vs σ H1 D Qd :=
  lcIt hz h0 (fun i acc H h _ p => ⟨xs, _, hq i acc H p, List.getElem?_eq_getElem h⟩) (fun acc H _ p => ⟨xs, hq _ acc H p, Nat.le_refl _⟩) (fun i acc H x H' R N h e p y r k => by
    obtain ⟨rfl, y2⟩ := y
    exact hs i x acc _ R N (y2 xs (hq i acc _ p)) e p r k) hd
theorem lcZ {b1 b2 : Bool} {f : Nat → Option V} (hD : H1 D = none) (hz : xs.length < 16777216) (hl : xs.length = ys.length) (hx : SqB b1 K H1 a xs) (hy : SqB b2 K H1 b ys)
    (hs : ∀ i x y T H (R : V → Hp → Prop) (N : Hp → Prop), xs[i]? = some x → ys[i]? = some y → Same H1 H → H T = some (.tup [x, y]) → (∀ z H4, f i = some z → Same H H4 → R z H4) → (∀ H4, f i = none → Same H H4 → N H4) → LcTurn g tt te vs σ (.ref T) H R N)
    (hd : ∀ H, Same H1 H → H D = some (.lst (outs f xs.length)) → Qd H) : LcGoal (ItzB b1 b2 K a b) g tt te vs σ H1 D Qd := by
  have sq : ∀ {b : Bool} {c : Addr} {zs : List V} {H : Hp}, Same H1 H → SqB b K H1 c zs → SqB b K H c zs := fun {b c zs H} s h => by
    cases b
    · exact Same.seqT s h
    · exact s.seq h
  refine lcIt (P := fun i acc H => Same H1 H ∧ acc = outs f i) hz ⟨Same.old (Same.refl _) hD, rfl⟩ (fun i acc H h _ p => ⟨xs, ys, _, _, sq p.1 hx, sq p.1 hy, List.getElem?_eq_getElem h, List.getElem?_eq_getElem (by omega)⟩) (fun acc H _ p => ⟨xs, ys, sq p.1 hx, sq p.1 hy, Or.inl (Nat.le_refl _)⟩) (fun i acc H x H' R N h e p y r k => ?_) (fun acc H _ e p => hd H p.1 (p.2 ▸ e))
  obtain ⟨T, u, v, rfl, nT, rfl, y1, y2⟩ := y
  have s1 : Same H1 (upd H T (.tup [u, v])) := Same.new p.1 nT
  refine hs i u v T _ R N (y1 _ (sq p.1 hx)) (y2 _ (sq p.1 hy)) s1 upd_same (fun z H4 e2 s4 => ?_) (fun H4 e2 s4 => ?_)
  · refine r z H4 (s4 _ _ (get_new e nT)) ⟨Same.old (s1.trans s4) hD, ?_⟩
    rw [outs_succ, e2, p.2]
    rfl
  · refine k H4 (s4 _ _ (get_new e nT)) ⟨s1.trans s4, ?_⟩
    rw [outs_succ, e2, p.2]
    simp
end
end Ev
namespace Ev
open PySem PySem.Spec PyProof.Rows L2
def sel {α : Type} (is : List Nat) (ws : List α) : List α := is.filterMap fun i => ws[i]?
theorem sel_vals {zs : List V} {ws : List Value} (r : Vals zs ws) : ∀ is : List Nat, Vals (sel is zs) (sel is ws)
  | [] => .nil
  | i :: is => by
    have ih := sel_vals r is
    unfold sel at ih ⊢
    rw [List.filterMap_cons, List.filterMap_cons]
    cases h : zs[i]? with
    | none =>
      have : ws[i]? = none := by
        rw [List.getElem?_eq_none_iff] at h ⊢
        rw [← r.length]
        exact h
      rw [this]
      exact ih
    | some v =>
      obtain ⟨u, hu, ru⟩ := r.get h
      rw [hu]
      exact .cons ru ih
theorem kbn_kw {K : PySem.W.Frag} {fd : FuncData} {ps : List Str} {n : Nat} {ks : List Str} (is : List Nat) (h : ∀ us ws : List Value, us.length = n → ws.length = ks.length → bindArgs fd ⟨us, ks.zip ws⟩ = pure (ps.zip (us ++ sel is ws))) :
    KBn K fd ps n ks (fun us ws => us ++ sel is ws) (fun vs zs => vs ++ sel is zs) :=
  ⟨fun s us ws _ l1 l2 => .of_eq (h us ws l1 l2), fun r1 r2 => r1.append (sel_vals r2 is)⟩
structure CI (K : PySem.W.Frag) (C : Addr) : Prop where
  cl : Cls K C
  ha : PySem.W.findIn K (.ref C) "__class__" = some (some (.builtin "object.__class__"))
  hn : PySem.W.specialIn K (.builtin "object.__class__") "__get__" = some (some (.builtin "getset_descriptor.__get__"))
  ht : PySem.W.takesIn K (.builtin "object.__class__") = some true
  hm : PySem.W.mroIn K C (.type "object") = some true
  it : ((PySem.W.clsIn K C).isSome && PySem.W.typeIn K (.ref C) == some (.type "type")) = true
theorem it_of {K : PySem.W.Frag} {C : Addr} (h1 : PySem.W.isClsIn K C = true) (h2 : PySem.W.typeIn K (.ref C) = some (.type "type")) : ((PySem.W.clsIn K C).isSome && PySem.W.typeIn K (.ref C) == some (.type "type")) = true := by
  rw [h2, show (PySem.W.clsIn K C).isSome = true from h1]
  rfl
theorem CI.ty {K : PySem.W.Frag} {C : Addr} {H : Hp} {a dx : Addr} {fs : List (Str × V)} (c : CI K C) (e : H a = some (.ins C dx fs)) : TyX K H (.ref a) (.ref C) := .base (.ins e c.cl c.ha c.hn c.ht c.hm)
def noRef : Value → Bool
  | .ref _ => false
  | _ => true
theorem sub_ty {K : PySem.W.Frag} {C : Addr} {T : String} (h : (fastBuiltinMro T).any (fun l => l.all noRef) = true) : PySem.W.subIn K (.type T) (.ref C) = some false := by
  show (fastBuiltinMro T).map (·.contains (.ref C)) = some false
  cases e : fastBuiltinMro T with
  | none =>
    rw [e] at h
    cases h
  | some l =>
    rw [e] at h
    have h2 : l.all noRef = true := h
    rw [Option.map_some]
    congr 1
    rw [Bool.eq_false_iff]
    intro z
    have := List.all_eq_true.mp h2 (.ref C) (by simpa using z)
    cases this
theorem nf_ty {K : PySem.W.Frag} {C : Addr} {T : String} (h : (fastBuiltinMro T).any (fun l => l.all noRef) = true) : PySem.W.notFirst K C (.type T) = true := by
  unfold PySem.W.notFirst
  rw [sub_ty h]
  simp
theorem nf_self {K : PySem.W.Frag} {C : Addr} : PySem.W.notFirst K C (.ref C) = true := by
  unfold PySem.W.notFirst
  simp
theorem nf_own {K : PySem.W.Frag} {C D : Addr} (h : PySem.W.mroIn K D (.ref C) = some false) : PySem.W.notFirst K C (.ref D) = true := by
  unfold PySem.W.notFirst
  rw [show PySem.W.subIn K (.ref D) (.ref C) = some false from h]
  simp
theorem kit_self {K : PySem.W.Frag} {C : Addr} : PySem.W.kitOne K (.ref C) (.ref C) = some true := by
  unfold PySem.W.kitOne
  simp
theorem kit_tyo {K : PySem.W.Frag} {C : Addr} {T : String} (c : CI K C) (h : (fastBuiltinMro T).any (fun l => l.all noRef) = true) : PySem.W.kitOne K (.type T) (.ref C) = some false := by
  unfold PySem.W.kitOne
  rw [if_neg (by simp)]
  unfold PySem.W.kitCls
  simp only
  rw [if_pos c.it]
  exact sub_ty h
theorem kit_own {K : PySem.W.Frag} {C D : Addr} {b : Bool} (c : CI K C) (hn : D ≠ C) (h : PySem.W.mroIn K D (.ref C) = some b) : PySem.W.kitOne K (.ref D) (.ref C) = some b := by
  unfold PySem.W.kitOne
  rw [if_neg (by simpa using hn)]
  unfold PySem.W.kitCls
  simp only
  rw [if_pos c.it]
  exact h
end Ev
namespace Ev
open PySem PySem.Spec PyProof.Rows L2
theorem rel_ref {a : Addr} : RelV (.ref a) (.ref a) := rfl
theorem kit_any2 {K : PySem.W.Frag} {t c1 c2 : Value} {b1 b2 : Bool} (h1 : PySem.W.kitOne K t c1 = some b1) (h2 : PySem.W.kitOne K t c2 = some b2) : PySem.W.kitAny K t [c1, c2] = some (b1 || b2) := by
  unfold PySem.W.kitAny
  rw [h1]
  cases b1
  · unfold PySem.W.kitAny
    simp only
    rw [h2]
    cases b2
    · rfl
    · rfl
  · rfl
end Ev
namespace Ev
open PySem L2
def Lit (z : Int) : Prop := z.natAbs < 1606938044258990275541962092341162602522202993782792835301376
theorem log_le {n k : Nat} (h : n < 2 ^ k) (hk : 0 < k) : n.log2 < k := by
  by_cases h0 : n = 0
  · subst h0
    simpa using hk
  · exact (Nat.log2_lt h0).mpr h
theorem Lit.log {z : Int} (h : Lit z) : z.natAbs.log2 < 200 := log_le h (by decide)
theorem Lit.mul {a b : Int} (ha : Lit a) (hb : Lit b) : CMulW a b := by
  have h1 := ha.log
  have h2 := hb.log
  show a.natAbs.log2 + b.natAbs.log2 < 1000000
  omega
theorem outs_gen {α : Type} {zs : List α} (h : α → V) : outs (fun i => (zs[i]?).map h) zs.length = zs.map h := by
  have z : ∀ n, n ≤ zs.length → outs (fun i => (zs[i]?).map h) n = (zs.take n).map h := by
    intro n
    induction n with
    | zero => intro _; rfl
    | succ n ih =>
      intro hn
      rw [outs_succ, ih (by omega), List.take_add_one, List.map_append]
      congr 1
      rw [List.getElem?_eq_getElem (by omega)]
      rfl
  rw [z _ (Nat.le_refl _), List.take_length]
theorem outs_none (n : Nat) : outs (fun _ => none) n = [] := by
  induction n with
  | zero => rfl
  | succ n ih => rw [outs_succ, ih]; rfl
theorem map_int {ns : List Int} {i : Nat} {x : V} (h : (ns.map V.int)[i]? = some x) : ∃ z, ns[i]? = some z ∧ x = .int z ∧ z ∈ ns := by
  rw [List.getElem?_map] at h
  cases e : ns[i]? with
  | none =>
    rw [e] at h
    cases h
  | some z =>
    rw [e] at h
    exact ⟨z, rfl, (Option.some.inj h).symm, List.mem_of_getElem? e⟩
theorem dp_tints {K : PySem.W.Frag} {H : Hp} {a : Addr} {ns : List Int} (h : SqT K H a (ns.map V.int)) : Dp K H (.ref a) (.tuple (ns.map PyData.int)) := .tup h (dpa_ints K H ns)
theorem sh_tints (ns : List Int) : SeqAt.shaped (.tuple (ns.map PyData.int)) = true := by
  have h1 := can_ints ns
  have h2 := dep_ints ns
  have e : PyData.depth (.tuple (ns.map PyData.int)) ≤ 64 := by
    have q : PyData.depth (.tuple (ns.map PyData.int)) ≤ PyData.depthAll (ns.map PyData.int) + 1 := by
      first
        | exact Nat.le_refl _
        | (simp only [PyData.depth]; omega)
    omega
  show (PyData.canLay0 (.tuple (ns.map PyData.int)) && decide (PyData.depth (.tuple (ns.map PyData.int)) ≤ 64)) = true
  rw [decide_eq_true e, Bool.and_true]
  exact h1
theorem eq_tints {K : PySem.W.Frag} {H : Hp} {a b : Addr} {ns ms : List Int} {Q : VK} (ha : SqT K H a (ns.map V.int)) (hb : SqT K H b (ms.map V.int)) (q : Q (.bl (decide (ns = ms))) H) : rEqD K (.ref a) (.ref b) H Q := by
  refine ⟨_, _, dp_tints ha, dp_tints hb, sh_tints ns, sh_tints ms, ?_⟩
  have e : PyData.eqv (.tuple (ns.map PyData.int)) (.tuple (ms.map PyData.int)) = decide (ns = ms) := eqv_ints ns ms
  rw [e]
  exact q
theorem But.seqT {K : PySem.W.Frag} {H H' : Hp} {a p : Addr} {xs ys : List V} (e : But p H H') (hp : H p = some (.lst ys)) (h : SqT K H a xs) : SqT K H' a xs := by
  rcases h with (h | ⟨o, h⟩) | h
  · exact .inl (.inl (e _ _ h (ne_of h hp (by intro z; cases z))))
  · exact .inl (.inr ⟨o, e _ _ h (ne_of h hp (by intro z; cases z))⟩)
  · exact .inr h
theorem But.seqL {K : PySem.W.Frag} {H H' : Hp} {a p : Addr} {xs : List V} (e : But p H H') (hp : a ≠ p) (h : SqL K H a xs) : SqL K H' a xs := by
  rcases h with (h | ⟨o, h⟩) | h
  · exact .inl (.inl (e _ _ h hp))
  · exact .inl (.inr ⟨o, e _ _ h hp⟩)
  · exact .inr h
theorem Pen.lst {H : Hp} {p c : Addr} {n : Int} (h : Pen H p c n) : ∃ ys, H p = some (.lst ys) := let ⟨_, _, _, e, _⟩ := h; ⟨_, e⟩
theorem Pen.seqT {K : PySem.W.Frag} {H H' : Hp} {a p c : Addr} {n : Int} {xs : List V} (h : Pen H p c n) (e : But p H H') (s : SqT K H a xs) : SqT K H' a xs := let ⟨_, z⟩ := h.lst; e.seqT z s
theorem TyX.same {K : PySem.W.Frag} {H H' : Hp} {x : V} {t : Value} (h : TyX K H x t) (s : Same H H') : TyX K H' x t := by
  cases h with
  | base b =>
    cases b with
    | non => exact .base .non
    | bl y => exact .base (.bl y)
    | int i => exact .base (.int i)
    | str y => exact .base (.str y)
    | flt y => exact .base (.flt y)
    | lst e => exact .base (.lst (s _ _ e))
    | frz e => exact .base (.frz (s _ _ e))
    | tup e => exact .base (.tup (s _ _ e))
    | dK e => exact .base (.dK (s _ _ e))
    | dT e => exact .base (.dT (s _ _ e))
    | ins e a b c d f => exact .base (.ins (s _ _ e) a b c d f)
  | byt b => exact .byt b
  | set e => exact .set (s _ _ e)
  | kList e c => exact .kList e c
  | kTuple e c => exact .kTuple e c
  | kDict e c => exact .kDict e c
  | fTuple e => exact .fTuple (s _ _ e)
  | fDict e => exact .fDict (s _ _ e)
theorem sql_ty {K : PySem.W.Frag} {H : Hp} {a : Addr} {xs : List V} (h : SqL K H a xs) : TyX K H (.ref a) (.type "list") := by
  rcases h with (h | ⟨o, h⟩) | ⟨o, its, n, e, c, _⟩
  · exact .base (.lst h)
  · exact .base (.frz h)
  · exact .kList e c
theorem sqt_ty {K : PySem.W.Frag} {H : Hp} {a : Addr} {xs : List V} (h : SqT K H a xs) : TyX K H (.ref a) (.type "tuple") := by
  rcases h with (h | ⟨o, h⟩) | ⟨o, its, n, e, c, _⟩
  · exact .base (.tup h)
  · exact .fTuple h
  · exact .kTuple e c
def Bi (K : PySem.W.Frag) (H : Hp) (v : V) : Prop := ∃ T : String, TyX K H v (.type T) ∧ (fastBuiltinMro T).any (fun l => l.all noRef) = true
theorem Bi.same {K : PySem.W.Frag} {H H' : Hp} {v : V} (h : Bi K H v) (s : Same H H') : Bi K H' v := let ⟨T, a, b⟩ := h; ⟨T, TyX.same a s, b⟩
def dot : List Int → List Int → Int
  | a :: as, b :: bs => a * b + dot as bs
  | _, _ => 0
theorem dot_sum : ∀ as bs : List Int, (List.zipWith (· * ·) as bs).sum = dot as bs
  | [], _ => by simp [dot]
  | _ :: _, [] => by simp [dot]
  | a :: as, b :: bs => by
    rw [List.zipWith_cons_cons, List.sum_cons, dot_sum as bs]
    rfl
theorem dot_take : ∀ (as bs : List Int) (k : Nat), k < as.length → as.length = bs.length → ∃ a b, as[k]? = some a ∧ bs[k]? = some b ∧ dot (as.take (k + 1)) (bs.take (k + 1)) = dot (as.take k) (bs.take k) + a * b
  | [], _, _, h, _ => absurd h (by simp)
  | _ :: _, [], _, _, h => absurd h (by simp)
  | a :: as, b :: bs, 0, _, _ => ⟨a, b, rfl, rfl, by simp [dot]⟩
  | a :: as, b :: bs, k + 1, h, hl => by
    obtain ⟨x, y, h1, h2, h3⟩ := dot_take as bs k (by simpa using h) (by simpa using hl)
    refine ⟨x, y, h1, h2, ?_⟩
    show a * b + dot (as.take (k + 1)) (bs.take (k + 1)) = a * b + dot (as.take k) (bs.take k) + x * y
    rw [h3]
    omega
theorem dot_le : ∀ as bs : List Int, (∀ z ∈ as, Lit z) → (∀ z ∈ bs, Lit z) → (dot as bs).natAbs ≤ as.length * 2582249878086908589655919172003011874329705792829223512830659356540647622016841194629645353280137831435903171972747493376
  | [], _, _, _ => by simp [dot]
  | _ :: _, [], _, _ => by simp [dot]
  | a :: as, b :: bs, ha, hb => by
    have ih := dot_le as bs (fun z h => ha z (List.mem_cons_of_mem _ h)) (fun z h => hb z (List.mem_cons_of_mem _ h))
    have h1 : a.natAbs ≤ 1606938044258990275541962092341162602522202993782792835301376 := Nat.le_of_lt (ha a List.mem_cons_self)
    have h2 : b.natAbs ≤ 1606938044258990275541962092341162602522202993782792835301376 := Nat.le_of_lt (hb b List.mem_cons_self)
    have h3 : (a * b).natAbs ≤ 2582249878086908589655919172003011874329705792829223512830659356540647622016841194629645353280137831435903171972747493376 := by
      rw [Int.natAbs_mul]
      exact Nat.le_trans (Nat.mul_le_mul h1 h2) (by decide)
    have h4 := Int.natAbs_add_le (a * b) (dot as bs)
    show (a * b + dot as bs).natAbs ≤ (as.length + 1) * _
    omega
theorem dot_log {as bs : List Int} (h1 : ∀ z ∈ as, Lit z) (h2 : ∀ z ∈ bs, Lit z) (hl : as.length ≤ 5) : (dot as bs).natAbs.log2 < 500 := by
  refine log_le ?_ (by decide)
  have := dot_le as bs h1 h2
  omega
theorem shows_int {z : Int} (h : z.natAbs.log2 < 1920) : PyData.showable (.int z) = true := decide_eq_true h
end Ev
namespace Ev
open PySem L2
theorem outs_all (n : Nat) : outs (fun _ => some (.bl true)) n = (List.replicate n true).map V.bl := by
  rw [outs_map (fun _ => V.bl true), List.map_replicate]
  induction n with
  | zero => rfl
  | succ n ih => rw [List.range_succ, List.map_append, ih, List.replicate_succ']; rfl
theorem all_rep (n : Nat) : (List.replicate n true).all id = true := by simp
end Ev
namespace Ev
open PySem L2
theorem SqT.ins {K : PySem.W.Frag} {H : Hp} {a x C dx : Addr} {xs : List V} {fs : List (Str × V)} {o : HO} (h : SqT K H a xs) (hx : H x = some (.ins C dx fs)) : SqT K (upd H x o) a xs := by
  rcases h with (h | ⟨u, h⟩) | h
  · exact .inl (.inl (get_ne (ne_of h hx (by intro z; cases z)) h))
  · exact .inl (.inr ⟨u, get_ne (ne_of h hx (by intro z; cases z)) h⟩)
  · exact .inr h
end Ev
namespace Ev
theorem neSelf {α : Type} [DecidableEq α] (x : α) : (!decide (x = x)) = false := by simp
theorem eqSelf {α : Type} [DecidableEq α] (x : α) : decide (x = x) = true := by simp
end Ev
namespace Ev
open PySem L2
theorem ixN_of {n : Nat} {d : Int} (h0 : 0 ≤ d) (h1 : d < n) : ixN n d = some d.toNat := by
  unfold ixN
  rw [if_pos h0, if_pos h1]
theorem cutS {a b : TS} {D : Ends} {σ : L2.St} {H : Hp} (J : L2.St → Hp → Prop) (h1 : ∀ N : L2.St → Hp → Prop, (∀ σ H, J σ H → N σ H) → a { D with nx := N } σ H) (h2 : ∀ σ H, J σ H → b D σ H) : tSeq a b D σ H := h1 _ h2
theorem map_set (ns : List Int) (j : Nat) (z : Int) : (ns.map V.int).set j (.int z) = (ns.set j z).map V.int := by
  rw [List.map_set]
end Ev
namespace Ev
open PySem L2
theorem TyX.lset {K : PySem.W.Frag} {H : Hp} {x : V} {t : Value} {o : Addr} {xs ys : List V} (h : TyX K H x t) (ho : H o = some (.lst xs)) : TyX K (upd H o (.lst ys)) x t := by
  have st : ∀ {a : Addr} {u : HO}, H a = some u → (∀ zs, u ≠ .lst zs) → upd H o (.lst ys) a = some u := fun e n => get_ne (fun z => by
    subst z
    rw [ho] at e
    exact n xs (Option.some.inj e).symm) e
  cases h with
  | base b =>
    cases b with
    | non => exact .base .non
    | bl y => exact .base (.bl y)
    | int i => exact .base (.int i)
    | str y => exact .base (.str y)
    | flt y => exact .base (.flt y)
    | @lst a zs e =>
      by_cases q : a = o
      · subst q
        exact .base (.lst upd_same)
      · exact .base (.lst (get_ne q e))
    | frz e => exact .base (.frz (st e (by intro z q; cases q)))
    | tup e => exact .base (.tup (st e (by intro z q; cases q)))
    | dK e => exact .base (.dK (st e (by intro z q; cases q)))
    | dT e => exact .base (.dT (st e (by intro z q; cases q)))
    | ins e a b c d f => exact .base (.ins (st e (by intro z q; cases q)) a b c d f)
  | byt b => exact .byt b
  | set e => exact .set (st e (by intro z q; cases q))
  | kList e c => exact .kList e c
  | kTuple e c => exact .kTuple e c
  | kDict e c => exact .kDict e c
  | fTuple e => exact .fTuple (st e (by intro z q; cases q))
  | fDict e => exact .fDict (st e (by intro z q; cases q))
theorem Bi.lset {K : PySem.W.Frag} {H : Hp} {v : V} {o : Addr} {xs ys : List V} (h : Bi K H v) (ho : H o = some (.lst xs)) : Bi K (upd H o (.lst ys)) v := let ⟨T, a, b⟩ := h; ⟨T, TyX.lset a ho, b⟩
theorem SqT.lset {K : PySem.W.Frag} {H : Hp} {a o : Addr} {zs xs ys : List V} (h : SqT K H a zs) (ho : H o = some (.lst xs)) : SqT K (upd H o (.lst ys)) a zs := by
  rcases h with (h | ⟨u, h⟩) | h
  · exact .inl (.inl (get_ne (ne_of h ho (by intro z; cases z)) h))
  · exact .inl (.inr ⟨u, get_ne (ne_of h ho (by intro z; cases z)) h⟩)
  · exact .inr h
theorem SqL.lset {K : PySem.W.Frag} {H : Hp} {a o : Addr} {zs : List V} {u : HO} (h : SqL K H a zs) (ho : a ≠ o) : SqL K (upd H o u) a zs := by
  rcases h with (h | ⟨u, h⟩) | h
  · exact .inl (.inl (get_ne ho h))
  · exact .inl (.inr ⟨u, get_ne ho h⟩)
  · exact .inr h
end Ev
namespace Ev
open PySem L2
theorem nxE {N : L2.St → Hp → Prop} {r : VK} {bk ct : L2.St → Hp → Prop} {σ : L2.St} {H : Hp} (h : N σ H) : ({ nx := N, rt := r, bk := bk, ct := ct } : Ends).nx σ H := h
theorem gn {i : Nat} {v : V} {σ : L2.St} {H : Hp} {Q : L2.St → Hp → Prop} (h : Q (σ.set i (some v)) H) : gName i v σ H Q := h
end Ev
namespace Ev
open PySem L2
theorem cut_tail (y : Int) (ys : List Int) : cutV ((y :: ys).map V.int) (some 1) none = ys.map V.int := by
  simp [cutV, HT.sIx]
  exact List.take_of_length_le (by simp)
end Ev
namespace Ev
open PySem PySem.Spec PyProof.Rows L2
structure ShN (c k : Nat) (d : PyData) : Prop where
  sh : d.showable = true
  nd : d.hasDict = false
  dp : d.depth ≤ k
  ct : cost d ≤ c
theorem ShN.shows {c k : Nat} {d : PyData} (h : ShN c k d) (hc : c ≤ 16777216) (hk : k ≤ 64) : Shows d := ⟨h.sh, h.nd, Nat.le_trans h.dp hk, Nat.le_trans h.ct hc⟩
theorem ShN.mono {c k c' k' : Nat} {d : PyData} (h : ShN c k d) (hc : c ≤ c') (hk : k ≤ k') : ShN c' k' d := ⟨h.sh, h.nd, Nat.le_trans h.dp hk, Nat.le_trans h.ct hc⟩
theorem shn_int {z : Int} (h : z.natAbs.log2 < 1920) : ShN 1921 1 (.int z) := ⟨decide_eq_true h, rfl, by show PyData.depth (.int z) ≤ 1; first | exact Nat.zero_le _ | exact Nat.le_refl _, Nat.le_refl _⟩
theorem shn_bool (b : Bool) : ShN 1921 1 (.bool b) := ⟨rfl, rfl, by show PyData.depth (.bool b) ≤ 1; first | exact Nat.zero_le _ | exact Nat.le_refl _, by show 5 ≤ 1921; decide⟩
theorem shn_none : ShN 1921 1 .none := ⟨rfl, rfl, by show PyData.depth .none ≤ 1; first | exact Nat.zero_le _ | exact Nat.le_refl _, by show 4 ≤ 1921; decide⟩
theorem shn_str {s : Str} (h : (reprText s).length ≤ 1921) : ShN 1921 1 (.str s) := ⟨rfl, rfl, by show PyData.depth (.str s) ≤ 1; first | exact Nat.zero_le _ | exact Nat.le_refl _, h⟩
theorem shn_all {c k : Nat} : ∀ {ds : List PyData}, (∀ d ∈ ds, ShN c k d) → PyData.showableAll ds = true ∧ PyData.hasDictAll ds = false ∧ PyData.depthAll ds ≤ k ∧ costs ds ≤ ds.length * (c + 2)
  | [], _ => ⟨rfl, rfl, Nat.zero_le _, Nat.zero_le _⟩
  | d :: ds, h => by
    obtain ⟨a1, a2, a3, a4⟩ := shn_all fun e he => h e (List.mem_cons_of_mem _ he)
    have hd := h d List.mem_cons_self
    refine ⟨?_, ?_, ?_, ?_⟩
    · show (d.showable && PyData.showableAll ds) = true
      rw [hd.sh, a1]
      rfl
    · show (d.hasDict || PyData.hasDictAll ds) = false
      rw [hd.nd, a2]
      rfl
    · show max d.depth (PyData.depthAll ds) ≤ k
      exact Nat.max_le.mpr ⟨hd.dp, a3⟩
    · have := hd.ct
      show cost d + 2 + costs ds ≤ (ds.length + 1) * (c + 2)
      rw [Nat.add_mul]
      omega
theorem shn_list {c k n : Nat} {ds : List PyData} (h : ∀ d ∈ ds, ShN c k d) (hn : ds.length ≤ n) : ShN (n * (c + 2) + 2) (k + 1) (.list ds) := by
  obtain ⟨a1, a2, a3, a4⟩ := shn_all h
  refine ⟨a1, a2, ?_, ?_⟩
  · have q : PyData.depth (.list ds) ≤ PyData.depthAll ds + 1 := by
      first
        | exact Nat.le_refl _
        | (simp only [PyData.depth]; omega)
    omega
  · show costs ds + 2 ≤ _
    have := Nat.mul_le_mul_right (c + 2) hn
    omega
theorem shn_tuple {c k n : Nat} {ds : List PyData} (h : ∀ d ∈ ds, ShN c k d) (hn : ds.length ≤ n) : ShN (n * (c + 2) + 2) (k + 1) (.tuple ds) := by
  obtain ⟨a1, a2, a3, a4⟩ := shn_all h
  refine ⟨a1, a2, ?_, ?_⟩
  · have q : PyData.depth (.tuple ds) ≤ PyData.depthAll ds + 1 := by
      first
        | exact Nat.le_refl _
        | (simp only [PyData.depth]; omega)
    omega
  · show costs ds + 2 ≤ _
    have := Nat.mul_le_mul_right (c + 2) hn
    omega
theorem shn_nil {c k : Nat} : ∀ d ∈ ([] : List PyData), ShN c k d := fun _ h => by cases h
theorem shn_cons {c k : Nat} {d : PyData} {ds : List PyData} (h : ShN c k d) (t : ∀ e ∈ ds, ShN c k e) : ∀ e ∈ d :: ds, ShN c k e := fun e he => by
  rcases List.mem_cons.mp he with e1 | e1
  · subst e1
    exact h
  · exact t e e1
theorem shn_ints {ns : List Int} (h : ∀ z ∈ ns, z.natAbs.log2 < 1920) : ∀ e ∈ ns.map PyData.int, ShN 1921 1 e := fun e he => by
  obtain ⟨z, hz, rfl⟩ := List.mem_map.mp he
  exact shn_int (h z hz)
theorem mk_same {H H1 : Hp} {x dx : Addr} {o o2 : HO} (nx : H x = none) (nd : H dx = none) (b : But x (upd (upd H dx o) x o2) H1) : Same H H1 := fun a u e => by
  have h1 : a ≠ x := ne_of_none e nx
  exact b a u (get_ne h1 (get_new e nd)) h1
end Ev
namespace Ev
open PySem PySem.Spec PyProof.Rows L2
theorem back {x : V} {w : Value} {s : Shared} {Q : Value → Shared → Prop} (r : RelV x w) (h : Q w s) : PySem.W.CmpBack Q w s := by
  cases x <;> first | (obtain ⟨t, rfl⟩ := r; exact h) | (cases r; exact h)
theorem int_mul_own (a : Int) (t : Tok) (l : Addr) (o : Obj) :
    Meets (Builtin.«int.__mul__» ⟨[.int a t, .ref l], []⟩) (fun _ R s => s.heap.get? l = some o ∧ o.data = .plain ∧ R (.ok (.ret Value.notImplemented)) s) :=
  .of_wp fun prog w A R s h => by
    obtain ⟨c, d, da, sl⟩ := o
    obtain ⟨hp, g, d, tk, os⟩ := s
    obtain ⟨hl, hd, h⟩ := h
    cases hd
    wp_walk
    exact ⟨_, rfl, h⟩
section
variable {prog : Program} {w : World} {A : Around} {E : Value → Shared → Prop} {s : Shared} {K : PySem.W.Frag} {x C L f : Addr} {h₀ : Heap} {m : Str → Option Value} {ox : Obj} {od : Option Obj} {nm T : String}
open PySem.W in
theorem bin1_K {nm : String} {b : Value} {Q : Option Value → Shared → Prop} (F : Fr h₀ L s.heap m) (X₀ : K.In h₀) (I : InstAt s.heap x ox C od) (hb : Looks (model prog w) s.heap (typeOf b) (.ref C)) (hc : selfFirst K C = true)
    (hs : findIn K (.ref C) (PySem.dunder nm) = some (some (.ref f))) (hf : isFn K (.ref f) = true)
    (h : wpAny (model prog w) A (call (.ref f) [.ref x, b]) (PySem.W.CmpBack fun v s' => Q (some v) s') E s) : wpAny (model prog w) A (binaryOp1 nm (.ref x) b) Q E s := by
  have X := X₀.keeps F.keep
  obtain ⟨cd, rest, hcd, hm⟩ := ksp_first hc
  unfold binaryOp1
  refine wpAny_bind (I.type.here (wpAny_bind (hb.here (wpAny_bind ((fills_K X hcd hm hs).here ?_)))))
  simp only [beq_self_eq_true, if_true]
  refine wpAny_bind (wpAny_pure ?_)
  simp only [Bool.and_false, Bool.false_eq_true, if_false, Bool.false_and]
  refine wpAny_bind (wpAny_pure ?_)
  simp only [Bool.false_eq_true, if_false]
  refine wpAny_bind (m := tryMethod (.ref x) _ b) ?_
  unfold tryMethod
  refine wpAny_bind (special_fn X I hs (beq_iff_eq.mp hf) (wpAny_mono h (fun v s' hv => ?_) fun _ _ e => e))
  cases v <;> first | exact hv.elim | exact wpAny_pure (wpAny_pure hv)
open PySem.W in
theorem bin1_T {nm : String} {b : Value} {fo ro rc : Option Value} {Q : Option Value → Shared → Prop} (F : Fr h₀ L s.heap m) (X₀ : K.In h₀) (I : InstAt s.heap x ox C od) (hb : typeOf b = pure (.type T)) (hc : selfFirst K C = true)
    (hs : findIn K (.ref C) (PySem.dunder nm) = some (some (.ref f))) (hf : isFn K (.ref f) = true) (hr : findIn K (.ref C) (dunderR nm) = some rc) (hp : rc = none ∨ ∃ g : Addr, rc = some (.ref g))
    (h1 : findIn K (.type T) (PySem.dunder nm) = some fo) (h2 : findIn K (.type T) (dunderR nm) = some ro) (hsub : subIn K (.type T) (.ref C) = some false)
    (h : wpAny (model prog w) A (call (.ref f) [.ref x, b]) (PySem.W.CmpBack fun v s' => Q (some v) s') E s) : wpAny (model prog w) A (binaryOp1 nm (.ref x) b) Q E s := by
  have X := X₀.keeps F.keep
  obtain ⟨cd, rest, hcd, hm⟩ := ksp_first hc
  have one := ksp_try X I hs hf h
  obtain ⟨hh, g, d, tt, os⟩ := s
  have L1 : Looks (model prog w) hh (typeOf (.ref x)) (.ref C) := I.type
  have L2 : Looks (model prog w) hh (typeOf b) (.type T) := Looks.of_pure hb
  have L3 : Looks (model prog w) hh (fillsNumberSlot (.ref C) nm) true := fills_K X hcd hm hs
  have L4 : Looks (model prog w) hh (fillsNumberSlot (.type T) nm) ((fo.isSome && !isSeqSlot fo) || (ro.isSome && !isSeqSlot ro)) := ksp_fillsT X h1 h2
  have L5 : Looks (model prog w) hh (isSubtype (.type T) (.ref C)) false := looks_subIn X hsub
  have L6 : Looks (model prog w) hh (numberSlotInPython (.ref C) nm) true := ksp_inPy X hs hr hp
  have L7 : Looks (model prog w) hh (numberSlotInPython (.type T) nm) false := Looks.of_pure rfl
  have L8 : Looks (model prog w) hh (typeLookup (.type T) (dunderR nm)) ro := looks_findIn X h2
  generalize ((fo.isSome && !isSeqSlot fo) || (ro.isSome && !isSeqSlot ro)) = right at L4
  have hne : (Value.ref C == Value.type T) = false := Bool.eq_false_iff.mpr fun q => by cases beq_iff_eq.mp q
  unfold binaryOp1
  refine wpAny_bind (L1.at (wpAny_bind (L2.at (wpAny_bind (L3.at ?_)))))
  simp only [hne, Bool.false_eq_true, if_false]
  cases right with
  | false =>
    ksp_lk
    refine wpAny_mono one (fun r s' hr' => ?_) fun _ _ e => e
    obtain ⟨v, rfl, hq⟩ := hr'
    ksp_lk
    exact hq
  | true =>
    ksp_lk
    refine wpAny_mono one (fun r s' hr' => ?_) fun _ _ e => e
    obtain ⟨v, rfl, hq⟩ := hr'
    ksp_lk
    exact hq
open PySem.W in
theorem noI_K {M : Model} {h : Heap} {nm : String} {add : Bool} {cd : ClassData} (X : K.In h) (hc : clsIn K C = some cd) (hm : cd.mro = [.ref C, .type "object"]) (h1 : findIn K (.ref C) (dunderI nm) = some none) (h2 : findIn K (.type "object") (dunderI nm) = some none) : Looks M h (fillsInplaceSlot (.ref C) nm add) false := by
  intro A Q E s k q
  have Lm : Looks M h (mroOf (.ref C)) cd.mro := (looks_clsIn X hc).andThen (f := fun cd => pure cd.mro) .now
  have Lm' := Lm.keeps k
  obtain ⟨hh, g, d, tt, os⟩ := s
  have X' : K.In hh := X.keeps k
  have L1 : Looks M hh (typeLookup (.ref C) (dunderI nm)) none := looks_findIn X' h1
  have L2 : Looks M hh (typeLookup (.type "object") (dunderI nm)) none := looks_findIn X' h2
  unfold fillsInplaceSlot
  refine wpAny_bind (Lm'.at ?_)
  rw [hm, List.anyM_cons]
  refine wpAny_bind (wpAny_bind (L1.at (wpAny_pure ?_)))
  simp only [Bool.false_eq_true, if_false]
  rw [List.anyM_cons]
  refine wpAny_bind (wpAny_bind (L2.at (wpAny_pure ?_)))
  simp only [Bool.false_eq_true, if_false]
  exact wpAny_pure q
open PySem.W in
theorem inpl_K {op : Operator} {b : Value} {cd : ClassData} {Q : Value → Shared → Prop} (F : Fr h₀ L s.heap m) (X₀ : K.In h₀) (I : InstAt s.heap x ox C od) (hc : clsIn K C = some cd) (hm : cd.mro = [.ref C, .type "object"]) (h1 : findIn K (.ref C) (dunderI op.info.2) = some none) (h2 : findIn K (.type "object") (dunderI op.info.2) = some none)
    (h : wpAny (model prog w) A (binaryOp1 op.info.2 (.ref x) b) (fun v s' => ∃ u, v = some u ∧ Q u s') E s) : wpAny (model prog w) A (inplaceOp op (.ref x) b) Q E s := by
  have X := X₀.keeps F.keep
  unfold inplaceOp
  refine wpAny_holding (wpAny_bind (I.type.here ?_))
  refine wpAny_bind ((noI_K X hc hm h1 h2).here ?_)
  simp only [Bool.false_eq_true, if_false]
  refine wpAny_bind (wpAny_mono h (fun r s' hr => ?_) fun _ _ e => e)
  obtain ⟨u, rfl, hq⟩ := hr
  exact wpAny_pure hq
end
end Ev
namespace Ev
open PySem PySem.Spec PyProof.Rows L2
section
variable {X : Cx} {k j : Nat} {C : Addr} {sp : Sp} {E : XK} {op : Operator} {m : Str}
structure BO (K : PySem.W.Frag) (C : Addr) : Prop where
  sf : PySem.W.selfFirst K C = true
  ii : PySem.W.mroIn K C (.type "int") = some false
structure NoIp (K : PySem.W.Frag) (C : Addr) (i : Str) : Prop where
  cd : ∃ cd, PySem.W.clsIn K C = some cd ∧ cd.mro = [.ref C, .type "object"]
  h1 : PySem.W.findIn K (.ref C) i = some none
  h2 : PySem.W.findIn K (.type "object") i = some none
def rOwn2 (C : Addr) (sp : Sp) (E : XK) : R2 := fun x y H Q => ∃ (a dx b dy : Addr) (fs gs : List (Str × V)), x = .ref a ∧ y = .ref b ∧ H a = some (.ins C dx fs) ∧ H b = some (.ins C dy gs) ∧ sp [.ref a, .ref b] H Q E
def rOwnI (C : Addr) (sp : Sp) (E : XK) : R2 := fun x y H Q => ∃ (a dx : Addr) (fs : List (Str × V)) (n : Int), x = .ref a ∧ y = .int n ∧ H a = some (.ins C dx fs) ∧ sp [.ref a, .int n] H Q E
def rIOwn (C : Addr) (sp : Sp) (E : XK) : R2 := fun x y H Q => ∃ (a dx : Addr) (fs : List (Str × V)) (n : Int), x = .int n ∧ y = .ref a ∧ H a = some (.ins C dx fs) ∧ sp [.ref a, .int n] H Q E
theorem bin1_own {pins : List (Addr × Obj)} {σ : L2.St} {H : Hp} {s : Shared} {Q : VK} {x y : V} {v u : Value} (c : GM X.prog X.w X.K X.mg X.base k C m sp []) (B : BO X.K C) (hgd : X.A.guards = some []) (hr : Room j X.A) (hk : k ≤ j) (hx : Passes (L2.CX X.prog X.w) X E) (hm : m = PySem.dunder op.info.2)
    (I : Inv X pins σ H s) (rx : RelV x v) (ry : RelV y u) (h : rOwn2 C sp E x y H Q) : wpAny (model X.prog X.w) X.A (binaryOp1 op.info.2 v u) (fun r s' => ∃ w, r = some w ∧ EP X pins σ Q w s') X.xe s := by
  obtain ⟨a, dx, b, dy, fs, gs, rfl, rfl, ha, hb, q⟩ := h
  obtain ⟨f, fd, ps, ds, cl, M, F, bi, d⟩ := c.ex
  cases d
  cases rx
  cases ry
  subst hm
  obtain ⟨ox, od, J, _⟩ := inst_at I ha
  obtain ⟨oy, oe, J2, _⟩ := inst_at I hb
  obtain ⟨mm, hF⟩ := I.fr
  refine bin1_K hF I.ok.mod.kin J J2.type B.sf M.at_ M.fn ?_
  refine wpAny_mono (run_gA (vs := [.ref a, .ref b]) (us := [.ref a, .ref b]) (dvs := []) F hgd (hr.mono hk) rfl bi .nil hx I (.cons rfl (.cons rfl .nil)) q) (fun w s' hw => ?_) fun _ _ z => z
  obtain ⟨v', H', I', rv, q'⟩ := hw
  exact back rv ⟨_, rfl, v', H', I', rv, q'⟩
theorem bin1_ownI {pins : List (Addr × Obj)} {σ : L2.St} {H : Hp} {s : Shared} {Q : VK} {x y : V} {v u : Value} {fo ro rc : Option Value} (c : GM X.prog X.w X.K X.mg X.base k C m sp []) (B : BO X.K C) (hgd : X.A.guards = some []) (hr : Room j X.A) (hk : k ≤ j) (hx : Passes (L2.CX X.prog X.w) X E) (hm : m = PySem.dunder op.info.2)
    (hrc : PySem.W.findIn X.K (.ref C) (dunderR op.info.2) = some rc) (hp : rc = none ∨ ∃ g : Addr, rc = some (.ref g)) (h1 : PySem.W.findIn X.K (.type "int") (PySem.dunder op.info.2) = some fo) (h2 : PySem.W.findIn X.K (.type "int") (dunderR op.info.2) = some ro)
    (I : Inv X pins σ H s) (rx : RelV x v) (ry : RelV y u) (h : rOwnI C sp E x y H Q) : wpAny (model X.prog X.w) X.A (binaryOp1 op.info.2 v u) (fun r s' => ∃ w, r = some w ∧ EP X pins σ Q w s') X.xe s := by
  obtain ⟨a, dx, fs, n, rfl, rfl, ha, q⟩ := h
  obtain ⟨f, fd, ps, ds, cl, M, F, bi, d⟩ := c.ex
  cases d
  cases rx
  obtain ⟨t, rfl⟩ := ry
  subst hm
  obtain ⟨ox, od, J, _⟩ := inst_at I ha
  obtain ⟨mm, hF⟩ := I.fr
  refine bin1_T (T := "int") hF I.ok.mod.kin J rfl B.sf M.at_ M.fn hrc hp h1 h2 (sub_ty (by decide +kernel)) ?_
  refine wpAny_mono (run_gA (vs := [.ref a, .int n]) (us := [.ref a, .int n t]) (dvs := []) F hgd (hr.mono hk) rfl bi .nil hx I (.cons rfl (.cons ⟨_, rfl⟩ .nil)) q) (fun w s' hw => ?_) fun _ _ z => z
  obtain ⟨v', H', I', rv, q'⟩ := hw
  exact back rv ⟨_, rfl, v', H', I', rv, q'⟩
theorem bin_of {op : Operator} {a b : Value} {A : Around} {s : Shared} {M : Model} {E : Value → Shared → Prop} {Q : Value → Shared → Prop} (h : wpAny M A (binaryOp1 op.info.2 a b) (fun r s' => ∃ w, r = some w ∧ Q w s') E s) : wpAny M A (binaryOp op a b) Q E s := by
  unfold binaryOp
  refine wpAny_holding (wpAny_bind (wpAny_mono h (fun r s' hr => ?_) fun _ _ e => e))
  obtain ⟨u, rfl, hq⟩ := hr
  exact wpAny_pure hq
theorem op_binO (c : GM X.prog X.w X.K X.mg X.base k C m sp []) (B : BO X.K C) (hgd : X.A.guards = some []) (hr : Room j X.A) (hk : k ≤ j) (hx : Passes (L2.CX X.prog X.w) X E) (hm : m = PySem.dunder op.info.2 := by rfl) : OpR X (binaryOp op) (rOwn2 C sp E) :=
  fun pins s σ H x y v u Q I rx ry h => bin_of (bin1_own c B hgd hr hk hx hm I rx ry h)
theorem op_binOI {fo ro rc : Option Value} (c : GM X.prog X.w X.K X.mg X.base k C m sp []) (B : BO X.K C) (hrc : PySem.W.findIn X.K (.ref C) (dunderR op.info.2) = some rc) (hp : rc = none ∨ ∃ g : Addr, rc = some (.ref g)) (h1 : PySem.W.findIn X.K (.type "int") (PySem.dunder op.info.2) = some fo) (h2 : PySem.W.findIn X.K (.type "int") (dunderR op.info.2) = some ro)
    (hgd : X.A.guards = some []) (hr : Room j X.A) (hk : k ≤ j) (hx : Passes (L2.CX X.prog X.w) X E) (hm : m = PySem.dunder op.info.2 := by rfl) : OpR X (binaryOp op) (rOwnI C sp E) :=
  fun pins s σ H x y v u Q I rx ry h => bin_of (bin1_ownI c B hgd hr hk hx hm hrc hp h1 h2 I rx ry h)
theorem ip_binO (c : GM X.prog X.w X.K X.mg X.base k C m sp []) (B : BO X.K C) (N : NoIp X.K C (dunderI op.info.2)) (hgd : X.A.guards = some []) (hr : Room j X.A) (hk : k ≤ j) (hx : Passes (L2.CX X.prog X.w) X E) (hm : m = PySem.dunder op.info.2 := by rfl) : PIp X op (rOwn2 C sp E) := by
  intro pins s σ H x y v u Q I rx ry h
  have one := bin1_own c B hgd hr hk hx hm I rx ry h
  obtain ⟨a, dx, b, dy, fs, gs, rfl, rfl, ha, hb, q⟩ := h
  cases rx
  obtain ⟨ox, od, J, _⟩ := inst_at I ha
  obtain ⟨mm, hF⟩ := I.fr
  obtain ⟨cd, hcd, hmro⟩ := N.cd
  exact inpl_K hF I.ok.mod.kin J hcd hmro N.h1 N.h2 one
theorem ip_binOI {fo ro rc : Option Value} (c : GM X.prog X.w X.K X.mg X.base k C m sp []) (B : BO X.K C) (N : NoIp X.K C (dunderI op.info.2)) (hrc : PySem.W.findIn X.K (.ref C) (dunderR op.info.2) = some rc) (hp : rc = none ∨ ∃ g : Addr, rc = some (.ref g)) (h1 : PySem.W.findIn X.K (.type "int") (PySem.dunder op.info.2) = some fo) (h2 : PySem.W.findIn X.K (.type "int") (dunderR op.info.2) = some ro)
    (hgd : X.A.guards = some []) (hr : Room j X.A) (hk : k ≤ j) (hx : Passes (L2.CX X.prog X.w) X E) (hm : m = PySem.dunder op.info.2 := by rfl) : PIp X op (rOwnI C sp E) := by
  intro pins s σ H x y v u Q I rx ry h
  have one := bin1_ownI c B hgd hr hk hx hm hrc hp h1 h2 I rx ry h
  obtain ⟨a, dx, fs, n, rfl, rfl, ha, q⟩ := h
  cases rx
  obtain ⟨ox, od, J, _⟩ := inst_at I ha
  obtain ⟨mm, hF⟩ := I.fr
  obtain ⟨cd, hcd, hmro⟩ := N.cd
  exact inpl_K hF I.ok.mod.kin J hcd hmro N.h1 N.h2 one
theorem op_rmulO {f2 : Addr} (c : GM X.prog X.w X.K X.mg X.base k C "__rmul__" sp []) (B : BO X.K C) (hmul : PySem.W.findIn X.K (.ref C) "__mul__" = some (some (.ref f2)))
    (hgd : X.A.guards = some []) (hr : Room j X.A) (hk : k ≤ j) (hx : Passes (L2.CX X.prog X.w) X E) : OpR X (binaryOp .Mult) (rIOwn C sp E) := by
  intro pins s σ H x y v u Q I rx ry h
  obtain ⟨a, dx, fs, n, rfl, rfl, ha, q⟩ := h
  obtain ⟨f, fd, ps, ds, cl, M, G, bi, d⟩ := c.ex
  cases d
  cases ry
  obtain ⟨t, rfl⟩ := rx
  obtain ⟨ox, od, J, hpl⟩ := inst_at I ha
  obtain ⟨mm, hF⟩ := I.fr
  have X0 := I.ok.mod.kin.keeps hF.keep
  obtain ⟨cd, rest, hcd, hm⟩ := PySem.W.ksp_first B.sf
  refine bin_of ?_
  have one : wpAny (model X.prog X.w) X.A (tryMethod (.ref a) "__rmul__" (.int n t)) (fun r s' => ∃ w, r = some w ∧ EP X pins σ Q w s') X.xe s := by
    refine PySem.W.ksp_try X0 J M.at_ M.fn ?_
    refine wpAny_mono (run_gA (vs := [.ref a, .int n]) (us := [.ref a, .int n t]) (dvs := []) G hgd (hr.mono hk) rfl bi .nil hx I (.cons rfl (.cons ⟨_, rfl⟩ .nil)) q) (fun w s' hw => ?_) fun _ _ z => z
    obtain ⟨v', H', I', rv, q'⟩ := hw
    exact back rv ⟨v', H', I', rv, q'⟩
  have L1 : PySem.W.Looks (model X.prog X.w) s.heap (typeOf (.ref a)) (.ref C) := J.type
  have L3 : PySem.W.Looks (model X.prog X.w) s.heap (fillsNumberSlot (.ref C) "mul") true := PySem.W.fills_K X0 hcd hm hmul
  have L5 : PySem.W.Looks (model X.prog X.w) s.heap (isSubtype (.ref C) (.type "int")) false := PySem.W.looks_mroIn X0 B.ii
  have hne : (Value.type "int" == Value.ref C) = false := Bool.eq_false_iff.mpr fun q => by cases beq_iff_eq.mp q
  show wpAny (model X.prog X.w) X.A (binaryOp1 "mul" (.int n t) (.ref a)) _ X.xe s
  unfold binaryOp1
  refine wpAny_bind (wpAny_of_eq (a := Value.type "int") rfl ?_)
  refine wpAny_bind (L1.here ?_)
  refine wpAny_bind (wpAny_of_eq (a := true) PySem.F.fills_int_mul ?_)
  simp only [hne, Bool.false_eq_true, if_false]
  refine wpAny_bind (L3.here ?_)
  simp only [Bool.and_self, if_true]
  refine wpAny_bind (L5.here ?_)
  simp only [Bool.false_eq_true, if_false]
  rw [if_pos (show (true && !false) = true from rfl)]
  refine wpAny_bind (wpAny_of_eq (a := false) rfl ?_)
  simp only [Bool.false_eq_true, if_false]
  have hox := J.at_
  refine wpAny_bind (m := tryMethod (.int n t) _ (.ref a)) ?_
  unfold tryMethod
  refine wpAny_bind (wpAny_callSpecial?_slot (name := PySem.dunder "mul") (typeIs_int s n t) PySem.F.slot_int_mul ?_)
  refine call_meets PySem.F.slot_int_mul (typeIs_int s n t) PySem.F.entry_int_mul (PySem.F.args_int_mul_2 _ _) (int_mul_own n t a ox) ⟨hox, hpl, ?_⟩
  refine wpAny_pure ?_
  rw [if_pos (show (true && !false) = true from rfl)]
  refine wpAny_bind (wpAny_mono one (fun r s' hr => ?_) fun _ _ e => e)
  obtain ⟨w, rfl, hq⟩ := hr
  exact wpAny_bind (wpAny_rule (wpAny_pure ⟨w, rfl, hq⟩))
end
end Ev
namespace Ev
open PySem PySem.Spec PyProof.Rows L2
section
variable {X : Cx} {k j : Nat} {C : Addr} {sp : Sp} {E : XK}
theorem call_strO (c : GM X.prog X.w X.K X.mg X.base k C "__str__" sp []) (hgd : X.A.guards = some []) (hr : Room j X.A) (hk : k + 2 ≤ j) (hx : Passes (L2.CX X.prog X.w) X E) :
    CallR X (.type "str") (fun xs H Q => ∃ x, xs = [x] ∧ rOwn1 C sp E (fun v => ∃ z : Str, v = .str z) x H Q) := by
  intro pins s σ H xs us Q I r h
  obtain ⟨x, rfl, a, dx, fs, rfl, ha, q⟩ := h
  obtain ⟨f, fd, ps, ds, cl, M, F, b, d⟩ := c.ex
  cases d
  cases r with
  | cons rx rn =>
    cases rn
    cases rx
    obtain ⟨ox, od, J, _⟩ := inst_at I ha
    obtain ⟨mm, hF⟩ := I.fr
    have hr2 : Room (k + 2) X.A := hr.mono hk
    refine PySem.W.kso_call (by have := hr2.un0; show X.A.units + 1 + 1 < cLine; omega) I.kIn J M.at_ M.fn ?_
    refine wpAny_mono (run_gA (vs := [.ref a]) (us := [.ref a]) (dvs := []) F hgd hr2.in1.in1 rfl b .nil hx I (.cons rfl .nil) q) (fun w s' hw => ?_) fun _ _ z => z
    obtain ⟨v', H', I', rv, ⟨z, ev⟩, q'⟩ := hw
    subst ev
    obtain ⟨t, rfl⟩ := rv
    exact ⟨.str z, H', I', ⟨_, rfl⟩, q'⟩
theorem tuple_mul1 (l : Addr) (items : Array Value) (n : Nat) (dd : Option Addr) (sl : Array (Option Value)) (u : Tok) :
    Meets (Builtin.«tuple.__mul__» ⟨[.ref l, .int 1 u], []⟩) (fun _ R s => s.heap.get? l = some { cls := .type "tuple", dict := dd, data := .seq items n, slots := sl } ∧ R (.ok (.ret (Value.ref l))) s) :=
  .of_wp fun prog w A R s h => by
    obtain ⟨hp, g, d, tk, os⟩ := s
    obtain ⟨hl, h⟩ := h
    have f1 := AutoSeq1.idx_int
    wp_walk using wpAny_loadPart' hl
    repeat (first
      | (refine wpAny_ite_false (decide_eq_false (by decide)) ?_; wp_walk using wpAny_loadPart' hl)
      | (refine wpAny_ite_true (decide_eq_true (by simp)) ?_; wp_walk using wpAny_loadPart' hl))
    exact ⟨_, rfl, h⟩
def rRepT1 (K : PySem.W.Frag) : R2 := fun x y H Q => ∃ l xs, x = .ref l ∧ y = .int 1 ∧ SqT K H l xs ∧ Q (.ref l) H
theorem op_repT1 : OpR X (binaryOp .Mult) (rRepT1 X.K) := by
  intro pins s σ H x y v u Q I rx ry h
  obtain ⟨l, xs, rfl, rfl, hT, q⟩ := h
  cases rx
  obtain ⟨t, rfl⟩ := ry
  obtain ⟨its, r, ⟨⟨cls, dd, data, sl⟩, ho, hc, n, hd⟩, hs⟩ := I.tuple hT
  simp only at hc hd
  subst hc hd
  refine wpAny_binaryOp_repeat_ref (T := "tuple") (U := "int") (by decide) ⟨_, ho, rfl⟩ (fun s' => typeIs_int s' 1 t) noFill_tuple_mul PySem.F.fills_int_mul PySem.F.slot_int_rmul repeat_tuple PySem.F.slot_int_index.lookup
    (call_meets PySem.F.slot_int_rmul (typeIs_int s 1 t) PySem.F.entry_int_rmul (PySem.F.args_int_rmul_2 _ _) (int_rmul_tuple 1 t l its.toArray n dd sl)
      ⟨ho, rfl, ⟨_, ho, rfl⟩, call_meets PySem.F.slot_tuple_mul ⟨_, ho, rfl⟩ PySem.F.entry_tuple_mul (PySem.F.args_tuple_mul_2 _ _) (tuple_mul1 l its.toArray n dd sl t) ⟨ho, ?_⟩⟩)
  exact ⟨.ref l, H, I, rfl, q⟩
def rRepN (K : PySem.W.Frag) : R2 := fun x y H Q => ∃ (l : Addr) (z : V) (n : Nat), x = .ref l ∧ y = .int n ∧ SqT K H l [z] ∧ 1 ≤ n ∧ n ≤ 1000 ∧ ∀ p H', Same H H' → SqT K H' p (List.replicate n z) → Q (.ref p) H'
theorem op_repN : OpR X (binaryOp .Mult) (rRepN X.K) := by
  intro pins s σ H x y v u Q I rx ry h
  obtain ⟨l, z, n, rfl, rfl, hT, h1, h2, q⟩ := h
  by_cases e : n = 1
  · subst e
    exact op_repT1 pins s σ H _ _ v u Q I rx ry ⟨l, [z], rfl, rfl, hT, q l H (Same.refl _) hT⟩
  · refine op_repT pins s σ H _ _ v u Q I rx ry ⟨l, n, [z], rfl, rfl, hT, by simp, by omega, by omega, by simp, fun p np => ?_⟩
    have e2 : (List.replicate (n : Int).toNat [z]).flatten = List.replicate n z := by
      rw [Int.toNat_natCast]
      clear h2 h1 e q ry
      induction n with
      | zero => rfl
      | succ n ih => rw [List.replicate_succ, List.flatten_cons, ih, List.replicate_succ]; rfl
    rw [e2]
    exact q p _ (Ev.Same.new (Same.refl _) np) (SqT.of upd_same)
end
end Ev
namespace Ev
open PySem PySem.Spec PyProof.Rows L2
section
variable {X : Cx} {K : PySem.W.Frag}
theorem ix_listK (hK : X.K = K := by rfl) : IxR X (rIxL K) := hK ▸ ix_list
theorem ix_tupK (hK : X.K = K := by rfl) : IxR X (rIxT K) := hK ▸ ix_tup
theorem sl_listK (hK : X.K = K := by rfl) : SlR X (rSlL K) := hK ▸ sl_list
theorem sl_tupK (hK : X.K = K := by rfl) : SlR X (rSlA K) := hK ▸ sl_tupA
theorem op_inK (hK : X.K = K := by rfl) : OpR X (compareOp .In) (rIn K false) := hK ▸ op_in_seq
theorem op_notInK (hK : X.K = K := by rfl) : OpR X (compareOp .NotIn) (rIn K true) := hK ▸ op_notIn_seq
theorem op_eqDK (hu : X.A.units + 64 < cLine) (hK : X.K = K := by rfl) : OpR X (compareOp .Eq) (rEqD K) := hK ▸ op_eqD hu
theorem op_neDK (hu : X.A.units + 64 < cLine) (hK : X.K = K := by rfl) : OpR X (compareOp .NotEq) (rNeD K) := hK ▸ op_neD hu
theorem op_catK (hK : X.K = K := by rfl) : OpR X (binaryOp .Add) (rCatA K) := hK ▸ op_catA
theorem op_repNK (hK : X.K = K := by rfl) : OpR X (binaryOp .Mult) (rRepN K) := hK ▸ op_repN
theorem call_lenK (hK : X.K = K := by rfl) : CallR X (.builtin "len") (fun xs H Q => ∃ p ys, xs = [.ref p] ∧ (SqL K H p ys ∨ SqT K H p ys) ∧ Q (.int ys.length) H) := hK ▸ call_len_seq
theorem call_listK (hK : X.K = K := by rfl) : CallR X (.type "list") (fun xs H Q => ∃ p ys, xs = [.ref p] ∧ (SqL K H p ys ∨ SqT K H p ys) ∧ ∀ l, H l = none → Q (.ref l) (upd H l (.lst ys))) := hK ▸ call_list_of
theorem call_tupleK (hK : X.K = K := by rfl) : CallR X (.type "tuple") (fun xs H Q => ∃ p ys, xs = [.ref p] ∧ ((SqL K H p ys ∧ ∀ l, H l = none → Q (.ref l) (upd H l (.tup ys))) ∨ (SqT K H p ys ∧ Q (.ref p) H))) := hK ▸ call_tuple_of
theorem call_isiK (hK : X.K = K := by rfl) : CallR X (.builtin "isinstance") (rIsi K) := hK ▸ call_isi
theorem call_isiTK (hK : X.K = K := by rfl) : CallR X (.builtin "isinstance") (rIsiT K) := hK ▸ call_isiT
theorem cr_sumK (hc : X.calm = true) (hK : X.K = K := by rfl) : CallR X (.builtin "sum") (rSum K) := hK ▸ cr_sum hc
theorem cr_maxK (hc : X.calm = true) (hK : X.K = K := by rfl) : CallR X (.builtin "max") (rMax K) := hK ▸ cr_max hc
theorem cr_minK (hc : X.calm = true) (hK : X.K = K := by rfl) : CallR X (.builtin "min") (rMin K) := hK ▸ cr_min hc
theorem cr_anyK (hc : X.calm = true) (hK : X.K = K := by rfl) : CallR X (.builtin "any") (rAny K) := hK ▸ cr_any hc
theorem cr_allK (hc : X.calm = true) (hK : X.K = K := by rfl) : CallR X (.builtin "all") (rAll K) := hK ▸ cr_all hc
theorem call_reprK (hgd : X.A.guards = some []) (hu : X.A.units + 64 < cLine) (hu2 : X.A.units + 200 < cLine) (hK : X.K = K := by rfl) : CallR X (.builtin "repr") (rRepr K) := hK ▸ call_repr hgd hu hu2
end
end Ev
namespace Ev
open PySem L2
def ExcV (a : Addr) (cls : Value) (d : Option Addr) : HO := .ext fun h => ∃ (o : Obj) (vs : Array Value), h.get? a = some o ∧ o.cls = cls ∧ o.dict = d ∧ o.data = .fields vs
end Ev
namespace Pu
open PySem L2
inductive PV where
  | non | bl (b : Bool) | int (i : Int) | str (s : Str) | lst (xs : List PV) | tup (xs : List PV) | ins (c : Str) (fs : List (Str × PV)) | exc (c : Str) (fs : List (Str × PV)) | pen | ext (v : V) | dct (xs : List (Key × PV))
abbrev XP := Str → List (Str × PV) → Nat → Prop
def W0 : XP := fun _ _ _ => False
abbrev M (α : Type) := XP → Nat → (α → Nat → Prop) → Prop
inductive Slot where
  | no | val (v : PV) | own (xs : List PV) | obj (c : Str) (fs : List (Str × PV))
abbrev PEnv := List Slot
structure EndsP where
  nx : PEnv → Nat → Prop
  rt : PV → Nat → Prop
  bk : PEnv → Nat → Prop := fun _ _ => False
  ct : PEnv → Nat → Prop := fun _ _ => False
abbrev MS := (PEnv → XP) → EndsP → PEnv → Nat → Prop
structure Md where
  cl : Str → Option Addr
  cx : Str → Option Addr
  T : List (Addr × Str)
instance : CoeFun Md fun _ => Str → Option Addr := ⟨Md.cl⟩
section
variable (K : PySem.W.Frag) (cm : Md) (p : Addr) (G : Hp)
mutual
inductive Rep : V → PV → Prop
  | non : Rep .non .non
  | bl (b : Bool) : Rep (.bl b) (.bl b)
  | int (i : Int) : Rep (.int i) (.int i)
  | str (s : Str) : Rep (.str s) (.str s)
  | lst {a : Addr} {vs : List V} {ps : List PV} : G a = some (.lst vs) → RepL vs ps → Rep (.ref a) (.lst ps)
  | tup {a : Addr} {vs : List V} {ps : List PV} : SqT K G a vs → RepL vs ps → Rep (.ref a) (.tup ps)
  | ins {a C dx : Addr} {c : Str} {vs : List (Str × V)} {ps : List (Str × PV)} : cm c = some C → G a = some (.ins C dx vs) → RepF vs ps → Rep (.ref a) (.ins c ps)
  | exc {a C : Addr} {d : Option Addr} {c : Str} {ps : List (Str × PV)} : cm.cx c = some C → G a = some (Ev.ExcV a (.ref C) d) → RepX d ps → Rep (.ref a) (.exc c ps)
  | pen : Rep (.ref p) .pen
  | ext (v : V) : Rep v (.ext v)
  | dct {a : Addr} {vs : List (Key × V)} {ps : List (Key × PV)} : G a = some (.dK vs) → RepK vs ps → Rep (.ref a) (.dct ps)
inductive RepK : List (Key × V) → List (Key × PV) → Prop
  | nil : RepK [] []
  | cons {k : Key} {v : V} {q : PV} {vs : List (Key × V)} {ps : List (Key × PV)} : Rep v q → RepK vs ps → RepK ((k, v) :: vs) ((k, q) :: ps)
inductive RepL : List V → List PV → Prop
  | nil : RepL [] []
  | cons {v : V} {q : PV} {vs : List V} {ps : List PV} : Rep v q → RepL vs ps → RepL (v :: vs) (q :: ps)
inductive RepF : List (Str × V) → List (Str × PV) → Prop
  | nil : RepF [] []
  | cons {f : Str} {v : V} {q : PV} {vs : List (Str × V)} {ps : List (Str × PV)} : Rep v q → RepF vs ps → RepF ((f, v) :: vs) ((f, q) :: ps)
inductive RepX : Option Addr → List (Str × PV) → Prop
  | none : RepX none []
  | some {d : Addr} {vs : List (Str × V)} {ps : List (Str × PV)} : G d = some (.xd vs) → RepF vs ps → RepX (some d) ps
end
end
section
variable {K : PySem.W.Frag} {cm : Md} {p : Addr} {G G' : Hp}
mutual
theorem Rep.mono (s : Same G G') : ∀ {v : V} {q : PV}, Rep K cm p G v q → Rep K cm p G' v q
  | _, _, .non => .non
  | _, _, .bl b => .bl b
  | _, _, .int i => .int i
  | _, _, .str x => .str x
  | _, _, .lst h r => .lst (s _ _ h) (RepL.mono s r)
  | _, _, .tup h r => .tup (Ev.Same.seqT s h) (RepL.mono s r)
  | _, _, .ins h g r => .ins h (s _ _ g) (RepF.mono s r)
  | _, _, .exc h g r => .exc h (s _ _ g) (RepX.mono s r)
  | _, _, .pen => .pen
  | _, _, .ext v => .ext v
  | _, _, .dct h r => .dct (s _ _ h) (RepK.mono s r)
theorem RepK.mono (s : Same G G') : ∀ {v : List (Key × V)} {q : List (Key × PV)}, RepK K cm p G v q → RepK K cm p G' v q
  | _, _, .nil => .nil
  | _, _, .cons h r => .cons (Rep.mono s h) (RepK.mono s r)
theorem RepL.mono (s : Same G G') : ∀ {v : List V} {q : List PV}, RepL K cm p G v q → RepL K cm p G' v q
  | _, _, .nil => .nil
  | _, _, .cons h r => .cons (Rep.mono s h) (RepL.mono s r)
theorem RepF.mono (s : Same G G') : ∀ {v : List (Str × V)} {q : List (Str × PV)}, RepF K cm p G v q → RepF K cm p G' v q
  | _, _, .nil => .nil
  | _, _, .cons h r => .cons (Rep.mono s h) (RepF.mono s r)
theorem RepX.mono (s : Same G G') : ∀ {v : Option Addr} {q : List (Str × PV)}, RepX K cm p G v q → RepX K cm p G' v q
  | _, _, .none => .none
  | _, _, .some h r => .some (s _ _ h) (RepF.mono s r)
end
theorem RepL.len : ∀ {v : List V} {q : List PV}, RepL K cm p G v q → v.length = q.length
  | _, _, .nil => rfl
  | _, _, .cons _ r => by rw [List.length_cons, List.length_cons, RepL.len r]
theorem RepL.get : ∀ {v : List V} {q : List PV} {i : Nat} {x : PV}, RepL K cm p G v q → q[i]? = some x → ∃ y, v[i]? = some y ∧ Rep K cm p G y x
  | _, _, _, _, .nil, e => by simp at e
  | _, _, 0, _, .cons r _, e => by simp at e; subst e; exact ⟨_, rfl, r⟩
  | _, _, i + 1, x, .cons _ t, e => by
    obtain ⟨u, h1, h2⟩ := RepL.get (i := i) (x := x) t (by simpa using e)
    exact ⟨u, by simpa using h1, h2⟩
theorem RepL.append : ∀ {v v2 : List V} {q q2 : List PV}, RepL K cm p G v q → RepL K cm p G v2 q2 → RepL K cm p G (v ++ v2) (q ++ q2)
  | _, _, _, _, .nil, s => s
  | _, _, _, _, .cons r t, s => .cons r (RepL.append t s)
theorem RepL.take : ∀ {v : List V} {q : List PV} (n : Nat), RepL K cm p G v q → RepL K cm p G (v.take n) (q.take n)
  | _, _, 0, _ => .nil
  | _, _, _ + 1, .nil => .nil
  | _, _, n + 1, .cons r t => .cons r (RepL.take n t)
theorem RepL.drop : ∀ {v : List V} {q : List PV} (n : Nat), RepL K cm p G v q → RepL K cm p G (v.drop n) (q.drop n)
  | _, _, 0, r => r
  | _, _, _ + 1, .nil => .nil
  | _, _, n + 1, .cons _ t => RepL.drop n t
theorem RepF.look : ∀ {v : List (Str × V)} {q : List (Str × PV)} {f : Str}, RepF K cm p G v q → (q.lookup f = none ∧ v.lookup f = none) ∨ ∃ x y, q.lookup f = some x ∧ v.lookup f = some y ∧ Rep K cm p G y x
  | _, _, _, .nil => .inl ⟨rfl, rfl⟩
  | _, _, f, .cons (f := g) (v := y) (q := x) h r => by
    simp only [List.lookup]
    by_cases e : (f == g) = true
    · rw [e]
      exact .inr ⟨_, _, rfl, rfl, h⟩
    · rw [show (f == g) = false by simpa using e]
      exact RepF.look r
theorem RepF.len : ∀ {v : List (Str × V)} {q : List (Str × PV)}, RepF K cm p G v q → v.length = q.length
  | _, _, .nil => rfl
  | _, _, .cons _ r => by rw [List.length_cons, List.length_cons, RepF.len r]
def pputF (f : Str) (x : PV) : List (Str × PV) → List (Str × PV)
  | [] => [(f, x)]
  | (g, y) :: r => if g = f then (g, x) :: r else (g, y) :: pputF f x r
end
structure Ok (cm : Md) (p c : Addr) (G H : Hp) (n : Nat) : Prop where
  sub : Same G H
  pen : Ev.Pen H p c (90000 - (n : Int))
  gp : G p = none
  gc : G c = none
  tb : LamX.Tabs cm.T H
  gt : ∀ b ps, G b ≠ some (.tbl ps)
def NT (o : HO) : Prop := ∀ ps, o ≠ .tbl ps
theorem nt_lst {xs : List V} : NT (.lst xs) := fun _ h => by cases h
theorem nt_tup {xs : List V} : NT (.tup xs) := fun _ h => by cases h
theorem nt_ins {C dx : Addr} {fs : List (Str × V)} : NT (.ins C dx fs) := fun _ h => by cases h
theorem nt_dK {kvs : List (Key × V)} : NT (.dK kvs) := fun _ h => by cases h
theorem nt_own {x : Addr} : NT (.own x) := fun _ h => by cases h
theorem nt_xd {fs : List (Str × V)} : NT (.xd fs) := fun _ h => by cases h
theorem nt_ext {φ : Heap → Prop} : NT (.ext φ) := fun _ h => by cases h
theorem Tabs.set {T : List (Addr × Str)} {H : Hp} {a : Addr} {o u : HO} (t : LamX.Tabs T H) (e : H a = some o) (n : NT o) (c : ∀ φ, o ≠ .ext φ) : LamX.Tabs T (upd H a u) := fun q hq => by
  obtain ⟨ps, h1, h2, h3⟩ := t q hq
  refine ⟨ps, (upd_ne (fun z => ?_)).trans h1, h2, fun pos cv hc => ?_⟩
  · rw [z, e] at h1
    exact n _ (Option.some.inj h1)
  · obtain ⟨d, e1, e2⟩ := h3 pos cv hc
    refine ⟨d, e1, (upd_ne (fun z => ?_)).trans e2⟩
    rw [z, e] at e2
    exact c _ (Option.some.inj e2)
theorem Tabs.new {T : List (Addr × Str)} {H : Hp} {a : Addr} {u : HO} (t : LamX.Tabs T H) (e : H a = none) : LamX.Tabs T (upd H a u) := LamX.Tabs.ext t fun _ _ h => Ev.get_new h e
theorem Tabs.but {T : List (Addr × Str)} {H H' : Hp} {p c : Addr} {n : Int} (t : LamX.Tabs T H) (b : ∀ q o, H q = some o → q ≠ p → H' q = some o) (h : Ev.Pen H p c n) : LamX.Tabs T H' := fun q hq => by
  obtain ⟨_, _, _, hp, _⟩ := h
  obtain ⟨ps, h1, h2, h3⟩ := t q hq
  refine ⟨ps, b _ _ h1 (fun z => ?_), h2, fun pos cv hc => ?_⟩
  · rw [z, hp] at h1
    cases h1
  · obtain ⟨d, e1, e2⟩ := h3 pos cv hc
    refine ⟨d, e1, b _ _ e2 (fun z => ?_)⟩
    rw [z, hp] at e2
    cases e2
theorem gt_upd {G : Hp} {a : Addr} {o : HO} (g : ∀ b ps, G b ≠ some (.tbl ps)) (n : NT o) : ∀ b ps, upd G a o b ≠ some (.tbl ps) := fun b ps e => by
  by_cases z : b = a
  · subst z
    rw [upd_same] at e
    exact n _ (Option.some.inj e)
  · rw [upd_ne z] at e
    exact g _ _ e
def Has (H : Hp) (b : Addr) : Prop := ∃ o, H b = some o ∧ NT o
theorem Has.no {H : Hp} {b : Addr} (h : Has H b) (e : H b = none) : False := by
  obtain ⟨o, e2, _⟩ := h
  rw [e] at e2
  cases e2
theorem Has.upd {H : Hp} {a b : Addr} {o : HO} (h : Has H b) (n : NT o) : Has (upd H a o) b := by
  by_cases z : b = a
  · subst z
    exact ⟨o, upd_same, n⟩
  · obtain ⟨u, e, m⟩ := h
    exact ⟨u, (upd_ne z).trans e, m⟩
structure Step (ms : Addr → Prop) (G H G' H' : Hp) : Prop where
  same : Same G G'
  keep : ∀ b o, H b = some o → ¬ ms b → NT o → H' b = some o
  new : ∀ b o, G' b = some o → Has H b → G b = some o
  al : ∀ b, Has H b → Has H' b
theorem Step.refl (ms : Addr → Prop) (G H : Hp) : Step ms G H G H := ⟨Same.refl _, fun _ _ h _ _ => h, fun _ _ h _ => h, fun _ h => h⟩
theorem Step.trans {ms ms' : Addr → Prop} {G H G1 H1 G2 H2 : Hp} (a : Step ms G H G1 H1) (b : Step ms' G1 H1 G2 H2) (h : ∀ x, ms' x → ms x) : Step ms G H G2 H2 :=
  ⟨a.same.trans b.same, fun x o e n t => b.keep x o (a.keep x o e n t) (fun z => n (h x z)) t, fun x o e n => a.new x o (b.new x o e (a.al x n)) n, fun x n => b.al x (a.al x n)⟩
structure Z where
  K : PySem.W.Frag
  cm : Md
  p : Addr
  c : Addr
  H0 : Hp
  G0 : Hp
  ms : Addr → Prop
  W : PEnv → XP
  Gx : Hp
  me : Addr
  mC : Addr
  md : Addr
abbrev Z.rep (z : Z) : Hp → V → PV → Prop := Rep z.K z.cm z.p
abbrev Z.repL (z : Z) : Hp → List V → List PV → Prop := RepL z.K z.cm z.p
abbrev Z.repF (z : Z) : Hp → List (Str × V) → List (Str × PV) → Prop := RepF z.K z.cm z.p
abbrev Z.repX (z : Z) : Hp → Option Addr → List (Str × PV) → Prop := RepX z.K z.cm z.p
abbrev Z.nox (z : Z) : Z := { z with W := fun _ => W0 }
structure Fr (z : Z) (G H : Hp) : Prop where
  st : Step z.ms z.G0 z.H0 G H
  mp : z.ms z.p
  sx : Same z.Gx G
structure Mine (z : Z) (G : Hp) (a : Addr) : Prop where
  g : G a = none
  p : a ≠ z.p
  c : a ≠ z.c
  h : ¬ Has z.H0 a ∨ z.ms a
def Slot.isOwn : Slot → Bool
  | .own _ => true
  | .obj _ _ => true
  | _ => false
def SlotRel (z : Z) (G H : Hp) (x : Option V) : Slot → Prop
  | .no => True
  | .val q => ∃ v, x = some v ∧ z.rep G v q
  | .own ps => ∃ a vs, x = some (.ref a) ∧ H a = some (.lst vs) ∧ Mine z G a ∧ ¬ Has z.H0 a ∧ z.repL G vs ps
  | .obj c fs => ∃ a C dx vs, x = some (.ref a) ∧ z.cm c = some C ∧ H a = some (.ins C dx vs) ∧ Mine z G a ∧ z.repF G vs fs ∧ (a = z.me ∧ C = z.mC ∧ dx = z.md)
structure EnvRel (z : Z) (G H : Hp) (σ : L2.St) (env : PEnv) : Prop where
  at_ : ∀ (i : Nat) (s : Slot), env[i]? = some s → ∃ x, σ[i]? = some x ∧ SlotRel z G H x s
  df : ∀ (i j : Nat) (s s' : Slot) (a : Addr), i ≠ j → env[i]? = some s → env[j]? = some s' → s.isOwn = true → s'.isOwn = true → σ[i]? = some (some (.ref a)) → σ[j]? = some (some (.ref a)) → False
  len : σ.length = env.length
section
variable {z : Z} {G H G' H' : Hp} {n n' : Nat} {σ : L2.St} {env : PEnv}
theorem Fr.step {ms : Addr → Prop} (f : Fr z G H) (s : Step ms G H G' H') (h : ∀ x, ms x → z.ms x) : Fr z G' H' := ⟨f.st.trans s h, f.mp, f.sx.trans s.same⟩
theorem Fr.stepP (f : Fr z G H) (s : Step (· = z.p) G H G' H') : Fr z G' H' := f.step s fun x e => by subst e; exact f.mp
theorem SlotRel.step {x : Option V} {s : Slot} (st : Step (· = z.p) G H G' H') (r : SlotRel z G H x s) : SlotRel z G' H' x s := by
  have mine : ∀ {a o}, H a = some o → NT o → Mine z G a → Mine z G' a := fun {a o} h nt m => by
    have e : G' a = none := by
      cases e : G' a with
      | none => rfl
      | some u =>
        have := st.new a u e ⟨o, h, nt⟩
        rw [m.g] at this
        cases this
    exact ⟨e, m.p, m.c, m.h⟩
  cases s with
  | no => trivial
  | val q => exact let ⟨v, e, r⟩ := r; ⟨v, e, r.mono st.same⟩
  | own ps => exact let ⟨a, vs, e, h, m, h0, r⟩ := r; ⟨a, vs, e, st.keep _ _ h m.p nt_lst, mine h nt_lst m, h0, r.mono st.same⟩
  | obj c fs => exact let ⟨a, C, dx, vs, e, hc, h, m, r, me⟩ := r; ⟨a, C, dx, vs, e, hc, st.keep _ _ h m.p nt_ins, mine h nt_ins m, r.mono st.same, me⟩
theorem EnvRel.step (e : EnvRel z G H σ env) (st : Step (· = z.p) G H G' H') : EnvRel z G' H' σ env :=
  ⟨fun i s h => let ⟨x, a, b⟩ := e.at_ i s h; ⟨x, a, b.step st⟩, e.df, e.len⟩
theorem Ok.new {q : Addr} {o : HO} (k : Ok z.cm z.p z.c G H n) (hq : H q = none) (hnt : NT o := by first | exact nt_tup | exact nt_lst | exact nt_dK | exact nt_xd | exact nt_ext | exact nt_ins) : Ok z.cm z.p z.c (upd G q o) (upd H q o) n ∧ Step (· = z.p) G H (upd G q o) (upd H q o) := by
  have gq : G q = none := by
    cases e : G q with
    | none => rfl
    | some u => rw [k.sub _ _ e] at hq; cases hq
  have np := Ev.Pen.ne k.pen hq
  have nc := Ev.Pen.neC k.pen hq
  refine ⟨⟨fun b u e => ?_, k.pen.new hq, (upd_ne np.symm).trans k.gp, (upd_ne nc.symm).trans k.gc, Tabs.new k.tb hq, fun b ps e => ?_⟩, ⟨fun b u e => Ev.get_new e gq, fun b u e _ _ => Ev.get_new e hq, fun b u e h => ?_, fun b h => ?_⟩⟩
  · by_cases z : b = q
    · subst z
      rw [upd_same] at e ⊢
      exact e
    · rw [upd_ne z] at e ⊢
      exact k.sub _ _ e
  · by_cases z : b = q
    · subst z
      rw [upd_same] at e
      exact hnt _ (Option.some.inj e)
    · rw [upd_ne z] at e
      exact k.gt _ _ e
  · by_cases z : b = q
    · subst z
      exact (h.no hq).elim
    · rw [upd_ne z] at e
      exact e
  · obtain ⟨u, e, m⟩ := h
    exact ⟨u, Ev.get_new e hq, m⟩
theorem Ok.newO {q : Addr} {o : HO} (k : Ok z.cm z.p z.c G H n) (hq : H q = none) : Ok z.cm z.p z.c G (upd H q o) n ∧ Step (· = z.p) G H G (upd H q o) :=
  ⟨⟨fun b u e => Ev.get_new (k.sub _ _ e) hq, k.pen.new hq, k.gp, k.gc, Tabs.new k.tb hq, k.gt⟩, ⟨Same.refl _, fun b u e _ _ => Ev.get_new e hq, fun _ _ e _ => e, fun b h => by
    obtain ⟨u, e, m⟩ := h
    exact ⟨u, Ev.get_new e hq, m⟩⟩⟩
theorem Ok.free {q : Addr} (k : Ok z.cm z.p z.c G H n) (hq : H q = none) : G q = none := by
  cases e : G q with
  | none => rfl
  | some u => rw [k.sub _ _ e] at hq; cases hq
theorem Fr.h0 {q : Addr} (f : Fr z G H) (hq : H q = none) : ¬ Has z.H0 q := fun h => (f.st.al q h).no hq
theorem Ok.mine {q : Addr} (k : Ok z.cm z.p z.c G H n) (f : Fr z G H) (hq : H q = none) : Mine z G q := ⟨k.free hq, Ev.Pen.ne k.pen hq, Ev.Pen.neC k.pen hq, .inl (f.h0 hq)⟩
theorem Ok.set {a : Addr} {o u : HO} (k : Ok z.cm z.p z.c G H n) (m : Mine z G a) (h : H a = some u) (hn : NT u := by first | exact nt_lst | exact nt_ins | exact nt_dK) (hx : ∀ φ, u ≠ .ext φ := by intro _ z; cases z) : Ok z.cm z.p z.c G (upd H a o) n :=
  ⟨fun b v e => Ev.get_ne (fun q => by rw [q, m.g] at e; cases e) (k.sub _ _ e), k.pen.set m.p m.c, k.gp, k.gc, Tabs.set k.tb h hn hx, k.gt⟩
theorem Fr.set {a : Addr} {o : HO} (f : Fr z G H) (m : Mine z G a) (hn : NT o := by first | exact nt_lst | exact nt_ins | exact nt_dK) : Fr z G (upd H a o) := by
  refine ⟨⟨f.st.same, fun b v e nb nt => ?_, f.st.new, fun b h => ?_⟩, f.mp, f.sx⟩
  · refine Ev.get_ne (fun q => ?_) (f.st.keep b v e nb nt)
    subst q
    rcases m.h with h | h
    · exact h ⟨v, e, nt⟩
    · exact nb h
  · exact (f.st.al b h).upd hn
end
end Pu
namespace Pu
open PySem L2
def Post {α β : Type} (z : Z) (R : Hp → α → β → Prop) (G H : Hp) (Qp : β → Nat → Prop) (Q : α → Hp → Prop) : Prop :=
  ∀ v q G' H' n', Ok z.cm z.p z.c G' H' n' → Step (· = z.p) G H G' H' → R G' v q → Qp q n' → Q v H'
def Sim {α β : Type} (z : Z) (R : Hp → α → β → Prop) (t : L2.St → Hp → (α → Hp → Prop) → Prop) (m : PEnv → M β) : Prop :=
  ∀ (σ : L2.St) (env : PEnv) (G H : Hp) (n : Nat) (Qp : β → Nat → Prop) (Q : α → Hp → Prop), Ok z.cm z.p z.c G H n → Fr z G H → EnvRel z G H σ env → m env (z.W env) n Qp → Post z R G H Qp Q → t σ H Q
def eqB : Hp → Bool → Bool → Prop := fun _ a b => a = b
def eqO : Hp → Option Int → Option Int → Prop := fun _ a b => a = b
abbrev SimE (z : Z) (t : TE) (m : PEnv → M PV) : Prop := Sim z z.rep t m
abbrev SimA (z : Z) (t : TA) (m : PEnv → M (List PV)) : Prop := Sim z z.repL t m
abbrev SimT (z : Z) (t : TT) (m : PEnv → M Bool) : Prop := Sim z eqB t m
section
variable {z : Z} {G H G1 H1 : Hp} {n : Nat} {σ : L2.St} {env : PEnv} {α β : Type} {R : Hp → α → β → Prop} {Qp : β → Nat → Prop} {Q : α → Hp → Prop}
theorem Post.step (h : Post z R G H Qp Q) (s : Step (· = z.p) G H G1 H1) : Post z R G1 H1 Qp Q := fun v q G' H' n' ok st r hq => h v q G' H' n' ok (s.trans st fun _ x => x) r hq
theorem Post.here (h : Post z R G H Qp Q) {v : α} {q : β} (ok : Ok z.cm z.p z.c G H n) (r : R G v q) (hq : Qp q n) : Q v H := h v q G H n ok (Step.refl _ _ _) r hq
theorem Sim.bind {t : L2.St → Hp → (α → Hp → Prop) → Prop} {m : PEnv → M β} (h : Sim z R t m) (ok : Ok z.cm z.p z.c G H n) (fr : Fr z G H) (er : EnvRel z G H σ env) (hm : m env (z.W env) n Qp)
    (hk : ∀ v q G' H' n', Ok z.cm z.p z.c G' H' n' → Fr z G' H' → EnvRel z G' H' σ env → Step (· = z.p) G H G' H' → R G' v q → Qp q n' → Q v H') : t σ H Q :=
  h σ env G H n Qp Q ok fr er hm fun v q G' H' n' ok' st r hq => hk v q G' H' n' ok' (fr.stepP st) (er.step st) st r hq
end
def SimR (z : Z) (r : R2) (po : PV → PV → M PV) : Prop := ∀ (σ : L2.St) (env : PEnv) (G H : Hp) (n : Nat) (Qp : PV → Nat → Prop) (Q : VK) (x y : V) (px py : PV),
  Ok z.cm z.p z.c G H n → Fr z G H → EnvRel z G H σ env → z.rep G x px → z.rep G y py → po px py (z.W env) n Qp → Post z z.rep G H Qp Q → r x y H Q
def SimU (z : Z) (r : V → Hp → VK → Prop) (po : PV → M PV) : Prop := ∀ (σ : L2.St) (env : PEnv) (G H : Hp) (n : Nat) (Qp : PV → Nat → Prop) (Q : VK) (x : V) (px : PV),
  Ok z.cm z.p z.c G H n → Fr z G H → EnvRel z G H σ env → z.rep G x px → po px (z.W env) n Qp → Post z z.rep G H Qp Q → r x H Q
def SimC (z : Z) (r : List V → Hp → VK → Prop) (po : List PV → M PV) : Prop := ∀ (σ : L2.St) (env : PEnv) (G H : Hp) (n : Nat) (Qp : PV → Nat → Prop) (Q : VK) (xs : List V) (ps : List PV),
  Ok z.cm z.p z.c G H n → Fr z G H → EnvRel z G H σ env → z.repL G xs ps → po ps (z.W env) n Qp → Post z z.rep G H Qp Q → r xs H Q
def mVar (i : Nat) : PEnv → M PV := fun env _ n Q => match env[i]? with
  | some (.val q) => Q q n
  | _ => False
def mC (q : PV) : PEnv → M PV := fun _ _ n Q => Q q n
def mOp (po : PV → PV → M PV) (a b : PEnv → M PV) : PEnv → M PV := fun env W n Q => a env W n fun x n1 => b env W n1 fun y n2 => po x y W n2 Q
def mUn (po : PV → M PV) (a : PEnv → M PV) : PEnv → M PV := fun env W n Q => a env W n fun x n1 => po x W n1 Q
def mB (a : PEnv → M PV) : PEnv → M Bool := fun env W n Q => a env W n fun x n1 => match x with
  | .bl b => Q b n1
  | _ => False
def mAnd (a b : PEnv → M Bool) : PEnv → M Bool := fun env W n Q => a env W n fun c n1 => if c = true then b env W n1 Q else Q false n1
def mOr (a b : PEnv → M Bool) : PEnv → M Bool := fun env W n Q => a env W n fun c n1 => if c = true then Q true n1 else b env W n1 Q
def mNot (a : PEnv → M Bool) : PEnv → M Bool := fun env W n Q => a env W n fun c n1 => Q (!c) n1
def mAndV (a b : PEnv → M PV) : PEnv → M PV := fun env W n Q => a env W n fun x n1 => match x with
  | .bl c => if c = true then b env W n1 Q else Q (.bl false) n1
  | _ => False
def mOrV (a b : PEnv → M PV) : PEnv → M PV := fun env W n Q => a env W n fun x n1 => match x with
  | .bl c => if c = true then Q (.bl true) n1 else b env W n1 Q
  | _ => False
def mNotV (a : PEnv → M PV) : PEnv → M PV := fun env W n Q => a env W n fun x n1 => match x with
  | .bl c => Q (.bl (!c)) n1
  | _ => False
def mIf (c : PEnv → M Bool) (a b : PEnv → M PV) : PEnv → M PV := fun env W n Q => c env W n fun k n1 => if k = true then a env W n1 Q else b env W n1 Q
def mChain (po po' : PV → PV → M PV) (a b c : PEnv → M PV) : PEnv → M PV := fun env W n Q => a env W n fun x n1 => b env W n1 fun y n2 => po x y W n2 fun k n3 => match k with
  | .bl k => if k = true then c env W n3 fun w n4 => po' y w W n4 Q else Q (.bl false) n3
  | _ => False
def mNil : PEnv → M (List PV) := fun _ _ n Q => Q [] n
def mCons (a : PEnv → M PV) (r : PEnv → M (List PV)) : PEnv → M (List PV) := fun env W n Q => a env W n fun x n1 => r env W n1 fun xs n2 => Q (x :: xs) n2
def mTup (r : PEnv → M (List PV)) : PEnv → M PV := fun env W n Q => r env W n fun xs n1 => xs.length ≤ 1000000 ∧ Q (.tup xs) n1
def mLst (r : PEnv → M (List PV)) : PEnv → M PV := fun env W n Q => r env W n fun xs n1 => xs.length ≤ 1000000 ∧ Q (.lst xs) n1
def mCB (po : List PV → M PV) (r : PEnv → M (List PV)) : PEnv → M PV := fun env W n Q => r env W n fun xs n1 => po xs W n1 Q
def mFld (f : Str) (a : PEnv → M PV) : PEnv → M PV := fun env W n Q => a env W n fun x n1 => match x with
  | .ins _ fs => match fs.lookup f with
    | some y => Q y n1
    | none => False
  | _ => False
def mFldO (f : Str) (i : Nat) : PEnv → M PV := fun env _ n Q => match env[i]? with
  | some (.obj _ fs) => match fs.lookup f with
    | some y => Q y n
    | none => False
  | _ => False
section
variable {z : Z}
theorem line_of {n : Nat} (h : n ≤ 1000000) : n ≤ sizeLine := Nat.le_trans h (by rw [sizeLine_eq]; decide)
theorem sim_var {i : Nat} : SimE z (tVar i) (mVar i) := by
  intro σ env G H n Qp Q ok fr er hm hq
  unfold mVar at hm
  split at hm
  · rename_i q he
    obtain ⟨x, hx, v, rfl, r⟩ := er.at_ i _ he
    exact ⟨v, hx, hq.here ok r hm⟩
  · exact hm.elim
theorem sim_c {v : V} {q : PV} (h : ∀ G, z.rep G v q) : SimE z (tC v) (mC q) := fun σ env G H n Qp Q ok fr er hm hq => hq.here ok (h G) hm
theorem sim_op {r : R2} {po : PV → PV → M PV} {ta tb : TE} {ma mb : PEnv → M PV} (hr : SimR z r po) (ha : SimE z ta ma) (hb : SimE z tb mb) : SimE z (tOp r ta tb) (mOp po ma mb) := by
  intro σ env G H n Qp Q ok fr er hm hq
  refine ha.bind ok fr er hm fun x px G1 H1 n1 ok1 fr1 er1 s1 r1 hm1 => ?_
  refine hb.bind ok1 fr1 er1 hm1 fun y py G2 H2 n2 ok2 fr2 er2 s2 r2 hm2 => ?_
  exact hr σ env G2 H2 n2 Qp Q x y px py ok2 fr2 er2 (r1.mono s2.same) r2 hm2 ((hq.step s1).step s2)
theorem sim_un {r : V → Hp → VK → Prop} {po : PV → M PV} {ta : TE} {ma : PEnv → M PV} (hr : SimU z r po) (ha : SimE z ta ma) : SimE z (tUn r ta) (mUn po ma) := by
  intro σ env G H n Qp Q ok fr er hm hq
  refine ha.bind ok fr er hm fun x px G1 H1 n1 ok1 fr1 er1 s1 r1 hm1 => ?_
  exact hr σ env G1 H1 n1 Qp Q x px ok1 fr1 er1 r1 hm1 (hq.step s1)
theorem sim_cb {r : List V → Hp → VK → Prop} {po : List PV → M PV} {ta : TA} {ma : PEnv → M (List PV)} (hr : SimC z r po) (ha : SimA z ta ma) : SimE z (tCB r ta) (mCB po ma) := by
  intro σ env G H n Qp Q ok fr er hm hq
  refine ha.bind ok fr er hm fun x px G1 H1 n1 ok1 fr1 er1 s1 r1 hm1 => ?_
  exact hr σ env G1 H1 n1 Qp Q x px ok1 fr1 er1 r1 hm1 (hq.step s1)
theorem sim_b {ta : TE} {ma : PEnv → M PV} (ha : SimE z ta ma) : SimT z (tB ta) (mB ma) := by
  intro σ env G H n Qp Q ok fr er hm hq
  refine ha.bind ok fr er hm fun x px G1 H1 n1 ok1 fr1 er1 s1 r1 hm1 => ?_
  cases r1 <;> first | exact hm1.elim | exact ⟨_, rfl, (hq.step s1).here ok1 rfl hm1⟩
theorem sim_test {ta : TE} {ma : PEnv → M PV} (ha : SimE z ta ma) : SimT z (tTest ta) (mB ma) := by
  intro σ env G H n Qp Q ok fr er hm hq
  refine ha.bind ok fr er hm fun x px G1 H1 n1 ok1 fr1 er1 s1 r1 hm1 => ?_
  cases r1 <;> first | exact hm1.elim | exact ⟨_, rfl, (hq.step s1).here ok1 rfl hm1⟩
theorem sim_and {t u : TT} {a b : PEnv → M Bool} (ha : SimT z t a) (hb : SimT z u b) : SimT z (tAnd t u) (mAnd a b) := by
  intro σ env G H n Qp Q ok fr er hm hq
  refine ha.bind ok fr er hm fun x px G1 H1 n1 ok1 fr1 er1 s1 r1 hm1 => ?_
  cases r1
  cases x with
  | true => exact hb.bind ok1 fr1 er1 hm1 fun y py G2 H2 n2 ok2 fr2 er2 s2 r2 hm2 => ((hq.step s1).step s2).here ok2 r2 hm2
  | false => exact (hq.step s1).here ok1 rfl hm1
theorem sim_or {t u : TT} {a b : PEnv → M Bool} (ha : SimT z t a) (hb : SimT z u b) : SimT z (tOr t u) (mOr a b) := by
  intro σ env G H n Qp Q ok fr er hm hq
  refine ha.bind ok fr er hm fun x px G1 H1 n1 ok1 fr1 er1 s1 r1 hm1 => ?_
  cases r1
  cases x with
  | false => exact hb.bind ok1 fr1 er1 hm1 fun y py G2 H2 n2 ok2 fr2 er2 s2 r2 hm2 => ((hq.step s1).step s2).here ok2 r2 hm2
  | true => exact (hq.step s1).here ok1 rfl hm1
theorem sim_not {t : TT} {a : PEnv → M Bool} (ha : SimT z t a) : SimT z (tNot t) (mNot a) := by
  intro σ env G H n Qp Q ok fr er hm hq
  refine ha.bind ok fr er hm fun x px G1 H1 n1 ok1 fr1 er1 s1 r1 hm1 => ?_
  cases r1
  exact (hq.step s1).here ok1 rfl hm1
theorem sim_andV {t u : TE} {a b : PEnv → M PV} (ha : SimE z t a) (hb : SimE z u b) : SimE z (tAndV t u) (mAndV a b) := by
  intro σ env G H n Qp Q ok fr er hm hq
  refine ha.bind ok fr er hm fun x px G1 H1 n1 ok1 fr1 er1 s1 r1 hm1 => ?_
  cases r1 <;> try exact hm1.elim
  rename_i c
  cases c with
  | true => exact ⟨_, rfl, hb.bind ok1 fr1 er1 hm1 fun y py G2 H2 n2 ok2 fr2 er2 s2 r2 hm2 => ((hq.step s1).step s2).here ok2 r2 hm2⟩
  | false => exact ⟨_, rfl, (hq.step s1).here ok1 (.bl _) hm1⟩
theorem sim_orV {t u : TE} {a b : PEnv → M PV} (ha : SimE z t a) (hb : SimE z u b) : SimE z (tOrV t u) (mOrV a b) := by
  intro σ env G H n Qp Q ok fr er hm hq
  refine ha.bind ok fr er hm fun x px G1 H1 n1 ok1 fr1 er1 s1 r1 hm1 => ?_
  cases r1 <;> try exact hm1.elim
  rename_i c
  cases c with
  | false => exact ⟨_, rfl, hb.bind ok1 fr1 er1 hm1 fun y py G2 H2 n2 ok2 fr2 er2 s2 r2 hm2 => ((hq.step s1).step s2).here ok2 r2 hm2⟩
  | true => exact ⟨_, rfl, (hq.step s1).here ok1 (.bl _) hm1⟩
theorem sim_notV {t : TE} {a : PEnv → M PV} (ha : SimE z t a) : SimE z (tNotV t) (mNotV a) := by
  intro σ env G H n Qp Q ok fr er hm hq
  refine ha.bind ok fr er hm fun x px G1 H1 n1 ok1 fr1 er1 s1 r1 hm1 => ?_
  cases r1 <;> try exact hm1.elim
  exact ⟨_, rfl, (hq.step s1).here ok1 (.bl _) hm1⟩
theorem sim_if {c : TT} {t u : TE} {k : PEnv → M Bool} {a b : PEnv → M PV} (hc : SimT z c k) (ha : SimE z t a) (hb : SimE z u b) : SimE z (tIf c t u) (mIf k a b) := by
  intro σ env G H n Qp Q ok fr er hm hq
  refine hc.bind ok fr er hm fun x px G1 H1 n1 ok1 fr1 er1 s1 r1 hm1 => ?_
  cases r1
  cases x with
  | true => exact ha.bind ok1 fr1 er1 hm1 fun y py G2 H2 n2 ok2 fr2 er2 s2 r2 hm2 => ((hq.step s1).step s2).here ok2 r2 hm2
  | false => exact hb.bind ok1 fr1 er1 hm1 fun y py G2 H2 n2 ok2 fr2 er2 s2 r2 hm2 => ((hq.step s1).step s2).here ok2 r2 hm2
theorem sim_chain {r r' : R2} {po po' : PV → PV → M PV} {ta tb tc : TE} {ma mb mc : PEnv → M PV} (hr : SimR z r po) (hr' : SimR z r' po') (ha : SimE z ta ma) (hb : SimE z tb mb) (hc : SimE z tc mc) : SimE z (tChain r r' ta tb tc) (mChain po po' ma mb mc) := by
  intro σ env G H n Qp Q ok fr er hm hq
  refine ha.bind ok fr er hm fun x px G1 H1 n1 ok1 fr1 er1 s1 r1 hm1 => ?_
  refine hb.bind ok1 fr1 er1 hm1 fun y py G2 H2 n2 ok2 fr2 er2 s2 r2 hm2 => ?_
  refine hr σ env G2 H2 n2 _ _ x y px py ok2 fr2 er2 (r1.mono s2.same) r2 hm2 fun k pk G3 H3 n3 ok3 s3 r3 hm3 => ?_
  cases r3 <;> try exact hm3.elim
  rename_i c
  cases c with
  | true =>
    refine ⟨_, rfl, ?_⟩
    refine hc.bind ok3 (fr2.stepP s3) (er2.step s3) hm3 fun w pw G4 H4 n4 ok4 fr4 er4 s4 r4 hm4 => ?_
    exact hr' σ env G4 H4 n4 Qp Q y w py pw ok4 fr4 er4 ((r2.mono s3.same).mono s4.same) r4 hm4 ((((hq.step s1).step s2).step s3).step s4)
  | false => exact ⟨_, rfl, (((hq.step s1).step s2).step s3).here ok3 (.bl _) hm3⟩
theorem sim_nil : SimA z tNil mNil := fun σ env G H n Qp Q ok fr er hm hq => hq.here ok .nil hm
theorem sim_cons {ta : TE} {tr : TA} {ma : PEnv → M PV} {mr : PEnv → M (List PV)} (ha : SimE z ta ma) (hr : SimA z tr mr) : SimA z (tCons ta tr) (mCons ma mr) := by
  intro σ env G H n Qp Q ok fr er hm hq
  refine ha.bind ok fr er hm fun x px G1 H1 n1 ok1 fr1 er1 s1 r1 hm1 => ?_
  refine hr.bind ok1 fr1 er1 hm1 fun y py G2 H2 n2 ok2 fr2 er2 s2 r2 hm2 => ?_
  exact ((hq.step s1).step s2).here ok2 (.cons (r1.mono s2.same) r2) hm2
theorem sim_tup {t : TA} {m : PEnv → M (List PV)} (h : SimA z t m) : SimE z (tTup t) (mTup m) := by
  intro σ env G H n Qp Q ok fr er hm hq
  refine h.bind ok fr er hm fun x px G1 H1 n1 ok1 fr1 er1 s1 r1 hm1 => ?_
  refine ⟨by rw [r1.len]; exact line_of hm1.1, fun q hq1 => ?_⟩
  obtain ⟨ok2, s2⟩ := ok1.new (o := .tup x) hq1
  exact ((hq.step s1).step s2).here ok2 (.tup (SqT.of upd_same) (r1.mono s2.same)) hm1.2
theorem sim_lst {t : TA} {m : PEnv → M (List PV)} (h : SimA z t m) : SimE z (tLst t) (mLst m) := by
  intro σ env G H n Qp Q ok fr er hm hq
  refine h.bind ok fr er hm fun x px G1 H1 n1 ok1 fr1 er1 s1 r1 hm1 => ?_
  refine ⟨by rw [r1.len]; exact line_of hm1.1, fun q hq1 => ?_⟩
  obtain ⟨ok2, s2⟩ := ok1.new (o := .lst x) hq1
  exact ((hq.step s1).step s2).here ok2 (.lst upd_same (r1.mono s2.same)) hm1.2
end
def Big (i : Int) : Prop := i.natAbs < 2 ^ 4000
def pI0 (g : Int → Int → PV) : PV → PV → M PV := fun x y _ n Q => match x, y with
  | .int i, .int j => Q (g i j) n
  | _, _ => False
def pI (C : Int → Int → Prop) (g : Int → Int → PV) : PV → PV → M PV := fun x y _ n Q => match x, y with
  | .int i, .int j => C i j ∧ Q (g i j) n
  | _, _ => False
def pAdd := pI0 fun i j => .int (i + j)
def pSub := pI0 fun i j => .int (i - j)
def pLt := pI0 fun i j => .bl (decide (i < j))
def pLe := pI0 fun i j => .bl (decide (i ≤ j))
def pGt := pI0 fun i j => .bl (decide (j < i))
def pGe := pI0 fun i j => .bl (decide (j ≤ i))
def pMul := pI (fun i j => Big i ∧ Big j) fun i j => .int (i * j)
def pDiv := pI (fun _ j => 0 < j ∧ Big j) fun i j => .int (i / j)
def pMod := pI (fun _ j => 0 < j) fun i j => .int (i % j)
def pPow := pI CPow fun i j => .int (i ^ j.toNat)
def pNeg : PV → M PV := fun x _ n Q => match x with
  | .int i => Q (.int (-i)) n
  | _ => False
def pEq : PV → PV → M PV := fun x y _ n Q => match x, y with
  | .int i, .int j => Q (.bl (decide (i = j))) n
  | .str i, .str j => Q (.bl (decide (i = j))) n
  | .bl i, .bl j => Q (.bl (decide (i = j))) n
  | _, _ => False
def pNe : PV → PV → M PV := fun x y _ n Q => match x, y with
  | .int i, .int j => Q (.bl (!decide (i = j))) n
  | .str i, .str j => Q (.bl (!decide (i = j))) n
  | .bl i, .bl j => Q (.bl (!decide (i = j))) n
  | _, _ => False
def PV.isNon : PV → Option Bool
  | .non => some true
  | .ext _ => none
  | _ => some false
def pIsN : PV → PV → M PV := fun x y _ n Q => match y, x.isNon with
  | .non, some b => Q (.bl b) n
  | _, _ => False
def pNotN : PV → PV → M PV := fun x y _ n Q => match y, x.isNon with
  | .non, some b => Q (.bl (!b)) n
  | _, _ => False
section
variable {z : Z}
theorem simR_I0 {g : Int → Int → V} {g' : Int → Int → PV} (h : ∀ G i j, z.rep G (g i j) (g' i j)) : SimR z (rI0 g) (pI0 g') := by
  intro σ env G H n Qp Q x y px py ok fr er rx ry hm hq
  cases rx <;> try exact hm.elim
  cases ry <;> try exact hm.elim
  exact ⟨_, _, rfl, rfl, hq.here ok (h G _ _) hm⟩
theorem simR_I {C C' : Int → Int → Prop} {g : Int → Int → V} {g' : Int → Int → PV} (hc : ∀ i j, C' i j → C i j) (h : ∀ G i j, z.rep G (g i j) (g' i j)) : SimR z (rI C g) (pI C' g') := by
  intro σ env G H n Qp Q x y px py ok fr er rx ry hm hq
  cases rx <;> try exact hm.elim
  cases ry <;> try exact hm.elim
  exact ⟨_, _, rfl, rfl, hc _ _ hm.1, hq.here ok (h G _ _) hm.2⟩
theorem simR_add : SimR z (rI0 fun i j => .int (i + j)) pAdd := simR_I0 fun _ _ _ => .int _
theorem simR_sub : SimR z (rI0 fun i j => .int (i - j)) pSub := simR_I0 fun _ _ _ => .int _
theorem simR_lt : SimR z (rI0 fun i j => .bl (decide (i < j))) pLt := simR_I0 fun _ _ _ => .bl _
theorem simR_le : SimR z (rI0 fun i j => .bl (decide (i ≤ j))) pLe := simR_I0 fun _ _ _ => .bl _
theorem simR_gt : SimR z (rI0 fun i j => .bl (decide (j < i))) pGt := simR_I0 fun _ _ _ => .bl _
theorem simR_ge : SimR z (rI0 fun i j => .bl (decide (j ≤ i))) pGe := simR_I0 fun _ _ _ => .bl _
theorem simR_mul : SimR z (rI CMulW fun i j => .int (i * j)) pMul := simR_I (fun _ _ h => wide_mul h.1 h.2 (by decide) (by decide) (by decide)) fun _ _ _ => .int _
theorem simR_div : SimR z (rI CDivW fun i j => .int (i / j)) pDiv := simR_I (fun _ _ h => wide_div h.1 h.2 (by decide) (by decide)) fun _ _ _ => .int _
theorem simR_mod : SimR z (rI (fun _ j => 0 < j) fun i j => .int (i % j)) pMod := simR_I (fun _ _ h => h) fun _ _ _ => .int _
theorem simR_pow : SimR z (rI CPow fun i j => .int (i ^ j.toNat)) pPow := simR_I (fun _ _ h => h) fun _ _ _ => .int _
theorem simU_neg : SimU z (rU fun i => .int (-i)) pNeg := by
  intro σ env G H n Qp Q x px ok fr er rx hm hq
  cases rx <;> try exact hm.elim
  exact ⟨_, rfl, hq.here ok (.int _) hm⟩
theorem simR_eq : SimR z rEq pEq := by
  intro σ env G H n Qp Q x y px py ok fr er rx ry hm hq
  cases rx <;> try exact hm.elim
  all_goals cases ry <;> try exact hm.elim
  all_goals refine ⟨rfl, hq.here ok (.bl _) ?_⟩
  all_goals rename_i a b
  all_goals refine Eq.mp (congrArg (fun w => Qp (.bl w) n) (decide_eq_decide.mpr ?_)) hm
  all_goals simp
theorem simR_ne : SimR z rNe pNe := by
  intro σ env G H n Qp Q x y px py ok fr er rx ry hm hq
  cases rx <;> try exact hm.elim
  all_goals cases ry <;> try exact hm.elim
  all_goals refine ⟨rfl, hq.here ok (.bl _) ?_⟩
  all_goals rename_i a b
  all_goals refine Eq.mp (congrArg (fun w => Qp (.bl (!w)) n) (decide_eq_decide.mpr ?_)) hm
  all_goals simp
theorem isNon_of {G : Hp} {x : V} {px : PV} {b : Bool} (r : z.rep G x px) (h : px.isNon = some b) : decide (x = V.non) = b := by
  cases r <;> simp [PV.isNon] at h <;> subst h <;> simp
theorem simR_isN : SimR z (fun x y H Q => y = .non ∧ Q (.bl (decide (x = .non))) H) pIsN := by
  intro σ env G H n Qp Q x y px py ok fr er rx ry hm hq
  unfold pIsN at hm
  split at hm
  · rename_i b hb
    cases ry
    exact ⟨rfl, hq.here ok (.bl _) (by rw [isNon_of rx hb]; exact hm)⟩
  · exact hm.elim
theorem simR_notN : SimR z (fun x y H Q => y = .non ∧ Q (.bl (!decide (x = .non))) H) pNotN := by
  intro σ env G H n Qp Q x y px py ok fr er rx ry hm hq
  unfold pNotN at hm
  split at hm
  · rename_i b hb
    cases ry
    exact ⟨rfl, hq.here ok (.bl _) (by rw [isNon_of rx hb]; exact hm)⟩
  · exact hm.elim
theorem sim_fld {ta : TE} {f : Str} {ma : PEnv → M PV} (hk : ∀ c C, z.cm c = some C → Cls z.K C ∧ NoAttr z.K C f) (ha : SimE z ta ma) : SimE z (tFld z.K ta f) (mFld f ma) := by
  intro σ env G H n Qp Q ok fr er hm hq
  refine ha.bind ok fr er hm fun x px G1 H1 n1 ok1 fr1 er1 s1 r1 hm1 => ?_
  cases r1 <;> try exact hm1.elim
  rename_i a C dx c vs ps hc hg rf
  simp only at hm1
  rcases rf.look (f := f) with ⟨e, _⟩ | ⟨x, y, e1, e2, ry⟩
  · rw [e] at hm1
    exact hm1.elim
  · rw [e1] at hm1
    obtain ⟨k1, k2⟩ := hk c C hc
    exact ⟨a, C, dx, vs, y, rfl, ok1.sub _ _ hg, k1, k2, e2, (hq.step s1).here ok1 ry hm1⟩
theorem sim_fldO {f : Str} {i : Nat} (hk : ∀ c C, z.cm c = some C → Cls z.K C ∧ NoAttr z.K C f) : SimE z (tFld z.K (tVar i) f) (mFldO f i) := by
  intro σ env G H n Qp Q ok fr er hm hq
  unfold mFldO at hm
  split at hm
  · rename_i c fs he
    obtain ⟨x, hx, a, C, dx, vs, rfl, hc, hh, mine, rf, me⟩ := er.at_ i _ he
    rcases rf.look (f := f) with ⟨e, _⟩ | ⟨x, y, e1, e2, ry⟩
    · rw [e] at hm
      exact hm.elim
    · rw [e1] at hm
      obtain ⟨k1, k2⟩ := hk c C hc
      exact ⟨_, hx, a, C, dx, vs, y, rfl, hh, k1, k2, e2, hq.here ok ry hm⟩
  · exact hm.elim
end
end Pu
namespace Pu
open PySem L2
structure EndsRel (z : Z) (G : Hp) (D : Ends) (Dp : EndsP) : Prop where
  nx : ∀ σ env G' H' n', Same G G' → Ok z.cm z.p z.c G' H' n' → Fr z G' H' → EnvRel z G' H' σ env → Dp.nx env n' → D.nx σ H'
  rt : ∀ v q G' H' n', Same G G' → Ok z.cm z.p z.c G' H' n' → Fr z G' H' → z.rep G' v q → Dp.rt q n' → D.rt v H'
  bk : ∀ σ env G' H' n', Same G G' → Ok z.cm z.p z.c G' H' n' → Fr z G' H' → EnvRel z G' H' σ env → Dp.bk env n' → D.bk σ H'
  ct : ∀ σ env G' H' n', Same G G' → Ok z.cm z.p z.c G' H' n' → Fr z G' H' → EnvRel z G' H' σ env → Dp.ct env n' → D.ct σ H'
def SimS (z : Z) (t : TS) (m : MS) : Prop := ∀ (σ : L2.St) (env : PEnv) (G H : Hp) (n : Nat) (D : Ends) (Dp : EndsP), Ok z.cm z.p z.c G H n → Fr z G H → EnvRel z G H σ env → m z.W Dp env n → EndsRel z G D Dp → t D σ H
def SimG (z : Z) (g : TG) (mg : PV → PEnv → (PEnv → Prop) → Prop) : Prop := ∀ (σ : L2.St) (env : PEnv) (G H : Hp) (n : Nat) (v : V) (q : PV) (Q : L2.St → Hp → Prop) (Qp : PEnv → Prop),
  Ok z.cm z.p z.c G H n → EnvRel z G H σ env → z.rep G v q → mg q env Qp → (∀ σ' env', EnvRel z G H σ' env' → Qp env' → Q σ' H) → g v σ H Q
def SimGs (z : Z) (g : TGs) (mg : List PV → PEnv → (PEnv → Prop) → Prop) : Prop := ∀ (σ : L2.St) (env : PEnv) (G H : Hp) (n : Nat) (v : List V) (q : List PV) (Q : L2.St → Hp → Prop) (Qp : PEnv → Prop),
  Ok z.cm z.p z.c G H n → EnvRel z G H σ env → z.repL G v q → mg q env Qp → (∀ σ' env', EnvRel z G H σ' env' → Qp env' → Q σ' H) → g v σ H Q
theorem EndsRel.mono {z : Z} {G G1 : Hp} {D : Ends} {Dp : EndsP} (h : EndsRel z G D Dp) (s : Same G G1) : EndsRel z G1 D Dp :=
  ⟨fun a b c d e f => h.nx a b c d e (s.trans f), fun a b c d e f => h.rt a b c d e (s.trans f), fun a b c d e f => h.bk a b c d e (s.trans f), fun a b c d e f => h.ct a b c d e (s.trans f)⟩
section
variable {z : Z} {G H : Hp} {σ : L2.St} {env : PEnv}
theorem get_set {α : Type} {l : List α} {i j : Nat} {a x : α} (h : (l.set i a)[j]? = some x) : (j = i ∧ x = a ∧ i < l.length) ∨ (j ≠ i ∧ l[j]? = some x) := by
  by_cases e : i = j
  · subst e
    rw [List.getElem?_set] at h
    simp only [if_true] at h
    split at h
    · exact .inl ⟨rfl, (Option.some.inj h).symm, by assumption⟩
    · cases h
  · rw [List.getElem?_set_ne e] at h
    exact .inr ⟨fun q => e q.symm, h⟩
theorem EnvRel.set {i : Nat} {x : Option V} {s : Slot} (e : EnvRel z G H σ env) (h : SlotRel z G H x s) (hd : s.isOwn = true → ∀ (j : Nat) (s' : Slot) (a : Addr), j ≠ i → env[j]? = some s' → s'.isOwn = true → σ[j]? = some (some (.ref a)) → x = some (.ref a) → False) : EnvRel z G H (σ.set i x) (env.set i s) := by
  refine ⟨fun j u hj => ?_, fun j k u u' a njk hj hk ou ou' aj ak => ?_, by rw [List.length_set, List.length_set, e.len]⟩
  · rcases get_set hj with ⟨rfl, rfl, hl⟩ | ⟨ne, hj2⟩
    · exact ⟨x, by rw [List.getElem?_set_self (by rw [e.len]; exact hl)], h⟩
    · obtain ⟨y, hy, r⟩ := e.at_ j u hj2
      exact ⟨y, by rw [List.getElem?_set_ne (Ne.symm ne)]; exact hy, r⟩
  · rcases get_set hj with ⟨ej, eu, hl⟩ | ⟨ne, hj2⟩
    · rcases get_set hk with ⟨ek, _, _⟩ | ⟨ne2, hk2⟩
      · exact njk (ej.trans ek.symm)
      · subst ej eu
        rw [List.getElem?_set_self (by rw [e.len]; exact hl)] at aj
        rw [List.getElem?_set_ne (Ne.symm ne2)] at ak
        exact hd ou k u' a ne2 hk2 ou' ak (Option.some.inj aj)
    · rcases get_set hk with ⟨ek, eu, hl⟩ | ⟨ne2, hk2⟩
      · subst ek eu
        rw [List.getElem?_set_self (by rw [e.len]; exact hl)] at ak
        rw [List.getElem?_set_ne (Ne.symm ne)] at aj
        exact hd ou' j u a ne hj2 ou aj (Option.some.inj ak)
      · rw [List.getElem?_set_ne (Ne.symm ne)] at aj
        rw [List.getElem?_set_ne (Ne.symm ne2)] at ak
        exact e.df j k u u' a njk hj2 hk2 ou ou' aj ak
theorem EnvRel.setV {i : Nat} {v : V} {q : PV} (e : EnvRel z G H σ env) (h : z.rep G v q) : EnvRel z G H (σ.set i (some v)) (env.set i (.val q)) := e.set ⟨v, rfl, h⟩ fun z => by cases z
theorem EnvRel.wipe1 {i : Nat} {x : Option V} (e : EnvRel z G H σ env) : EnvRel z G H (σ.set i x) (env.set i .no) := e.set trivial fun z => by cases z
theorem EnvRel.store {i : Nat} {a : Addr} {s s' : Slot} {o : HO} (e : EnvRel z G H σ env) (hs : σ[i]? = some (some (.ref a))) (he : env[i]? = some s) (os : s.isOwn = true) (os' : s'.isOwn = true) (_m : Mine z G a)
    (h : SlotRel z G (upd H a o) (some (.ref a)) s') : EnvRel z G (upd H a o) σ (env.set i s') := by
  refine ⟨fun j u hj => ?_, fun j k u u' b njk hj hk ou ou' aj ak => ?_, by rw [List.length_set, e.len]⟩
  · rcases get_set hj with ⟨rfl, rfl, hl⟩ | ⟨ne, hj⟩
    · exact ⟨_, hs, h⟩
    · obtain ⟨y, hy, r⟩ := e.at_ j u hj
      refine ⟨y, hy, ?_⟩
      have na : ∀ b, u.isOwn = true → y = some (.ref b) → b ≠ a := fun b ou yb q => by
        subst q
        exact e.df j i u s b ne hj he ou os (by rw [hy, yb]) hs
      cases u with
      | no => trivial
      | val q => exact r
      | own ps =>
        obtain ⟨b, vs, rfl, hb, mb, h0, rb⟩ := r
        exact ⟨b, vs, rfl, Ev.get_ne (na b rfl rfl) hb, mb, h0, rb⟩
      | obj c fs =>
        obtain ⟨b, C, dx, vs, rfl, hc, hb, mb, rb, me⟩ := r
        exact ⟨b, C, dx, vs, rfl, hc, Ev.get_ne (na b rfl rfl) hb, mb, rb, me⟩
  · have key : ∀ {j : Nat} {u : Slot}, (env.set i s')[j]? = some u → u.isOwn = true → ∃ w : Slot, env[j]? = some w ∧ w.isOwn = true := fun {j u} hj ou => by
      rcases get_set hj with ⟨rfl, rfl, hl⟩ | ⟨ne, hj⟩
      · exact ⟨s, he, os⟩
      · exact ⟨u, hj, ou⟩
    obtain ⟨w, hw, ow⟩ := key hj ou
    obtain ⟨w', hw', ow'⟩ := key hk ou'
    exact e.df j k w w' b njk hw hw' ow ow' aj ak
end
theorem repF_put {K : PySem.W.Frag} {cm : Md} {p : Addr} {G : Hp} {f : Str} {v : V} {q : PV} (r : Rep K cm p G v q) : ∀ {vs : List (Str × V)} {ps : List (Str × PV)}, RepF K cm p G vs ps → RepF K cm p G (putF f v vs) (pputF f q ps)
  | _, _, .nil => .cons r .nil
  | _, _, .cons (f := g) h t => by
    unfold putF pputF
    split
    · exact .cons r t
    · exact .cons h (repF_put r t)
def mSeq (a b : MS) : MS := fun W D env n => a W { D with nx := b W D } env n
def mNext : MS := fun _ D env n => D.nx env n
def mBreak : MS := fun _ D env n => D.bk env n
def mCont : MS := fun _ D env n => D.ct env n
def mNever : MS := fun _ _ _ _ => False
def mDrop (a : PEnv → M PV) : MS := fun W D env n => a env (W env) n fun _ n1 => D.nx env n1
def mRet (a : PEnv → M PV) : MS := fun W D env n => a env (W env) n D.rt
def mRetN : MS := fun _ D _ n => D.rt .non n
def mIfS (c : PEnv → M Bool) (a b : MS) : MS := fun W D env n => c env (W env) n fun k n1 => if k = true then a W D env n1 else b W D env n1
def mAsg (a : PEnv → M PV) (g : PV → PEnv → (PEnv → Prop) → Prop) : MS := fun W D env n => a env (W env) n fun x n1 => g x env fun env' => D.nx env' n1
def mgN (i : Nat) : PV → PEnv → (PEnv → Prop) → Prop := fun x env Q => Q (env.set i (.val x))
def mgNil : List PV → PEnv → (PEnv → Prop) → Prop := fun xs env Q => match xs with
  | [] => Q env
  | _ => False
def mgCons (g : PV → PEnv → (PEnv → Prop) → Prop) (r : List PV → PEnv → (PEnv → Prop) → Prop) : List PV → PEnv → (PEnv → Prop) → Prop := fun xs env Q => match xs with
  | x :: xs => g x env fun env' => r xs env' Q
  | _ => False
def mgT (k : Nat) (r : List PV → PEnv → (PEnv → Prop) → Prop) : PV → PEnv → (PEnv → Prop) → Prop := fun x env Q => match x with
  | .tup xs => xs.length = k ∧ r xs env Q
  | _ => False
def mSetOwn (i : Nat) (r : PEnv → M (List PV)) : MS := fun W D env n => r env (W env) n fun xs n1 => xs.length ≤ 1000000 ∧ D.nx (env.set i (.own xs)) n1
def mPar (i j : Nat) (r : PEnv → M (List PV)) : MS := fun W D env n => r env (W env) n fun xs n1 => match xs with
  | [x, y] => D.nx ((env.set i (.val x)).set j (.val y)) n1
  | _ => False
def mPar3 (i j l : Nat) (r : PEnv → M (List PV)) : MS := fun W D env n => r env (W env) n fun xs n1 => match xs with
  | [x, y, w] => D.nx (((env.set i (.val x)).set j (.val y)).set l (.val w)) n1
  | _ => False
def mAug (i : Nat) (a : PEnv → M PV) (po : PV → PV → M PV) : MS := fun W D env n => match env[i]? with
  | some (.val x) => a env (W env) n fun y n1 => po x y (W env) n1 fun w n2 => D.nx (env.set i (.val w)) n2
  | _ => False
def mStore (i : Nat) (f : Str) (a : PEnv → M PV) : MS := fun W D env n => a env (W env) n fun y n1 => match env[i]? with
  | some (.obj c fs) => fs.length < 1000 ∧ D.nx (env.set i (.obj c (pputF f y fs))) n1
  | _ => False
def mApp (i : Nat) (a : PEnv → M PV) : MS := fun W D env n => match env[i]? with
  | some (.own xs) => a env (W env) n fun y n1 => xs.length < 1000000 ∧ D.nx (env.set i (.own (xs ++ [y]))) n1
  | _ => False
def mFreeze (i : Nat) (a : MS) : MS := fun W D env n => match env[i]? with
  | some (.own xs) => a W D (env.set i (.val (.lst xs))) n
  | _ => a W D env n
def forL (f : PV → MS) : List PV → MS
  | [], _, D, env, n => D.nx env n
  | x :: xs, W, D, env, n => f x W { D with nx := fun env' n' => forL f xs W D env' n', ct := fun env' n' => forL f xs W D env' n', bk := D.nx } env n
def mFor (it : PEnv → M (List PV)) (g : PV → PEnv → (PEnv → Prop) → Prop) (b : MS) : MS := fun W D env n => it env (W env) n fun xs n1 => forL (fun x W D env n => g x env fun env' => b W D env' n) xs W D env n1
def whN (c : PEnv → M Bool) (b : MS) : Nat → MS
  | 0, _, _, _, _ => False
  | k + 1, W, D, env, n => c env (W env) n fun v n1 => if v = true then b W { D with nx := fun env' n' => whN c b k W D env' n', ct := fun env' n' => whN c b k W D env' n', bk := D.nx } env n1 else D.nx env n1
def mWhile (c : PEnv → M Bool) (b : MS) : MS := fun W D env n => ∃ k, whN c b k W D env n
def wipeP (env : PEnv) : List Nat → PEnv
  | [] => env
  | v :: vs => (wipeP env vs).set v .no
def lcL (g : PV → PEnv → (PEnv → Prop) → Prop) (t : PEnv → M Bool) (e : PEnv → M PV) (env : PEnv) : List PV → Nat → (List PV → Nat → Prop) → Prop
  | [], n, Q => Q [] n
  | x :: xs, n, Q => g x env fun env2 => t env2 W0 n fun b n1 => if b = true then e env2 W0 n1 fun y n2 => lcL g t e env xs n2 fun ys n3 => Q (y :: ys) n3 else lcL g t e env xs n1 Q
def mLc (it : PEnv → M (List PV)) (g : PV → PEnv → (PEnv → Prop) → Prop) (t : PEnv → M Bool) (e : PEnv → M PV) (vs : List Nat) : PEnv → M PV := fun env W n Q =>
  it env W n fun xs n1 => xs.length ≤ 1000000 ∧ lcL g t e (wipeP env vs) xs n1 fun ys n2 => Q (.lst ys) n2
def mYes : PEnv → M Bool := fun _ _ n Q => Q true n
section
variable {z : Z} {t u : TS} {a b : MS}
theorem sim_seq (ha : SimS z t a) (hb : SimS z u b) : SimS z (tSeq t u) (mSeq a b) := fun σ env G H n D Dp ok fr er hm ed =>
  ha σ env G H n _ _ ok fr er hm ⟨fun σ' env' G' H' n' s ok' fr' er' h => hb σ' env' G' H' n' D Dp ok' fr' er' h (ed.mono s), ed.rt, ed.bk, ed.ct⟩
theorem sim_next : SimS z tNext mNext := fun σ env G H n D Dp ok fr er hm ed => ed.nx σ env G H n (Same.refl _) ok fr er hm
theorem sim_break : SimS z tBreak mBreak := fun σ env G H n D Dp ok fr er hm ed => ed.bk σ env G H n (Same.refl _) ok fr er hm
theorem sim_cont : SimS z tCont mCont := fun σ env G H n D Dp ok fr er hm ed => ed.ct σ env G H n (Same.refl _) ok fr er hm
theorem sim_never : SimS z tNever mNever := fun σ env G H n D Dp ok fr er hm ed => hm.elim
theorem sim_drop {te : TE} {m : PEnv → M PV} (h : SimE z te m) : SimS z (tDrop te) (mDrop m) := fun σ env G H n D Dp ok fr er hm ed =>
  h.bind ok fr er hm fun v q G' H' n' ok' fr' er' s' r hq => ed.nx σ env G' H' n' s'.same ok' fr' er' hq
theorem sim_ret {te : TE} {m : PEnv → M PV} (h : SimE z te m) : SimS z (tRet te) (mRet m) := fun σ env G H n D Dp ok fr er hm ed =>
  h.bind ok fr er hm fun v q G' H' n' ok' fr' er' s' r hq => ed.rt v q G' H' n' s'.same ok' fr' r hq
theorem sim_retN : SimS z tRetN mRetN := fun σ env G H n D Dp ok fr er hm ed => ed.rt _ _ G H n (Same.refl _) ok fr .non hm
theorem sim_ifS {c : TT} {k : PEnv → M Bool} (hc : SimT z c k) (ha : SimS z t a) (hb : SimS z u b) : SimS z (tIfS c t u) (mIfS k a b) := by
  intro σ env G H n D Dp ok fr er hm ed
  refine hc.bind ok fr er hm fun v q G' H' n' ok' fr' er' s' r hq => ?_
  cases r
  cases v with
  | true => exact ha σ env G' H' n' D Dp ok' fr' er' hq (ed.mono s'.same)
  | false => exact hb σ env G' H' n' D Dp ok' fr' er' hq (ed.mono s'.same)
theorem sim_gN {i : Nat} : SimG z (gName i) (mgN i) := fun σ env G H n v q Q Qp ok er r hm hq => hq _ _ (er.setV r) hm
theorem sim_gNil : SimGs z gNil mgNil := by
  intro σ env G H n v q Q Qp ok er r hm hq
  cases r with
  | nil => exact ⟨rfl, hq _ _ er hm⟩
  | cons _ _ => exact hm.elim
theorem sim_gCons {g : TG} {gs : TGs} {mg : PV → PEnv → (PEnv → Prop) → Prop} {mgs : List PV → PEnv → (PEnv → Prop) → Prop} (h : SimG z g mg) (hs : SimGs z gs mgs) : SimGs z (gCons g gs) (mgCons mg mgs) := by
  intro σ env G H n v q Q Qp ok er r hm hq
  cases r with
  | nil => exact hm.elim
  | cons r rs => exact ⟨_, _, rfl, h σ env G H n _ _ _ _ ok er r hm fun σ' env' er' h' => hs σ' env' G H n _ _ Q Qp ok er' rs h' hq⟩
theorem sim_gT {k : Nat} {gs : TGs} {mgs : List PV → PEnv → (PEnv → Prop) → Prop} (hs : SimGs z gs mgs) : SimG z (gTup z.K k gs) (mgT k mgs) := by
  intro σ env G H n v q Q Qp ok er r hm hq
  cases r <;> try exact hm.elim
  rename_i ad vs ps hsq rl
  exact ⟨ad, vs, rfl, Ev.Same.seqT ok.sub hsq, rl.len.trans hm.1, hs σ env G H n _ _ Q Qp ok er rl hm.2 hq⟩
theorem sim_asg {te : TE} {m : PEnv → M PV} {g : TG} {mg : PV → PEnv → (PEnv → Prop) → Prop} (h : SimE z te m) (hg : SimG z g mg) : SimS z (tAsg te g) (mAsg m mg) := fun σ env G H n D Dp ok fr er hm ed =>
  h.bind ok fr er hm fun v q G' H' n' ok' fr' er' s' r hq => hg σ env G' H' n' v q _ _ ok' er' r hq fun σ' env' e' h' => ed.nx σ' env' G' H' n' s'.same ok' fr' e' h'
theorem sim_setOwn {i : Nat} {ta : TA} {m : PEnv → M (List PV)} (h : SimA z ta m) : SimS z (tAsg (tLst ta) (gName i)) (mSetOwn i m) := by
  intro σ env G H n D Dp ok fr er hm ed
  refine h.bind ok fr er hm fun xs ps G1 H1 n1 ok1 fr1 er1 s1 r1 hm1 => ?_
  refine ⟨by rw [r1.len]; exact line_of hm1.1, fun q hq1 => ?_⟩
  obtain ⟨ok2, s2⟩ := ok1.newO (o := .lst xs) hq1
  have mine := ok1.mine fr1 hq1
  refine ed.nx _ _ G1 _ n1 s1.same ok2 (fr1.stepP s2) ?_ hm1.2
  refine (er1.step s2).set ⟨q, xs, rfl, upd_same, mine, fr1.h0 hq1, r1⟩ fun _ j s' b nj hj os' hb eb => ?_
  cases Option.some.inj eb
  obtain ⟨x, hx, rx⟩ := er1.at_ j s' hj
  rw [hx] at hb
  cases Option.some.inj hb
  cases s' with
  | no => cases os'
  | val _ => cases os'
  | own ps =>
    obtain ⟨b, vs, e, hb, _⟩ := rx
    cases e
    rw [hq1] at hb
    cases hb
  | obj c fs =>
    obtain ⟨b, C, dx, vs, e, _, hb, _⟩ := rx
    cases e
    rw [hq1] at hb
    cases hb
theorem sim_par {i j : Nat} {ta : TA} {m : PEnv → M (List PV)} (h : SimA z ta m) : SimS z (tPar i j ta) (mPar i j m) := by
  intro σ env G H n D Dp ok fr er hm ed
  refine h.bind ok fr er hm fun xs ps G1 H1 n1 ok1 fr1 er1 s1 r1 hm1 => ?_
  match ps, r1, hm1 with
  | [x, y], .cons rx (.cons ry .nil), hm1 => exact ⟨_, _, rfl, ed.nx _ _ G1 H1 n1 s1.same ok1 fr1 ((er1.setV rx).setV ry) hm1⟩
theorem sim_par3 {i j l : Nat} {ta : TA} {m : PEnv → M (List PV)} (h : SimA z ta m) : SimS z (tPar3 i j l ta) (mPar3 i j l m) := by
  intro σ env G H n D Dp ok fr er hm ed
  refine h.bind ok fr er hm fun xs ps G1 H1 n1 ok1 fr1 er1 s1 r1 hm1 => ?_
  match ps, r1, hm1 with
  | [x, y, w], .cons rx (.cons ry (.cons rw .nil)), hm1 => exact ⟨_, _, _, rfl, ed.nx _ _ G1 H1 n1 s1.same ok1 fr1 (((er1.setV rx).setV ry).setV rw) hm1⟩
theorem sim_aug {i : Nat} {te : TE} {m : PEnv → M PV} {ti : TIp} {po : PV → PV → M PV} (h : SimE z te m) (hr : SimR z ti po) : SimS z (tAug i te ti) (mAug i m po) := by
  intro σ env G H n D Dp ok fr er hm ed
  unfold mAug at hm
  split at hm
  · rename_i x he
    obtain ⟨_, hx, v, rfl, r⟩ := er.at_ i _ he
    refine ⟨v, hx, ?_⟩
    refine h.bind ok fr er hm fun y py G1 H1 n1 ok1 fr1 er1 s1 r1 hm1 => ?_
    refine hr σ env G1 H1 n1 _ _ v y x py ok1 fr1 er1 (r.mono s1.same) r1 hm1 fun w q G2 H2 n2 ok2 s2 r2 hq2 => ?_
    exact ed.nx _ _ G2 H2 n2 (s1.same.trans s2.same) ok2 (fr1.stepP s2) ((er1.step s2).setV r2) hq2
  · exact hm.elim
theorem sim_store {i : Nat} {f : Str} {tv : TE} {m : PEnv → M PV} (hk : ∀ c C, z.cm c = some C → Cls z.K C ∧ NoAttr z.K C f) (h : SimE z tv m) : SimS z (sFld z.K (tVar i) tv f) (mStore i f m) := by
  intro σ env G H n D Dp ok fr er hm ed
  refine h.bind ok fr er hm fun y py G1 H1 n1 ok1 fr1 er1 s1 r1 hm1 => ?_
  split at hm1
  · rename_i c fs he
    obtain ⟨_, hx, a, C, dx, vs, rfl, hc, hh, mine, rf, me⟩ := er1.at_ i _ he
    obtain ⟨k1, k2⟩ := hk c C hc
    refine ⟨_, hx, a, C, dx, vs, rfl, hh, k1, k2, by rw [rf.len]; exact hm1.1, ?_⟩
    refine ed.nx _ _ G1 _ n1 s1.same (ok1.set mine hh) (fr1.set mine) ?_ hm1.2
    exact er1.store hx he rfl rfl mine ⟨a, C, dx, _, rfl, hc, upd_same, mine, repF_put r1 rf, me⟩
  · exact hm1.elim
theorem sim_app {i : Nat} {ta : TE} {m : PEnv → M PV} (h : SimE z ta m) : SimS z (tDrop (tBM z.K "list" rAppend (tVar i) (tCons ta tNil))) (mApp i m) := by
  intro σ env G H n D Dp ok fr er hm ed
  unfold mApp at hm
  split at hm
  · rename_i ps he
    obtain ⟨_, hx, a, vs, rfl, hh, mine, h0, rl⟩ := er.at_ i _ he
    refine ⟨_, hx, .inl ⟨rfl, _, SqL.of hh⟩, ?_⟩
    refine h.bind ok fr er hm fun y py G1 H1 n1 ok1 fr1 er1 s1 r1 hm1 => ?_
    obtain ⟨_, hx1, a1, vs1, e1, hh1, mine1, h01, rl1⟩ := er1.at_ i _ he
    rw [hx] at hx1
    cases Option.some.inj hx1
    cases e1
    refine ⟨a, vs1, y, rfl, rfl, hh1, by rw [rl1.len, sizeLine_eq]; have := hm1.1; omega, ?_⟩
    refine ed.nx _ _ G1 _ n1 s1.same (ok1.set mine1 hh1) (fr1.set mine1) ?_ hm1.2
    exact er1.store hx he rfl rfl mine1 ⟨a, _, rfl, upd_same, mine1, h01, rl1.append (.cons r1 .nil)⟩
  · exact hm.elim
theorem EnvRel.freeze {G H : Hp} {σ : L2.St} {env : PEnv} {i n : Nat} {ps : List PV} (ok : Ok z.cm z.p z.c G H n) (fr : Fr z G H) (er : EnvRel z G H σ env) (he : env[i]? = some (.own ps)) :
    ∃ G', Same G G' ∧ Ok z.cm z.p z.c G' H n ∧ Fr z G' H ∧ EnvRel z G' H σ (env.set i (.val (.lst ps))) := by
  obtain ⟨x, hx, a, vs, rfl, hh, mine, h0, rl⟩ := er.at_ i _ he
  have sg : Same G (upd G a (.lst vs)) := fun b o e => Ev.get_new e mine.g
  refine ⟨upd G a (.lst vs), sg, ⟨fun b o e => ?_, ok.pen, (upd_ne mine.p.symm).trans ok.gp, (upd_ne mine.c.symm).trans ok.gc, ok.tb, gt_upd ok.gt nt_lst⟩, ⟨⟨fr.st.same.trans sg, fr.st.keep, fun b o e nb => ?_, fr.st.al⟩, fr.mp, fr.sx.trans sg⟩, ?_⟩
  · by_cases q : b = a
    · subst q
      rw [upd_same] at e
      rw [← e]
      exact hh
    · rw [upd_ne q] at e
      exact ok.sub _ _ e
  · by_cases q : b = a
    · subst q
      exact (h0 nb).elim
    · rw [upd_ne q] at e
      exact fr.st.new b o e nb
  · refine ⟨fun j u hj => ?_, fun j k u u' b njk hj hk ou ou' aj ak => ?_, by rw [List.length_set, er.len]⟩
    · rcases get_set hj with ⟨rfl, rfl, hl⟩ | ⟨ne, hj2⟩
      · exact ⟨_, hx, _, rfl, .lst upd_same (rl.mono sg)⟩
      · obtain ⟨y, hy, r⟩ := er.at_ j u hj2
        refine ⟨y, hy, ?_⟩
        have na : ∀ b, u.isOwn = true → y = some (.ref b) → b ≠ a := fun b ou yb q => by
          subst q
          exact er.df j i u _ b ne hj2 he ou rfl (by rw [hy, yb]) hx
        cases u with
        | no => trivial
        | val q => exact let ⟨v, e, r⟩ := r; ⟨v, e, r.mono sg⟩
        | own qs =>
          obtain ⟨b, ws, rfl, hb, mb, hb0, rb⟩ := r
          exact ⟨b, ws, rfl, hb, ⟨(upd_ne (na b rfl rfl)).trans mb.g, mb.p, mb.c, mb.h⟩, hb0, rb.mono sg⟩
        | obj c fs =>
          obtain ⟨b, C, dx, ws, rfl, hc, hb, mb, rb, me⟩ := r
          exact ⟨b, C, dx, ws, rfl, hc, hb, ⟨(upd_ne (na b rfl rfl)).trans mb.g, mb.p, mb.c, mb.h⟩, rb.mono sg, me⟩
    · rcases get_set hj with ⟨ej, eu, hl⟩ | ⟨ne, hj2⟩
      · subst eu
        cases ou
      · rcases get_set hk with ⟨ek, eu, hl⟩ | ⟨ne2, hk2⟩
        · subst eu
          cases ou'
        · exact er.df j k u u' b njk hj2 hk2 ou ou' aj ak
theorem sim_freeze {i : Nat} (ha : SimS z t a) : SimS z t (mFreeze i a) := by
  intro σ env G H n D Dp ok fr er hm ed
  unfold mFreeze at hm
  split at hm
  · rename_i ps he
    obtain ⟨G', sg, ok', fr', er'⟩ := er.freeze ok fr he
    exact ha σ _ G' H n D Dp ok' fr' er' hm (ed.mono sg)
  · exact ha σ env G H n D Dp ok fr er hm ed
def ItRep (z : Z) (G : Hp) (J : It) (ps : List PV) : Prop := ∀ (G2 H2 : Hp) (n i : Nat), Same G G2 → Ok z.cm z.p z.c G2 H2 n → (ps.length ≤ i → J.stop i H2) ∧
  ∀ q, ps[i]? = some q → J.go i H2 ∧ ∀ x H3, J.yld i H2 x H3 → ∃ G3, Ok z.cm z.p z.c G3 H3 n ∧ Step (· = z.p) G2 H2 G3 H3 ∧ z.rep G3 x q
theorem ItRep.mono {G G1 : Hp} {J : It} {ps : List PV} (h : ItRep z G J ps) (s : Same G G1) : ItRep z G1 J ps := fun G2 H2 n i s2 => h G2 H2 n i (s.trans s2)
abbrev SimI (z : Z) (w : TI) (m : PEnv → M (List PV)) : Prop := Sim z (ItRep z) w m
theorem sim_for {w : TI} {mi : PEnv → M (List PV)} {g : TG} {mg : PV → PEnv → (PEnv → Prop) → Prop} (hi : SimI z w mi) (hg : SimG z g mg) (hb : SimS z t b) : SimS z (tFor w g t) (mFor mi mg b) := by
  intro σ env G H n D Dp ok fr er hm ed
  refine hi.bind ok fr er hm fun J ps G1 H1 n1 ok1 fr1 er1 s1 r1 hm1 => ?_
  refine ⟨fun i m σ' H' => m = ps.length - i ∧ i ≤ ps.length ∧ ∃ env' G' n', Same G1 G' ∧ Ok z.cm z.p z.c G' H' n' ∧ Fr z G' H' ∧ EnvRel z G' H' σ' env' ∧ forL (fun x W D env n => mg x env fun env' => b W D env' n) (ps.drop i) z.W Dp env' n', ⟨_, rfl, Nat.zero_le _, env, G1, n1, Same.refl _, ok1, fr1, er1, by simpa using hm1⟩, ?_⟩
  rintro i m σ' H' ⟨rfl, hi, env', G', n', sg, ok', fr', er', hf⟩
  obtain ⟨hstop, hgo⟩ := r1 G' H' n' i sg ok'
  by_cases hl : i < ps.length
  · right
    have e : ps[i]? = some ps[i] := List.getElem?_eq_getElem hl
    rw [List.drop_eq_getElem_cons hl] at hf
    obtain ⟨go, yl⟩ := hgo _ e
    refine ⟨go, fun σ2 H2 => ∃ env2 G2 n2, Same G1 G2 ∧ Ok z.cm z.p z.c G2 H2 n2 ∧ Fr z G2 H2 ∧ EnvRel z G2 H2 σ2 env2 ∧ forL (fun x W D env n => mg x env fun env' => b W D env' n) (ps.drop (i + 1)) z.W Dp env2 n2, fun σ2 H2 h2 => ⟨_, by omega, rfl, by omega, h2⟩, fun x H3 hy => ?_⟩
    obtain ⟨G3, ok3, s3, rx⟩ := yl x H3 hy
    refine hg σ' env' G3 H3 n' x _ _ _ ok3 (er'.step s3) rx hf fun σ4 env4 er4 hf4 => ?_
    have sg3 : Same G1 G3 := sg.trans s3.same
    have ed3 := ed.mono (s1.same.trans sg3)
    refine hb σ4 env4 G3 H3 n' _ _ ok3 (fr'.stepP s3) er4 hf4 ⟨fun σ5 env5 G5 H5 n5 s5 ok5 fr5 er5 h5 => ⟨env5, G5, n5, sg3.trans s5, ok5, fr5, er5, h5⟩, ed3.rt, ed3.nx, fun σ5 env5 G5 H5 n5 s5 ok5 fr5 er5 h5 => ⟨env5, G5, n5, sg3.trans s5, ok5, fr5, er5, h5⟩⟩
  · left
    rw [List.drop_eq_nil_of_le (by omega)] at hf
    exact ⟨hstop (by omega), ed.nx σ' env' G' H' n' (s1.same.trans sg) ok' fr' er' hf⟩
theorem sim_while {c : TT} {k : PEnv → M Bool} (hc : SimT z c k) (hb : SimS z t b) : SimS z (tWhile c t) (mWhile k b) := by
  intro σ env G H n D Dp ok fr er hm ed
  obtain ⟨l, hm⟩ := hm
  refine ⟨fun l σ' H' => ∃ env' G' n', Same G G' ∧ Ok z.cm z.p z.c G' H' n' ∧ Fr z G' H' ∧ EnvRel z G' H' σ' env' ∧ whN k b l z.W Dp env' n', ⟨l, env, G, n, Same.refl _, ok, fr, er, hm⟩, ?_⟩
  rintro l σ' H' ⟨env', G', n', sg, ok', fr', er', hw⟩
  cases l with
  | zero => exact hw.elim
  | succ l =>
    refine hc.bind ok' fr' er' hw fun v q G1 H1 n1 ok1 fr1 er1 s1 r1 hm1 => ?_
    cases r1
    have sg1 := sg.trans s1.same
    have ed1 := ed.mono sg1
    cases v with
    | true =>
      refine ⟨fun σ2 H2 => ∃ env2 G2 n2, Same G G2 ∧ Ok z.cm z.p z.c G2 H2 n2 ∧ Fr z G2 H2 ∧ EnvRel z G2 H2 σ2 env2 ∧ whN k b l z.W Dp env2 n2, fun σ2 H2 h2 => ⟨l, Nat.lt_succ_self _, h2⟩, ?_⟩
      exact hb σ' env' G1 H1 n1 _ _ ok1 fr1 er1 hm1 ⟨fun σ5 env5 G5 H5 n5 s5 ok5 fr5 er5 h5 => ⟨env5, G5, n5, sg1.trans s5, ok5, fr5, er5, h5⟩, ed1.rt, ed1.nx, fun σ5 env5 G5 H5 n5 s5 ok5 fr5 er5 h5 => ⟨env5, G5, n5, sg1.trans s5, ok5, fr5, er5, h5⟩⟩
    | false => exact ed1.nx σ' env' G1 H1 n1 (Same.refl _) ok1 fr1 er1 hm1
theorem EnvRel.wipe {G H : Hp} {σ : L2.St} {env : PEnv} (er : EnvRel z G H σ env) : ∀ vs : List Nat, EnvRel z G H (wipe σ vs) (wipeP env vs)
  | [] => er
  | v :: vs => by
    unfold L2.wipe wipeP
    exact (EnvRel.wipe er vs).wipe1
theorem Fr.nox {G H : Hp} (f : Fr z G H) : Fr z.nox G H := ⟨f.st, f.mp, f.sx⟩
theorem EnvRel.nox {G H : Hp} {σ : L2.St} {env : PEnv} (e : EnvRel z G H σ env) : EnvRel z.nox G H σ env := by
  refine ⟨fun i s h => ?_, e.df, e.len⟩
  obtain ⟨x, hx, r⟩ := e.at_ i s h
  refine ⟨x, hx, ?_⟩
  cases s with
  | no => trivial
  | val q => exact r
  | own ps => exact let ⟨a, vs, e, h, m, h0, r⟩ := r; ⟨a, vs, e, h, ⟨m.g, m.p, m.c, m.h⟩, h0, r⟩
  | obj c fs => exact let ⟨a, C, dx, vs, e, hc, h, m, r, me⟩ := r; ⟨a, C, dx, vs, e, hc, h, ⟨m.g, m.p, m.c, m.h⟩, r, me⟩
theorem wipe_get (σ : L2.St) (j : Nat) : ∀ vs : List Nat, (wipe σ vs)[j]? = if j ∈ vs then (if j < σ.length then some none else none) else σ[j]?
  | [] => by simp [L2.wipe]
  | v :: vs => by
    unfold L2.wipe
    rw [List.getElem?_set, wipe_get σ j vs, wipe_length]
    by_cases e : v = j
    · subst e
      simp
    · have e' : ¬ j = v := fun q => e q.symm
      simp [e, e']
theorem wipe_set {σ : L2.St} {i : Nat} {x : Option V} {vs : List Nat} (h : i ∈ vs) : wipe (σ.set i x) vs = wipe σ vs := by
  refine List.ext_getElem? fun j => ?_
  rw [wipe_get, wipe_get, List.length_set]
  by_cases e : j ∈ vs
  · simp [e]
  · rw [if_neg e, if_neg e, List.getElem?_set_ne (fun q : i = j => e (by rw [← q]; exact h))]
theorem wipe_wipe (σ : L2.St) (vs : List Nat) : wipe (wipe σ vs) vs = wipe σ vs := by
  refine List.ext_getElem? fun j => ?_
  rw [wipe_get, wipe_get, wipe_length]
  by_cases e : j ∈ vs
  · simp [e]
  · rw [if_neg e]
def GW (g : TG) (vs : List Nat) : Prop := ∀ (x : V) (σ : L2.St) (H : Hp) (Q Q' : L2.St → Hp → Prop), g x σ H Q → (∀ σ2 H2, wipe σ2 vs = wipe σ vs → Q σ2 H2 → Q' σ2 H2) → g x σ H Q'
def GWs (g : TGs) (vs : List Nat) : Prop := ∀ (x : List V) (σ : L2.St) (H : Hp) (Q Q' : L2.St → Hp → Prop), g x σ H Q → (∀ σ2 H2, wipe σ2 vs = wipe σ vs → Q σ2 H2 → Q' σ2 H2) → g x σ H Q'
theorem gw_name {i : Nat} {vs : List Nat} (h : i ∈ vs) : GW (gName i) vs := fun x σ H Q Q' q k => k _ _ (wipe_set h) q
theorem gw_nil {vs : List Nat} : GWs gNil vs := fun x σ H Q Q' q k => ⟨q.1, k _ _ rfl q.2⟩
theorem gw_cons {g : TG} {gs : TGs} {vs : List Nat} (h : GW g vs) (hs : GWs gs vs) : GWs (gCons g gs) vs := fun x σ H Q Q' q k => by
  obtain ⟨v, r, e, q⟩ := q
  exact ⟨v, r, e, h v σ H _ _ q fun σ2 H2 e2 q2 => hs r σ2 H2 _ _ q2 fun σ3 H3 e3 q3 => k σ3 H3 (e3.trans e2) q3⟩
theorem gw_tup {K : PySem.W.Frag} {k : Nat} {gs : TGs} {vs : List Nat} (hs : GWs gs vs) : GW (gTup K k gs) vs := fun x σ H Q Q' q k => by
  obtain ⟨a, xs, e, s, l, q⟩ := q
  exact ⟨a, xs, e, s, l, hs xs σ H _ _ q k⟩
theorem sim_lc {w : TI} {mi : PEnv → M (List PV)} {g : TG} {mg : PV → PEnv → (PEnv → Prop) → Prop} {tt : TT} {mt : PEnv → M Bool} {te : TE} {me : PEnv → M PV} {vs : List Nat} (hi : SimI z w mi) (hg : SimG z.nox g mg) (hw : GW g vs) (ht : SimT z.nox tt mt) (he : SimE z.nox te me) :
    SimE z (tLc w g tt te vs) (mLc mi mg mt me vs) := by
  intro σ env G H n Qp Q ok fr er hm hq
  refine hi.bind ok fr er hm fun J ps G1 H1 n1 ok1 fr1 er1 s1 r1 hm1 => ?_
  obtain ⟨hz, hm1⟩ := hm1
  intro A hA
  obtain ⟨ok2, s2⟩ := ok1.newO (o := .lst []) hA
  have mA := ok1.mine fr1 hA
  refine ⟨fun i m H' => m = ps.length - i ∧ i ≤ ps.length ∧ ∃ G' n' acc us, Ok z.cm z.p z.c G' H' n' ∧ Step (· = z.p) G1 H1 G' H' ∧ H' A = some (.lst us) ∧ G' A = none ∧ z.repL G' us acc ∧ acc.length ≤ i ∧
    lcL mg mt me (wipeP env vs) (ps.drop i) n' (fun ys n2 => Qp (.lst (acc ++ ys)) n2), ⟨_, rfl, Nat.zero_le _, G1, n1, [], [], ok2, s2, upd_same, mA.g, .nil, Nat.zero_le _, by simpa using hm1⟩, ?_⟩
  rintro i m H' ⟨rfl, hi, G', n', acc, us, ok', st', hA', gA', rl, la, hl'⟩
  have mine : Mine z G' A := ⟨gA', mA.p, mA.c, mA.h⟩
  obtain ⟨hstop, hgo⟩ := r1 G' H' n' i st'.same ok'
  by_cases hl : i < ps.length
  · right
    have e : ps[i]? = some ps[i] := List.getElem?_eq_getElem hl
    rw [List.drop_eq_getElem_cons hl] at hl'
    obtain ⟨go, yl⟩ := hgo _ e
    refine ⟨go, fun H2 => ∃ G2 n2 acc2 us2, Ok z.cm z.p z.c G2 H2 n2 ∧ Step (· = z.p) G1 H1 G2 H2 ∧ H2 A = some (.lst us2) ∧ G2 A = none ∧ z.repL G2 us2 acc2 ∧ acc2.length ≤ i + 1 ∧
      lcL mg mt me (wipeP env vs) (ps.drop (i + 1)) n2 (fun ys n2 => Qp (.lst (acc2 ++ ys)) n2), fun H2 h2 => ⟨_, by omega, rfl, by omega, h2⟩, fun x H3 hy => ?_⟩
    obtain ⟨G3, ok3, s3, rx⟩ := yl x H3 hy
    have st3 := st'.trans s3 fun _ q => q
    have er3 : EnvRel z.nox G3 H3 (wipe σ vs) (wipeP env vs) := ((er1.step st3).wipe vs).nox
    have keepA : ∀ {Ga Ha Gb Hb : Hp} {us : List V}, Step (· = z.p) Ga Ha Gb Hb → Ha A = some (.lst us) → Ga A = none → Hb A = some (.lst us) ∧ Gb A = none := fun {Ga Ha Gb Hb us} s h g => by
      refine ⟨s.keep _ _ h mA.p nt_lst, ?_⟩
      cases q : Gb A with
      | none => rfl
      | some o =>
        have := s.new A o q ⟨_, h, nt_lst⟩
        rw [g] at this
        cases this
    obtain ⟨hA3, gA3⟩ := keepA s3 hA' gA'
    refine hw x (wipe σ vs) H3 (fun σ4 H4 => H4 = H3 ∧ ∃ env4, EnvRel z.nox G3 H3 σ4 env4 ∧ mt env4 W0 n' fun b n1 => if b = true then me env4 W0 n1 fun y n2 => lcL mg mt me (wipeP env vs) (ps.drop (i + 1)) n2 fun ys n3 => Qp (.lst (acc ++ (y :: ys))) n3 else lcL mg mt me (wipeP env vs) (ps.drop (i + 1)) n1 fun ys n2 => Qp (.lst (acc ++ ys)) n2) _
      (hg (wipe σ vs) (wipeP env vs) G3 H3 n' x _ _ _ ok3 er3 rx hl' fun σ4 env4 er4 hf4 => ⟨rfl, env4, er4, hf4⟩) fun σ4 H4 we q4 => ?_
    obtain ⟨rfl, env4, er4, hf4⟩ := q4
    refine ⟨we.trans (wipe_wipe σ vs), ?_⟩
    have fr3 : Fr z.nox G3 H4 := (fr1.stepP st3).nox
    refine ht.bind (z := z.nox) ok3 fr3 er4 hf4 fun bb bq G5 H5 n5 ok5 fr5 er5 s5 r5 hm5 => ?_
    cases r5
    obtain ⟨hA5, gA5⟩ := keepA s5 hA3 gA3
    have st5 := st3.trans s5 fun _ q => q
    cases bb with
    | true =>
      rw [if_pos rfl] at hm5 ⊢
      refine he.bind (z := z.nox) ok5 fr5 er5 hm5 fun y py G6 H6 n6 ok6 fr6 er6 s6 r6 hm6 => ?_
      obtain ⟨hA6, gA6⟩ := keepA s6 hA5 gA5
      have st6 := st5.trans s6 fun _ q => q
      have rl6 : z.repL G6 us acc := (rl.mono s3.same).mono (s5.same.trans s6.same)
      have mine6 : Mine z G6 A := ⟨gA6, mA.p, mA.c, mA.h⟩
      refine ⟨us, hA6, by rw [rl.len, sizeLine_eq]; omega, G6, n6, acc ++ [py], us ++ [y], Ok.set (z := z) ok6 mine6 hA6, ⟨st6.same, fun b o e nb nt => Ev.get_ne (fun q => by rw [q, hA] at e; cases e) (st6.keep b o e nb nt), st6.new, fun b h => ?_⟩, upd_same, gA6, rl6.append (.cons r6 .nil), by simp; omega, ?_⟩
      · exact (st6.al b h).upd nt_lst
      · simpa using hm6
    | false =>
      rw [if_neg (by decide)] at hm5 ⊢
      exact ⟨G5, n5, acc, us, ok5, st5, hA5, gA5, (rl.mono s3.same).mono s5.same, by omega, hm5⟩
  · left
    rw [List.drop_eq_nil_of_le (by omega)] at hl'
    have hQ : Qp (.lst acc) n' := by simpa [lcL] using hl'
    refine ⟨hstop (by omega), ?_⟩
    have sg : Same G' (upd G' A (.lst us)) := fun b o e => Ev.get_new e gA'
    refine hq (.ref A) (.lst acc) (upd G' A (.lst us)) H' n' ⟨fun b o e => ?_, ok'.pen, (upd_ne mA.p.symm).trans ok'.gp, (upd_ne mA.c.symm).trans ok'.gc, ok'.tb, gt_upd ok'.gt nt_lst⟩ ?_ (.lst upd_same (rl.mono sg)) hQ
    · by_cases q : b = A
      · subst q
        rw [upd_same] at e
        rw [← e]
        exact hA'
      · rw [upd_ne q] at e
        exact ok'.sub _ _ e
    · have st := s1.trans st' fun _ q => q
      refine ⟨st.same.trans sg, st.keep, fun b o e nb => ?_, st.al⟩
      by_cases q : b = A
      · subst q
        exact ((s1.al b nb).no hA).elim
      · rw [upd_ne q] at e
        exact st.new b o e nb
end
end Pu
namespace Pu
open PySem PySem.Spec PyProof.Rows L2
section
variable (K : PySem.W.Frag) (cm : Md)
def spP (k : Nat) (m : List PV → M PV) : Sp := fun vs H Q E => ∃ (p c : Addr) (G : Hp) (n : Nat) (args : List PV) (Wp : XP) (Qp : PV → Nat → Prop), vs.length = k ∧ Ok cm p c G H n ∧ RepL K cm p G vs args ∧ m args Wp n Qp ∧
  (∀ v q G' H' n', Ok cm p c G' H' n' → Step (· = p) G H G' H' → Rep K cm p G' v q → Qp q n' → Q v H') ∧
  (∀ cn fs C d G' H' n', Ok cm p c G' H' n' → Step (· = p) G H G' H' → cm.cx cn = some C → RepX K cm p G' d fs → Wp cn fs n' → E (.ref C) d H')
def spI (k : Nat) (m : Str → List (Str × PV) → List PV → M (List (Str × PV))) : Sp := fun vs H Q E => ∃ (p c : Addr) (G : Hp) (n : Nat) (cn : Str) (C x dx : Addr) (us : List V) (vf : List (Str × V)) (fs : List (Str × PV)) (args : List PV) (Wp : XP) (Qp : List (Str × PV) → Nat → Prop),
  vs = .ref x :: us ∧ us.length + 1 = k ∧ Ok cm p c G H n ∧ cm cn = some C ∧ H x = some (.ins C dx vf) ∧ G x = none ∧ x ≠ p ∧ x ≠ c ∧ RepF K cm p G vf fs ∧ RepL K cm p G us args ∧ m cn fs args Wp n Qp ∧
  (∀ vf' fs' G' H' n', Ok cm p c G' H' n' → Step (fun b => b = p ∨ b = x) G H G' H' → H' x = some (.ins C dx vf') → G' x = none → RepF K cm p G' vf' fs' → Qp fs' n' → Q .non H') ∧
  (∀ cn fs C d G' H' n', Ok cm p c G' H' n' → Step (fun b => b = p ∨ b = x) G H G' H' → cm.cx cn = some C → RepX K cm p G' d fs → Wp cn fs n' → E (.ref C) d H')
end
def Link (z : Z) (E : XK) : Prop := ∀ (σ : L2.St) (env : PEnv) (G H : Hp) (n : Nat) (cn : Str) (fs : List (Str × PV)) (C : Addr) (d : Option Addr), Ok z.cm z.p z.c G H n → Fr z G H → EnvRel z G H σ env →
  z.cm.cx cn = some C → z.repX G d fs → z.W env cn fs n → E (.ref C) d H
def startP (k : Nat) (args : List PV) : PEnv := args.map .val ++ List.replicate (k - args.length) .no
def mFn0 (k : Nat) (b : MS) (args : List PV) : M PV := fun _ n Q => b (fun _ => W0) { nx := fun _ n' => Q .non n', rt := Q } (startP k args) n
def initEnd (Q : List (Str × PV) → Nat → Prop) : PEnv → Nat → Prop := fun env n => match env with
  | .obj _ fs :: _ => Q fs n
  | _ => False
def mInit0 (k : Nat) (b : MS) (cn : Str) (fs : List (Str × PV)) (args : List PV) : M (List (Str × PV)) := fun _ n Q =>
  b (fun _ => W0) { nx := initEnd Q, rt := fun _ _ => False } (.obj cn fs :: startP (k - 1) args) n
def mCall (k : Nat) (m : List PV → M PV) (dps : List PV) (r : PEnv → M (List PV)) : PEnv → M PV := fun env W n Q => r env W n fun args n1 => (args ++ dps).length = k ∧ m (args ++ dps) W n1 Q
def mCallK (n l k : Nat) (gP : List PV → List PV → List PV) (m : List PV → M PV) (r s : PEnv → M (List PV)) : PEnv → M PV := fun env W n0 Q => r env W n0 fun ps n1 => s env W n1 fun qs n2 => ps.length = n ∧ qs.length = l ∧ (gP ps qs).length = k ∧ m (gP ps qs) W n2 Q
def mMeth (cn f : Str) (k : Nat) (m : List PV → M PV) (dps : List PV) (a : PEnv → M PV) (r : PEnv → M (List PV)) : PEnv → M PV := fun env W n Q => a env W n fun x n1 => match x with
  | .ins c fs => c = cn ∧ fs.lookup f = none ∧ r env W n1 fun args n2 => (args ++ dps).length + 1 = k ∧ m (.ins c fs :: (args ++ dps)) W n2 Q
  | _ => False
def PV.isAtom : PV → Bool
  | .non => true
  | .bl _ => true
  | .int _ => true
  | .str _ => true
  | _ => false
def mMethO (cn f : Str) (k : Nat) (m : List PV → M PV) (dps : List PV) (i : Nat) (r : PEnv → M (List PV)) : PEnv → M PV := fun env W n Q => match env[i]? with
  | some (.obj c fs) => c = cn ∧ fs.lookup f = none ∧ r env W n fun args n2 => (args ++ dps).length + 1 = k ∧ m (.ins c fs :: (args ++ dps)) W0 n2 fun q n3 => q.isAtom = true ∧ Q q n3
  | _ => False
def mMake (cn : Str) (n l k : Nat) (gP : List PV → List PV → List PV) (m : Str → List (Str × PV) → List PV → M (List (Str × PV))) (r s : PEnv → M (List PV)) : PEnv → M PV := fun env W n0 Q => r env W n0 fun ps n1 => s env W n1 fun qs n2 => ps.length = n ∧ qs.length = l ∧ (gP ps qs).length + 1 = k ∧
  m cn [] (gP ps qs) W n2 fun fs n3 => Q (.ins cn fs) n3
def mDraw (r : PEnv → M (List PV)) : PEnv → M PV := fun env W n Q => r env W n fun args n1 => match args with
  | [.pen, .int m] => 1 ≤ n1 ∧ 0 < m ∧ m ≤ 10000000000000000000000000000000000000000000000000000000000000000000000 ∧ ∀ d, 0 ≤ d → d < m → Q (.int d) (n1 - 1)
  | _ => False
section
variable {z : Z}
theorem envStart {G H : Hp} {k : Nat} {vs : List V} {args : List PV} (r : z.repL G vs args) (hk : vs.length ≤ k) : EnvRel z G H (vs.map some ++ List.replicate (k - vs.length) none) (startP k args) := by
  have hl := r.len
  refine ⟨fun i s h => ?_, fun i j s s' a _ hi _ os _ _ _ => ?_, by simp [startP]; omega⟩
  · unfold startP at h
    by_cases hi : i < args.length
    · rw [List.getElem?_append_left (by simpa using hi), List.getElem?_map] at h
      obtain ⟨q, hq, rfl⟩ := Option.map_eq_some_iff.mp h
      obtain ⟨y, hy, ry⟩ := r.get hq
      exact ⟨some y, by rw [List.getElem?_append_left (by simpa [hl] using hi), List.getElem?_map, hy]; rfl, y, rfl, ry⟩
    · rw [List.getElem?_append_right (by simpa using hi), List.getElem?_replicate] at h
      split at h
      · cases h
        refine ⟨none, ?_, trivial⟩
        rw [List.getElem?_append_right (by simp; omega), List.getElem?_replicate, if_pos (by simp at *; omega)]
      · cases h
  · unfold startP at hi
    by_cases hlt : i < args.length
    · rw [List.getElem?_append_left (by simpa using hlt), List.getElem?_map] at hi
      obtain ⟨q, _, rfl⟩ := Option.map_eq_some_iff.mp hi
      cases os
    · rw [List.getElem?_append_right (by simpa using hlt), List.getElem?_replicate] at hi
      split at hi
      · cases hi
        cases os
      · cases hi
theorem startP_own {k i : Nat} {args : List PV} {s : Slot} (h : (startP k args)[i]? = some s) : s.isOwn = false := by
  unfold startP at h
  by_cases hlt : i < args.length
  · rw [List.getElem?_append_left (by simpa using hlt), List.getElem?_map] at h
    obtain ⟨q, _, rfl⟩ := Option.map_eq_some_iff.mp h
    rfl
  · rw [List.getElem?_append_right (by simpa using hlt), List.getElem?_replicate] at h
    split at h
    · cases h
      rfl
    · cases h
theorem step_of_fr {G H G' H' : Hp} (h : Fr z G' H') (e1 : z.G0 = G) (e2 : z.H0 = H) : Step z.ms G H G' H' := by
  subst e1 e2
  exact h.st
theorem sim_call {k : Nat} {m : List PV → M PV} {dvs : List V} {dps : List PV} {E : XK} {ta : TA} {ma : PEnv → M (List PV)} (hl : Link z E) (hd : ∀ G, z.repL G dvs dps) (ha : SimA z ta ma) : SimE z (tCall (spP z.K z.cm k m) dvs E ta) (mCall k m dps ma) := by
  intro σ env G H n Qp Q ok fr er hm hq
  refine ha.bind ok fr er hm fun vs args G1 H1 n1 ok1 fr1 er1 s1 r1 hm1 => ?_
  have rr := r1.append (hd G1)
  refine ⟨z.p, z.c, G1, n1, args ++ dps, z.W env, Qp, rr.len.trans hm1.1, ok1, rr, hm1.2, fun v q G' H' n' ok' st' r' hq' => (hq.step s1) v q G' H' n' ok' st' r' hq', fun cn fs C d G' H' n' ok' st' hc rx hw => ?_⟩
  exact hl σ env G' H' n' cn fs C d ok' (fr1.stepP st') (er1.step st') hc rx hw
theorem sim_callK {n0 l k : Nat} {gP : List PV → List PV → List PV} {gV : List V → List V → List V} {m : List PV → M PV} {E : XK} {ta tk : TA} {ma mk : PEnv → M (List PV)} (hl : Link z E)
    (hg : ∀ G vs ps zs qs, ps.length = n0 → qs.length = l → z.repL G vs ps → z.repL G zs qs → z.repL G (gV vs zs) (gP ps qs)) (ha : SimA z ta ma) (hk : SimA z tk mk) : SimE z (Ev.tGK n0 l (spP z.K z.cm k m) gV E ta tk) (mCallK n0 l k gP m ma mk) := by
  intro σ env G H n Qp Q ok fr er hm hq
  refine ha.bind ok fr er hm fun vs ps G1 H1 n1 ok1 fr1 er1 s1 r1 hm1 => ?_
  refine hk.bind ok1 fr1 er1 hm1 fun zs qs G2 H2 n2 ok2 fr2 er2 s2 r2 hm2 => ?_
  have rr := hg G2 vs ps zs qs hm2.1 hm2.2.1 (r1.mono s2.same) r2
  refine ⟨r1.len.trans hm2.1, r2.len.trans hm2.2.1, z.p, z.c, G2, n2, gP ps qs, z.W env, Qp, rr.len.trans hm2.2.2.1, ok2, rr, hm2.2.2.2, fun v q G' H' n' ok' st' r' hq' => ((hq.step s1).step s2) v q G' H' n' ok' st' r' hq', fun cn fs C d G' H' n' ok' st' hc rx hw => ?_⟩
  exact hl σ env G' H' n' cn fs C d ok' (fr2.stepP st') (er2.step st') hc rx hw
theorem sim_meth {cn f : Str} {C : Addr} {k : Nat} {m : List PV → M PV} {dvs : List V} {dps : List PV} {E : XK} {ta : TE} {tr : TA} {ma : PEnv → M PV} {mr : PEnv → M (List PV)} (hl : Link z E) (hc : z.cm cn = some C) (hd : ∀ G, z.repL G dvs dps) (ha : SimE z ta ma) (hr : SimA z tr mr) :
    SimE z (tMeth C f (spP z.K z.cm k m) dvs E ta tr) (mMeth cn f k m dps ma mr) := by
  intro σ env G H n Qp Q ok fr er hm hq
  refine ha.bind ok fr er hm fun x px G1 H1 n1 ok1 fr1 er1 s1 r1 hm1 => ?_
  cases r1 <;> try exact hm1.elim
  rename_i a C' dx c vs ps hc' hg rf
  obtain ⟨rfl, hf, hm1⟩ := hm1
  rw [hc] at hc'
  cases hc'
  have hlk : vs.lookup f = none := by
    rcases rf.look (f := f) with ⟨_, e⟩ | ⟨x, y, e, _⟩
    · exact e
    · rw [hf] at e
      cases e
  refine ⟨a, dx, vs, rfl, ok1.sub _ _ hg, hlk, ?_⟩
  refine hr.bind ok1 fr1 er1 hm1 fun us args G2 H2 n2 ok2 fr2 er2 s2 r2 hm2 => ?_
  have rr : z.repL G2 (.ref a :: (us ++ dvs)) (.ins c ps :: (args ++ dps)) := .cons (.ins hc (s2.same _ _ hg) (rf.mono s2.same)) (r2.append (hd G2))
  refine ⟨z.p, z.c, G2, n2, _, z.W env, Qp, rr.len.trans (by rw [List.length_cons]; exact hm2.1), ok2, rr, hm2.2, fun v q G' H' n' ok' st' r' hq' => ((hq.step s1).step s2) v q G' H' n' ok' st' r' hq', fun cn fs C d G' H' n' ok' st' hc rx hw => ?_⟩
  exact hl σ env G' H' n' cn fs C d ok' (fr2.stepP st') (er2.step st') hc rx hw
theorem atom_rep {G G' : Hp} {v : V} {q : PV} (h : q.isAtom = true) (r : z.rep G v q) : z.rep G' v q := by
  cases r <;> first | exact .non | exact .bl _ | exact .int _ | exact .str _ | (cases h)
theorem sim_methO {cn f : Str} {C : Addr} {k i : Nat} {m : List PV → M PV} {dvs : List V} {dps : List PV} {E : XK} {tr : TA} {mr : PEnv → M (List PV)} (hc : z.cm cn = some C) (hd : ∀ G, z.repL G dvs dps) (hr : SimA z tr mr) :
    SimE z (tMeth C f (spP z.K z.cm k m) dvs E (tVar i) tr) (mMethO cn f k m dps i mr) := by
  intro σ env G H n Qp Q ok fr er hm hq
  unfold mMethO at hm
  split at hm
  · rename_i c fs he
    obtain ⟨x, hx, a, C', dx, vs, rfl, hc', hh, mine, rf, me⟩ := er.at_ i _ he
    obtain ⟨rfl, hf, hm1⟩ := hm
    rw [hc] at hc'
    cases hc'
    have hlk : vs.lookup f = none := by
      rcases rf.look (f := f) with ⟨_, e⟩ | ⟨x, y, e, _⟩
      · exact e
      · rw [hf] at e
        cases e
    refine ⟨_, hx, a, dx, vs, rfl, hh, hlk, ?_⟩
    refine hr.bind ok fr er hm1 fun us args G2 H2 n2 ok2 fr2 er2 s2 r2 hm2 => ?_
    obtain ⟨_, hx2, a2, C2, dx2, vs2, e2, hc2, hh2, mine2, rf2, me2⟩ := er2.at_ i _ he
    rw [hx] at hx2
    cases Option.some.inj hx2
    cases e2
    rw [hc] at hc2
    cases hc2
    have sg : Same G2 (upd G2 a (.ins C dx2 vs2)) := fun b o e => Ev.get_new e mine2.g
    have ok3 : Ok z.cm z.p z.c (upd G2 a (.ins C dx2 vs2)) H2 n2 := ⟨fun b o e => by
      by_cases q : b = a
      · subst q
        rw [upd_same] at e
        rw [← e]
        exact hh2
      · rw [upd_ne q] at e
        exact ok2.sub _ _ e, ok2.pen, (upd_ne mine2.p.symm).trans ok2.gp, (upd_ne mine2.c.symm).trans ok2.gc, ok2.tb, gt_upd ok2.gt nt_ins⟩
    have rr : z.repL (upd G2 a (.ins C dx2 vs2)) (.ref a :: (us ++ dvs)) (.ins c fs :: (args ++ dps)) := .cons (.ins hc upd_same (rf2.mono sg)) ((r2.mono sg).append (hd _))
    refine ⟨z.p, z.c, _, n2, _, W0, _, rr.len.trans (by rw [List.length_cons]; exact hm2.1), ok3, rr, hm2.2, fun v q G' H' n' ok' st' r' hq' => ?_, fun cn fs C d G' H' n' ok' st' hc rx hw => hw.elim⟩
    have ok4 : Ok z.cm z.p z.c G2 H' n' := ⟨(sg.trans st'.same).trans ok'.sub, ok'.pen, ok2.gp, ok2.gc, ok'.tb, ok2.gt⟩
    exact (hq.step s2) v q G2 H' n' ok4 ⟨Same.refl _, st'.keep, fun _ _ e _ => e, st'.al⟩ (atom_rep hq'.1 r') hq'.2
  · exact hm.elim
theorem sim_make {cn : Str} {C : Addr} {n0 l k : Nat} {gP : List PV → List PV → List PV} {gV : List V → List V → List V} {m : Str → List (Str × PV) → List PV → M (List (Str × PV))} {E : XK} {ta tk : TA} {ma mk : PEnv → M (List PV)} (hl : Link z E) (hc : z.cm cn = some C)
    (hg : ∀ G x vs ps zs qs, ps.length = n0 → qs.length = l → z.repL G vs ps → z.repL G zs qs → ∃ us, gV (.ref x :: vs) zs = .ref x :: us ∧ z.repL G us (gP ps qs)) (ha : SimA z ta ma) (hk : SimA z tk mk) :
    SimE z (tMakeK C n0 l (spI z.K z.cm k m) gV E ta tk) (mMake cn n0 l k gP m ma mk) := by
  intro σ env G H n Qp Q ok fr er hm hq
  refine ha.bind ok fr er hm fun vs ps G1 H1 n1 ok1 fr1 er1 s1 r1 hm1 => ?_
  refine hk.bind ok1 fr1 er1 hm1 fun zs qs G2 H2 n2 ok2 fr2 er2 s2 r2 hm2 => ?_
  obtain ⟨l1, l2, l3, hm2⟩ := hm2
  refine ⟨r1.len.trans l1, r2.len.trans l2, fun x dx nx ndx ne => ?_⟩
  obtain ⟨us, eu, ru⟩ := hg G2 x vs ps zs qs l1 l2 (r1.mono s2.same) r2
  obtain ⟨ok3, s3⟩ := ok2.newO (o := .own x) ndx
  have nx3 : upd H2 dx (.own x) x = none := (upd_ne ne.symm).trans nx
  obtain ⟨ok4, s4⟩ := ok3.newO (o := .ins C dx []) nx3
  have st4 := s3.trans s4 fun _ q => q
  have nxp := Ev.Pen.ne ok2.pen nx
  have nxc := Ev.Pen.neC ok2.pen nx
  refine ⟨z.p, z.c, G2, n2, cn, C, x, dx, us, [], [], gP ps qs, z.W env, _, eu, by rw [ru.len]; exact l3, ok4, hc, upd_same, ok2.free nx, nxp, nxc, .nil, ru, hm2, fun vf' fs' G' H' n' ok' st' hx' gx' rf' hq' => ⟨rfl, ?_⟩, fun cn fs C d G' H' n' ok' st' hc rx hw => ?_⟩
  · have sg : Same G' (upd G' x (.ins C dx vf')) := fun b o e => Ev.get_new e gx'
    have ok5 : Ok z.cm z.p z.c (upd G' x (.ins C dx vf')) H' n' := ⟨fun b o e => by
      by_cases q : b = x
      · subst q
        rw [upd_same] at e
        rw [← e]
        exact hx'
      · rw [upd_ne q] at e
        exact ok'.sub _ _ e, ok'.pen, (upd_ne nxp.symm).trans ok'.gp, (upd_ne nxc.symm).trans ok'.gc, ok'.tb, gt_upd ok'.gt nt_ins⟩
    refine ((hq.step s1).step s2) (.ref x) (.ins cn fs') _ H' n' ok5 ⟨st'.same.trans sg, fun b o e nb nt => ?_, fun b o e nb => ?_, fun b h => st'.al b (st4.al b h)⟩ (.ins hc upd_same (rf'.mono sg)) hq'
    · refine st'.keep b o (st4.keep b o e nb nt) (fun q => ?_) nt
      rcases q with q | q
      · exact nb q
      · subst q
        rw [nx] at e
        cases e
    · by_cases q : b = x
      · subst q
        exact (nb.no nx).elim
      · rw [upd_ne q] at e
        exact st'.new b o e (st4.al b nb)
  · have kp : ∀ b o, H2 b = some o → ¬ b = z.p → NT o → H' b = some o := fun b o e nb nt => st'.keep b o (st4.keep b o e nb nt) (fun q => by
      rcases q with q | q
      · exact nb q
      · subst q
        rw [nx] at e
        cases e) nt
    have st5 : Step (· = z.p) G2 H2 G' H' := ⟨st'.same, kp, fun b o e nb => st'.new b o e (st4.al b nb), fun b h => st'.al b (st4.al b h)⟩
    exact hl σ env G' H' n' cn fs C d ok' (fr2.stepP st5) (er2.step st5) hc rx hw
theorem sim_draw {E : XK} {spD : Sp} {ta : TA} {ma : PEnv → M (List PV)} (hD : ∀ (p c : Addr) (m n : Int) (H : Hp) (Q : VK) (E : XK), Ev.Pen H p c n → n ≤ 100000 → 0 < m → m ≤ 10000000000000000000000000000000000000000000000000000000000000000000000 → (∀ (d : Int) (H' : Hp), 0 ≤ d → d < m → Ev.But p H H' → Ev.Pen H' p c (n + 1) → Q (.int d) H') → spD [.ref p, .int m] H Q E)
    (ha : SimA z ta ma) : SimE z (tCall spD [] E ta) (mDraw ma) := by
  intro σ env G H n Qp Q ok fr er hm hq
  refine ha.bind ok fr er hm fun vs args G1 H1 n1 ok1 fr1 er1 s1 r1 hm1 => ?_
  split at hm1
  · rename_i m
    cases r1 with
    | cons ra rb =>
      cases rb with
      | cons rc rd =>
        cases rd
        cases ra
        cases rc
        obtain ⟨h1, h2, h3, h4⟩ := hm1
        refine hD z.p z.c m (90000 - (n1 : Int)) H1 Q E ok1.pen (by omega) h2 h3 fun d H' d0 d1 b p' => ?_
        have ok2 : Ok z.cm z.p z.c G1 H' (n1 - 1) := ⟨fun b' o e => b b' o (ok1.sub _ _ e) (fun q => by rw [q, ok1.gp] at e; cases e), p'.mono (by omega), ok1.gp, ok1.gc, Tabs.but ok1.tb b ok1.pen, ok1.gt⟩
        refine (hq.step s1) (.int d) (.int d) G1 H' (n1 - 1) ok2 ⟨Same.refl _, fun b' o e nb _ => b b' o e nb, fun _ _ e _ => e, fun b' hb => ?_⟩ (.int d) (h4 d d0 d1)
        by_cases q : b' = z.p
        · subst q
          obtain ⟨_, _, _, e, _⟩ := p'
          exact ⟨_, e, nt_lst⟩
        · obtain ⟨o, e, nt⟩ := hb
          exact ⟨o, b b' o e q, nt⟩
  · exact hm1.elim
def mList (m : PEnv → M PV) : PEnv → M (List PV) := fun env W n Q => m env W n fun x n1 => match x with
  | .lst xs => Q xs n1
  | _ => False
def mTupI (m : PEnv → M PV) : PEnv → M (List PV) := fun env W n Q => m env W n fun x n1 => match x with
  | .tup xs => Q xs n1
  | _ => False
theorem sim_iList {tl : TE} {m : PEnv → M PV} (h : SimE z tl m) : SimI z (iList z.K tl) (mList m) := by
  intro σ env G H n Qp Q ok fr er hm hq
  refine h.bind ok fr er hm fun x px G1 H1 n1 ok1 fr1 er1 s1 r1 hm1 => ?_
  cases r1 <;> try exact hm1.elim
  rename_i a vs ps hs rl
  refine ⟨a, rfl, ⟨vs, SqL.of (ok1.sub _ _ hs)⟩, (hq.step s1).here (v := Itl z.K a) (q := ps) ok1 (fun G2 H2 n2 i sg ok2 => ?_) hm1⟩
  have h2 : SqL z.K H2 a vs := SqL.of ((sg.trans ok2.sub) _ _ hs)
  refine ⟨fun hl => ⟨vs, h2, by rw [rl.len]; exact hl⟩, fun q hq => ?_⟩
  obtain ⟨y, hy, ry⟩ := rl.get hq
  refine ⟨⟨vs, y, h2, hy⟩, fun x H3 hx => ?_⟩
  obtain ⟨rfl, hx⟩ := hx
  have := hx vs h2
  rw [hy] at this
  cases this
  exact ⟨G2, ok2, Step.refl _ _ _, ry.mono sg⟩
theorem sim_iTup {tl : TE} {m : PEnv → M PV} (h : SimE z tl m) : SimI z (iTup z.K tl) (mTupI m) := by
  intro σ env G H n Qp Q ok fr er hm hq
  refine h.bind ok fr er hm fun x px G1 H1 n1 ok1 fr1 er1 s1 r1 hm1 => ?_
  cases r1 <;> try exact hm1.elim
  rename_i a vs ps hs rl
  refine ⟨a, rfl, ⟨vs, Ev.Same.seqT ok1.sub hs⟩, (hq.step s1).here (v := Itt z.K a) (q := ps) ok1 (fun G2 H2 n2 i sg ok2 => ?_) hm1⟩
  have h2 := Ev.Same.seqT (sg.trans ok2.sub) hs
  refine ⟨fun hl => ⟨vs, h2, by rw [rl.len]; exact hl⟩, fun q hq => ?_⟩
  obtain ⟨y, hy, ry⟩ := rl.get hq
  refine ⟨⟨vs, y, h2, hy⟩, fun x H3 hx => ?_⟩
  obtain ⟨rfl, hx⟩ := hx
  have := hx vs h2
  rw [hy] at this
  cases this
  exact ⟨G2, ok2, Step.refl _ _ _, ry.mono sg⟩
def rngP (lo : Int) (k : Nat) : List PV := (List.range k).map fun (i : Nat) => .int (lo + i)
theorem rngP_len {lo : Int} {k : Nat} : (rngP lo k).length = k := by simp [rngP]
theorem rngP_get {lo : Int} {k i : Nat} {q : PV} (h : (rngP lo k)[i]? = some q) : i < k ∧ q = .int (lo + i) := by
  unfold rngP at h
  rw [List.getElem?_map] at h
  obtain ⟨j, hj, rfl⟩ := Option.map_eq_some_iff.mp h
  have hl := (List.getElem?_eq_some_iff.mp hj).1
  have e := (List.getElem?_eq_some_iff.mp hj).2
  simp at hl e
  subst e
  exact ⟨hl, rfl⟩
theorem rng_rep {G : Hp} {lo : Int} {k : Nat} : ItRep z G (Itr lo k) (rngP lo k) := fun G2 H2 n2 i sg ok2 => by
  refine ⟨fun hl => by rw [rngP_len] at hl; exact hl, fun q hq => ?_⟩
  obtain ⟨h1, rfl⟩ := rngP_get hq
  refine ⟨h1, fun x H3 hx => ?_⟩
  obtain ⟨rfl, rfl⟩ := hx
  exact ⟨G2, ok2, Step.refl _ _ _, .int _⟩
def mRng1 (r : PEnv → M (List PV)) : PEnv → M (List PV) := fun env W n Q => r env W n fun xs n1 => match xs with
  | [.int j] => -(2 ^ 62) ≤ j ∧ j < 2 ^ 62 ∧ Q (rngP 0 j.toNat) n1
  | _ => False
def mRng2 (r : PEnv → M (List PV)) : PEnv → M (List PV) := fun env W n Q => r env W n fun xs n1 => match xs with
  | [.int i, .int j] => (-(2 ^ 62) ≤ i ∧ i < 2 ^ 62 ∧ -(2 ^ 62) ≤ j ∧ j < 2 ^ 62) ∧ Q (rngP i (j - i).toNat) n1
  | _ => False
theorem sim_iRng1 {ta : TA} {m : PEnv → M (List PV)} (h : SimA z ta m) : SimI z (iRng1 ta) (mRng1 m) := by
  intro σ env G H n Qp Q ok fr er hm hq
  refine h.bind ok fr er hm fun x px G1 H1 n1 ok1 fr1 er1 s1 r1 hm1 => ?_
  split at hm1
  · cases r1 with
    | cons ra rb =>
      cases rb
      cases ra
      exact ⟨_, rfl, hm1.1, hm1.2.1, (hq.step s1).here ok1 rng_rep hm1.2.2⟩
  · exact hm1.elim
theorem sim_iRng2 {ta : TA} {m : PEnv → M (List PV)} (h : SimA z ta m) : SimI z (iRng2 ta) (mRng2 m) := by
  intro σ env G H n Qp Q ok fr er hm hq
  refine h.bind ok fr er hm fun x px G1 H1 n1 ok1 fr1 er1 s1 r1 hm1 => ?_
  split at hm1
  · cases r1 with
    | cons ra rb =>
      cases rb with
      | cons rc rd =>
        cases rd
        cases ra
        cases rc
        exact ⟨_, _, rfl, hm1.1, (hq.step s1).here ok1 rng_rep hm1.2⟩
  · exact hm1.elim
theorem qfn0 {CX : CXT} {P : Program} {w : World} {K : PySem.W.Frag} {mg : Str → Option Value} {base : Heap} {x qual : Str} {st : Stmt} {f : Addr} {fd : FuncData} {N ps : List Str} {k : Nat} {cm : Md} {b : MS} (hN : ps.length ≤ N.length)
    (F : Ev.Fn K x qual st f fd) (S : FnScope N ps (C8.fnScope st))
    (hb : ∀ (cdv : Value) (A : Around) (outer : List Env) (s : Shared) (H : Hp) (E : XK), (A.deeper (envOfC qual (C8.fnScope st) s.heap.objs.size f cdv)).guards = some [] → Room k (A.deeper (envOfC qual (C8.fnScope st) s.heap.objs.size f cdv)) →
      ∃ t, PSs (cxOf CX P w K mg base N qual (C8.fnScope st) f cdv A outer s H E).nox (C8.fnBody st) t ∧ ∀ z : Z, z.K = K → z.cm = cm → z.W = (fun _ => W0) → SimS z t b) :
    Ev.GOk P w K mg base CX (k + 1) f fd ps (spP K cm ps.length (mFn0 N.length b)) := by
  refine Ev.gfn0 F S (fun vs H Q E h => ?_) (fun cdv A outer s H vs Q E hgd hr h => ?_)
  · obtain ⟨_, _, _, _, _, _, _, hl, _⟩ := h
    exact hl
  · obtain ⟨p, c, G, n, args, Wp, Qp, hl, ok, rl, hm, hq, _⟩ := h
    obtain ⟨t, ht, hs⟩ := hb cdv A outer s H E hgd hr
    refine ⟨t, ht, ?_⟩
    refine hs ⟨K, cm, p, c, H, G, (· = p), fun _ => W0, G, p, p, p⟩ rfl rfl rfl (L2.start N vs) (startP N.length args) G H n _ _ ok ⟨Step.refl _ _ _, rfl, Same.refl _⟩ (envStart rl (by rw [hl]; exact hN)) hm ⟨fun σ env G' H' n' _ ok' fr' er' h' => ?_, fun v q G' H' n' _ ok' fr' r' h' => ?_, fun _ _ _ _ _ _ _ _ _ h' => h', fun _ _ _ _ _ _ _ _ _ h' => h'⟩
    · exact hq .non .non G' H' n' ok' fr'.st .non h'
    · exact hq v q G' H' n' ok' fr'.st r' h'
theorem qinit0 {CX : CXT} {P : Program} {w : World} {K : PySem.W.Frag} {mg : Str → Option Value} {base : Heap} {x qual : Str} {st : Stmt} {f : Addr} {fd : FuncData} {N ps : List Str} {k : Nat} {cm : Md} {b : MS} (hN : ps.length ≤ N.length)
    (F : Ev.Fn K x qual st f fd) (S : FnScope N ps (C8.fnScope st))
    (hb : ∀ (cdv : Value) (A : Around) (outer : List Env) (s : Shared) (H : Hp) (E : XK), (A.deeper (envOfC qual (C8.fnScope st) s.heap.objs.size f cdv)).guards = some [] → Room k (A.deeper (envOfC qual (C8.fnScope st) s.heap.objs.size f cdv)) →
      ∃ t, PSs (cxOf CX P w K mg base N qual (C8.fnScope st) f cdv A outer s H E).nox (C8.fnBody st) t ∧ ∀ z : Z, z.K = K → z.cm = cm → z.W = (fun _ => W0) → SimS z t b) :
    Ev.GOk P w K mg base CX (k + 1) f fd ps (spI K cm ps.length (mInit0 N.length b)) := by
  refine Ev.gfn0 F S (fun vs H Q E h => ?_) (fun cdv A outer s H vs Q E hgd hr h => ?_)
  · obtain ⟨_, _, _, _, _, _, _, _, us, _, _, _, _, _, rfl, hl, _⟩ := h
    exact hl
  · obtain ⟨p, c, G, n, cn, C, x, dx, us, vf, fs, args, Wp, Qp, rfl, hl, ok, hc, hx, gx, nxp, nxc, rf, rl, hm, hq, _⟩ := h
    obtain ⟨t, ht, hs⟩ := hb cdv A outer s H E hgd hr
    refine ⟨t, ht, ?_⟩
    have es : L2.start N (V.ref x :: us) = some (.ref x) :: (us.map some ++ List.replicate (N.length - 1 - us.length) none) := by
      simp [L2.start]
      omega
    rw [es]
    have er := envStart (z := ⟨K, cm, p, c, H, G, fun b => b = p ∨ b = x, fun _ => W0, G, x, C, dx⟩) (H := H) (k := N.length - 1) rl (by omega)
    refine hs ⟨K, cm, p, c, H, G, fun b => b = p ∨ b = x, fun _ => W0, G, x, C, dx⟩ rfl rfl rfl _ (.obj cn fs :: startP (N.length - 1) args) G H n _ _ ok ⟨Step.refl _ _ _, .inl rfl, Same.refl _⟩ ⟨fun i s h => ?_, fun i j s s' a nij hi hj os os' _ _ => ?_, by simp [er.len]⟩ hm ⟨fun σ env G' H' n' _ ok' fr' er' h' => ?_, fun _ _ _ _ _ _ _ _ _ h' => h'.elim, fun _ _ _ _ _ _ _ _ _ h' => h', fun _ _ _ _ _ _ _ _ _ h' => h'⟩
    · cases i with
      | zero =>
        cases h
        exact ⟨_, rfl, x, C, dx, vf, rfl, hc, hx, ⟨gx, nxp, nxc, .inr (.inr rfl)⟩, rf, rfl, rfl, rfl⟩
      | succ i => exact er.at_ i s h
    · have key : ∀ (l : Nat) (u : Slot), (Slot.obj cn fs :: startP (N.length - 1) args)[l]? = some u → u.isOwn = true → l = 0 := fun l u hl ou => by
        cases l with
        | zero => rfl
        | succ l =>
          have := startP_own (show (startP (N.length - 1) args)[l]? = some u from hl)
          rw [this] at ou
          cases ou
      exact nij ((key i s hi os).trans (key j s' hj os').symm)
    · have h' : initEnd Qp env n' := h'
      unfold initEnd at h'
      split at h'
      · rename_i fs' rest _
        obtain ⟨_, _, a, C', dx', vf', _, hc', hh, mine, rf', rfl, rfl, rfl⟩ := er'.at_ 0 _ rfl
        exact hq vf' fs' G' H' n' ok' fr'.st hh mine.g rf' h'
      · exact h'.elim
end
end Pu
namespace Pu
open PySem PySem.Spec PyProof.Rows L2
mutual
def PV.data : PV → Option PyData
  | .non => some .none
  | .bl b => some (.bool b)
  | .int i => some (.int i)
  | .str s => some (.str s)
  | .lst xs => (datas xs).map .list
  | .tup xs => (datas xs).map .tuple
  | _ => none
def datas : List PV → Option (List PyData)
  | [] => some []
  | x :: xs => match x.data, datas xs with
    | some d, some ds => some (d :: ds)
    | _, _ => none
end
mutual
theorem dp_of {K : PySem.W.Frag} {cm : Md} {p : Addr} {G H : Hp} (s : Same G H) : ∀ {v : V} {q : PV} {d : PyData}, Rep K cm p G v q → q.data = some d → Dp K H v d
  | _, _, _, .non, e => by cases e; exact .non
  | _, _, _, .bl b, e => by cases e; exact .bl b
  | _, _, _, .int b, e => by cases e; exact .int b
  | _, _, _, .str b, e => by cases e; exact .str b
  | _, .lst xs, _, .lst h r, e => by
    simp only [PV.data] at e
    obtain ⟨ds, hd, rfl⟩ := Option.map_eq_some_iff.mp e
    exact .lst (SqL.of (s _ _ h)) (dpa_of s r hd)
  | _, .tup xs, _, .tup h r, e => by
    simp only [PV.data] at e
    obtain ⟨ds, hd, rfl⟩ := Option.map_eq_some_iff.mp e
    exact .tup (Ev.Same.seqT s h) (dpa_of s r hd)
  | _, _, _, .ins _ _ _, e => by cases e
  | _, _, _, .pen, e => by cases e
  | _, _, _, .ext _, e => by cases e
theorem dpa_of {K : PySem.W.Frag} {cm : Md} {p : Addr} {G H : Hp} (s : Same G H) : ∀ {v : List V} {q : List PV} {d : List PyData}, RepL K cm p G v q → datas q = some d → DpAll K H v d
  | _, _, _, .nil, e => by cases e; exact .nil
  | _, x :: xs, _, .cons r t, e => by
    simp only [datas] at e
    split at e
    · rename_i d ds h1 h2
      cases e
      exact .cons (dp_of s r h1) (dpa_of s t h2)
    · cases e
end
def pEqD : PV → PV → M PV := fun x y _ n Q => match x.data, y.data with
  | some d, some e => SeqAt.shaped d = true ∧ SeqAt.shaped e = true ∧ Q (.bl (PyData.eqv d e)) n
  | _, _ => False
def pNeD : PV → PV → M PV := fun x y _ n Q => match x.data, y.data with
  | some d, some e => SeqAt.shaped d = true ∧ SeqAt.shaped e = true ∧ Q (.bl (!PyData.eqv d e)) n
  | _, _ => False
def pRepr : List PV → M PV := fun xs _ n Q => match xs with
  | [x] => match x.data with
    | some d => Ev.Shows d ∧ Q (.str d.shown) n
    | none => False
  | _ => False
def toInts : List PV → Option (List Int)
  | [] => some []
  | .int i :: xs => (toInts xs).map (i :: ·)
  | _ => none
def toBools : List PV → Option (List Bool)
  | [] => some []
  | .bl i :: xs => (toBools xs).map (i :: ·)
  | _ => none
theorem ints_of {K : PySem.W.Frag} {cm : Md} {p : Addr} {G : Hp} : ∀ {v : List V} {q : List PV} {ns : List Int}, RepL K cm p G v q → toInts q = some ns → v = ns.map V.int
  | _, _, _, .nil, e => by cases e; rfl
  | _, .int i :: xs, _, .cons r t, e => by
    simp only [toInts] at e
    obtain ⟨ms, hm, rfl⟩ := Option.map_eq_some_iff.mp e
    cases r
    rw [ints_of t hm]
    rfl
  | _, .non :: _, _, .cons _ _, e => by simp [toInts] at e
  | _, .bl _ :: _, _, .cons _ _, e => by simp [toInts] at e
  | _, .str _ :: _, _, .cons _ _, e => by simp [toInts] at e
  | _, .lst _ :: _, _, .cons _ _, e => by simp [toInts] at e
  | _, .tup _ :: _, _, .cons _ _, e => by simp [toInts] at e
  | _, .ins _ _ :: _, _, .cons _ _, e => by simp [toInts] at e
  | _, .pen :: _, _, .cons _ _, e => by simp [toInts] at e
  | _, .ext _ :: _, _, .cons _ _, e => by simp [toInts] at e
theorem bools_of {K : PySem.W.Frag} {cm : Md} {p : Addr} {G : Hp} : ∀ {v : List V} {q : List PV} {ns : List Bool}, RepL K cm p G v q → toBools q = some ns → v = ns.map V.bl
  | _, _, _, .nil, e => by cases e; rfl
  | _, .bl i :: xs, _, .cons r t, e => by
    simp only [toBools] at e
    obtain ⟨ms, hm, rfl⟩ := Option.map_eq_some_iff.mp e
    cases r
    rw [bools_of t hm]
    rfl
  | _, .non :: _, _, .cons _ _, e => by simp [toBools] at e
  | _, .int _ :: _, _, .cons _ _, e => by simp [toBools] at e
  | _, .str _ :: _, _, .cons _ _, e => by simp [toBools] at e
  | _, .lst _ :: _, _, .cons _ _, e => by simp [toBools] at e
  | _, .tup _ :: _, _, .cons _ _, e => by simp [toBools] at e
  | _, .ins _ _ :: _, _, .cons _ _, e => by simp [toBools] at e
  | _, .pen :: _, _, .cons _ _, e => by simp [toBools] at e
  | _, .ext _ :: _, _, .cons _ _, e => by simp [toBools] at e
def pIxL : PV → PV → M PV := fun x y _ n Q => match x, y with
  | .lst xs, .int i => match atI xs i with
    | some v => Q v n
    | none => False
  | _, _ => False
def pIxT : PV → PV → M PV := fun x y _ n Q => match x, y with
  | .tup xs, .int i => match atI xs i with
    | some v => Q v n
    | none => False
  | _, _ => False
def pIxS : PV → PV → M PV := fun x y _ n Q => match x, y with
  | .str s, .int i => s.length ≤ 1000000 ∧ match atI s.cps.toList i with
    | some c => Q (.str ⟨#[c]⟩) n
    | none => False
  | _, _ => False
def pLen : List PV → M PV := fun xs _ n Q => match xs with
  | [.lst ys] => Q (.int ys.length) n
  | [.tup ys] => Q (.int ys.length) n
  | _ => False
def pLenS : List PV → M PV := fun xs _ n Q => match xs with
  | [.str s] => s.length ≤ 1000000 ∧ Q (.int s.length) n
  | _ => False
def pAbs : List PV → M PV := fun xs _ n Q => match xs with
  | [.int i] => Q (.int (if i < 0 then -i else i)) n
  | _ => False
def pMax2 : List PV → M PV := fun xs _ n Q => match xs with
  | [.int i, .int j] => Q (.int (if j > i then j else i)) n
  | _ => False
def pMin2 : List PV → M PV := fun xs _ n Q => match xs with
  | [.int i, .int j] => Q (.int (if j < i then j else i)) n
  | _ => False
def pInt1 : List PV → M PV := fun xs _ n Q => match xs with
  | [.int i] => Q (.int i) n
  | [.bl b] => Q (.int (if b then 1 else 0)) n
  | _ => False
def pBool1 : List PV → M PV := fun xs _ n Q => match xs with
  | [.int i] => Q (.bl (i != 0)) n
  | [.bl b] => Q (.bl b) n
  | _ => False
def pStr1 : List PV → M PV := fun xs _ n Q => match xs with
  | [.int i] => i.natAbs.log2 < 1920 ∧ Q (.str (toString i)) n
  | _ => False
def pSum : List PV → M PV := fun xs _ n Q => match xs with
  | [.lst ys] => match toInts ys with
    | some ns => Q (.int ns.sum) n
    | none => False
  | _ => False
def pMaxL : List PV → M PV := fun xs _ n Q => match xs with
  | [.lst ys] => match toInts ys with
    | some ns => 0 < ns.length ∧ ∀ m, m ∈ ns → (∀ y, y ∈ ns → y ≤ m) → Q (.int m) n
    | none => False
  | _ => False
def pMinL : List PV → M PV := fun xs _ n Q => match xs with
  | [.lst ys] => match toInts ys with
    | some ns => 0 < ns.length ∧ ∀ m, m ∈ ns → (∀ y, y ∈ ns → m ≤ y) → Q (.int m) n
    | none => False
  | _ => False
def pAll : List PV → M PV := fun xs _ n Q => match xs with
  | [.lst ys] => match toBools ys with
    | some ns => Q (.bl (ns.all id)) n
    | none => False
  | _ => False
def pAny : List PV → M PV := fun xs _ n Q => match xs with
  | [.lst ys] => match toBools ys with
    | some ns => Q (.bl (ns.any id)) n
    | none => False
  | _ => False
def pTuple : List PV → M PV := fun xs _ n Q => match xs with
  | [.lst ys] => Q (.tup ys) n
  | [.tup ys] => Q (.tup ys) n
  | _ => False
def pList : List PV → M PV := fun xs _ n Q => match xs with
  | [.lst ys] => Q (.lst ys) n
  | [.tup ys] => Q (.lst ys) n
  | _ => False
section
variable {z : Z}
theorem simR_eqD : SimR z (rEqD z.K) pEqD := by
  intro σ env G H n Qp Q x y px py ok fr er rx ry hm hq
  unfold pEqD at hm
  split at hm
  · rename_i d e hd he
    exact ⟨d, e, dp_of ok.sub rx hd, dp_of ok.sub ry he, hm.1, hm.2.1, hq.here ok (.bl _) hm.2.2⟩
  · exact hm.elim
theorem simR_neD : SimR z (rNeD z.K) pNeD := by
  intro σ env G H n Qp Q x y px py ok fr er rx ry hm hq
  unfold pNeD at hm
  split at hm
  · rename_i d e hd he
    exact ⟨d, e, dp_of ok.sub rx hd, dp_of ok.sub ry he, hm.1, hm.2.1, hq.here ok (.bl _) hm.2.2⟩
  · exact hm.elim
theorem simC_repr : SimC z (Ev.rRepr z.K) pRepr := by
  intro σ env G H n Qp Q xs ps ok fr er rl hm hq
  unfold pRepr at hm
  split at hm
  · split at hm
    · rename_i d hd
      cases rl with
      | cons r t =>
        cases t
        exact ⟨_, d, rfl, dp_of ok.sub r hd, hm.1, hq.here ok (.str _) hm.2⟩
    · exact hm.elim
  · exact hm.elim
theorem at_rep {G : Hp} {vs : List V} {ps : List PV} {i : Int} {q : PV} (rl : z.repL G vs ps) (h : atI ps i = some q) : ∃ v, atI vs i = some v ∧ z.rep G v q := by
  unfold atI at h ⊢
  rw [rl.len]
  obtain ⟨j, hj, hq⟩ := Option.bind_eq_some_iff.mp h
  obtain ⟨v, hv, rv⟩ := rl.get hq
  exact ⟨v, by rw [hj]; exact hv, rv⟩
theorem simR_ixL : SimR z (rIxL z.K) pIxL := by
  intro σ env G H n Qp Q x y px py ok fr er rx ry hm hq
  cases rx <;> try exact hm.elim
  cases ry <;> try exact hm.elim
  rename_i a vs ps hs rl i
  unfold pIxL at hm
  simp only at hm
  split at hm
  · rename_i v hv
    obtain ⟨w, hw, rw⟩ := at_rep rl hv
    exact ⟨a, vs, i, w, rfl, rfl, SqL.of (ok.sub _ _ hs), hw, hq.here ok rw hm⟩
  · exact hm.elim
theorem simR_ixT : SimR z (rIxT z.K) pIxT := by
  intro σ env G H n Qp Q x y px py ok fr er rx ry hm hq
  cases rx <;> try exact hm.elim
  cases ry <;> try exact hm.elim
  rename_i a vs ps hs rl i
  unfold pIxT at hm
  simp only at hm
  split at hm
  · rename_i v hv
    obtain ⟨w, hw, rw⟩ := at_rep rl hv
    exact ⟨a, vs, i, w, rfl, rfl, Ev.Same.seqT ok.sub hs, hw, hq.here ok rw hm⟩
  · exact hm.elim
theorem simR_ixS : SimR z rIxS pIxS := by
  intro σ env G H n Qp Q x y px py ok fr er rx ry hm hq
  cases rx <;> try exact hm.elim
  cases ry <;> try exact hm.elim
  rename_i s i
  unfold pIxS at hm
  simp only at hm
  obtain ⟨hl, hm⟩ := hm
  split at hm
  · rename_i c hc
    exact ⟨s, i, c, rfl, rfl, line_of hl, hc, hq.here ok (.str _) hm⟩
  · exact hm.elim
theorem simC_len : SimC z (fun xs H Q => ∃ p ys, xs = [.ref p] ∧ (SqL z.K H p ys ∨ SqT z.K H p ys) ∧ Q (.int ys.length) H) pLen := by
  intro σ env G H n Qp Q xs ps ok fr er rl hm hq
  unfold pLen at hm
  split at hm
  · cases rl with
    | cons r t =>
      cases t
      cases r with
      | lst hs rl => exact ⟨_, _, rfl, .inl (SqL.of (ok.sub _ _ hs)), hq.here ok (.int _) (by rw [rl.len]; exact hm)⟩
  · cases rl with
    | cons r t =>
      cases t
      cases r with
      | tup hs rl => exact ⟨_, _, rfl, .inr (Ev.Same.seqT ok.sub hs), hq.here ok (.int _) (by rw [rl.len]; exact hm)⟩
  · exact hm.elim
theorem simC_lenS : SimC z (fun xs H Q => ∃ s, xs = [.str s] ∧ s.length ≤ sizeLine ∧ Q (.int s.length) H) pLenS := by
  intro σ env G H n Qp Q xs ps ok fr er rl hm hq
  unfold pLenS at hm
  split at hm
  · cases rl with
    | cons r t =>
      cases t
      cases r
      exact ⟨_, rfl, line_of hm.1, hq.here ok (.int _) hm.2⟩
  · exact hm.elim
theorem simC_abs : SimC z (fun xs H Q => ∃ i, xs = [.int i] ∧ Q (.int (if i < 0 then -i else i)) H) pAbs := by
  intro σ env G H n Qp Q xs ps ok fr er rl hm hq
  unfold pAbs at hm
  split at hm
  · cases rl with
    | cons r t =>
      cases t
      cases r
      exact ⟨_, rfl, hq.here ok (.int _) hm⟩
  · exact hm.elim
theorem simC_max2 : SimC z (fun xs H Q => ∃ i j, xs = [.int i, .int j] ∧ Q (.int (if j > i then j else i)) H) pMax2 := by
  intro σ env G H n Qp Q xs ps ok fr er rl hm hq
  unfold pMax2 at hm
  split at hm
  · cases rl with
    | cons r t =>
      cases t with
      | cons r2 t =>
        cases t
        cases r
        cases r2
        exact ⟨_, _, rfl, hq.here ok (.int _) hm⟩
  · exact hm.elim
theorem simC_min2 : SimC z (fun xs H Q => ∃ i j, xs = [.int i, .int j] ∧ Q (.int (if j < i then j else i)) H) pMin2 := by
  intro σ env G H n Qp Q xs ps ok fr er rl hm hq
  unfold pMin2 at hm
  split at hm
  · cases rl with
    | cons r t =>
      cases t with
      | cons r2 t =>
        cases t
        cases r
        cases r2
        exact ⟨_, _, rfl, hq.here ok (.int _) hm⟩
  · exact hm.elim
theorem simC_int1 : SimC z (fun xs H Q => (∃ i, xs = [.int i] ∧ Q (.int i) H) ∨ ∃ k, xs = [.bl k] ∧ Q (.int (if k then 1 else 0)) H) pInt1 := by
  intro σ env G H n Qp Q xs ps ok fr er rl hm hq
  unfold pInt1 at hm
  split at hm
  · cases rl with
    | cons r t =>
      cases t
      cases r
      exact .inl ⟨_, rfl, hq.here ok (.int _) hm⟩
  · cases rl with
    | cons r t =>
      cases t
      cases r
      exact .inr ⟨_, rfl, hq.here ok (.int _) hm⟩
  · exact hm.elim
theorem simC_bool1 : SimC z (fun xs H Q => (∃ i, xs = [.int i] ∧ Q (.bl (i != 0)) H) ∨ ∃ k, xs = [.bl k] ∧ Q (.bl k) H) pBool1 := by
  intro σ env G H n Qp Q xs ps ok fr er rl hm hq
  unfold pBool1 at hm
  split at hm
  · cases rl with
    | cons r t =>
      cases t
      cases r
      exact .inl ⟨_, rfl, hq.here ok (.bl _) hm⟩
  · cases rl with
    | cons r t =>
      cases t
      cases r
      exact .inr ⟨_, rfl, hq.here ok (.bl _) hm⟩
  · exact hm.elim
theorem simC_str1 : SimC z (fun xs H Q => ∃ i : Int, xs = [.int i] ∧ i.natAbs.log2 < 1920 ∧ Q (.str (toString i)) H) pStr1 := by
  intro σ env G H n Qp Q xs ps ok fr er rl hm hq
  unfold pStr1 at hm
  split at hm
  · cases rl with
    | cons r t =>
      cases t
      cases r
      exact ⟨_, rfl, hm.1, hq.here ok (.str _) hm.2⟩
  · exact hm.elim
theorem simC_sum : SimC z (rSum z.K) pSum := by
  intro σ env G H n Qp Q xs ps ok fr er rl hm hq
  unfold pSum at hm
  split at hm
  · cases rl with
    | cons r t =>
      cases t
      cases r with
      | lst hs rl =>
        split at hm
        · rename_i ns hn
          have e := ints_of rl hn
          subst e
          exact ⟨_, ns, rfl, SqL.of (ok.sub _ _ hs), hq.here ok (.int _) hm⟩
        · exact hm.elim
  · exact hm.elim
theorem simC_maxL : SimC z (rMax z.K) pMaxL := by
  intro σ env G H n Qp Q xs ps ok fr er rl hm hq
  unfold pMaxL at hm
  split at hm
  · cases rl with
    | cons r t =>
      cases t
      cases r with
      | lst hs rl =>
        split at hm
        · rename_i ns hn
          have e := ints_of rl hn
          subst e
          exact ⟨_, ns, rfl, SqL.of (ok.sub _ _ hs), hm.1, fun m h1 h2 => hq.here ok (.int _) (hm.2 m h1 h2)⟩
        · exact hm.elim
  · exact hm.elim
theorem simC_minL : SimC z (rMin z.K) pMinL := by
  intro σ env G H n Qp Q xs ps ok fr er rl hm hq
  unfold pMinL at hm
  split at hm
  · cases rl with
    | cons r t =>
      cases t
      cases r with
      | lst hs rl =>
        split at hm
        · rename_i ns hn
          have e := ints_of rl hn
          subst e
          exact ⟨_, ns, rfl, SqL.of (ok.sub _ _ hs), hm.1, fun m h1 h2 => hq.here ok (.int _) (hm.2 m h1 h2)⟩
        · exact hm.elim
  · exact hm.elim
theorem simC_all : SimC z (rAll z.K) pAll := by
  intro σ env G H n Qp Q xs ps ok fr er rl hm hq
  unfold pAll at hm
  split at hm
  · cases rl with
    | cons r t =>
      cases t
      cases r with
      | lst hs rl =>
        split at hm
        · rename_i ns hn
          have e := bools_of rl hn
          subst e
          exact ⟨_, ns, rfl, SqL.of (ok.sub _ _ hs), hq.here ok (.bl _) hm⟩
        · exact hm.elim
  · exact hm.elim
theorem simC_any : SimC z (rAny z.K) pAny := by
  intro σ env G H n Qp Q xs ps ok fr er rl hm hq
  unfold pAny at hm
  split at hm
  · cases rl with
    | cons r t =>
      cases t
      cases r with
      | lst hs rl =>
        split at hm
        · rename_i ns hn
          have e := bools_of rl hn
          subst e
          exact ⟨_, ns, rfl, SqL.of (ok.sub _ _ hs), hq.here ok (.bl _) hm⟩
        · exact hm.elim
  · exact hm.elim
theorem simC_tuple : SimC z (fun xs H Q => ∃ p ys, xs = [.ref p] ∧ ((SqL z.K H p ys ∧ ∀ l, H l = none → Q (.ref l) (upd H l (.tup ys))) ∨ (SqT z.K H p ys ∧ Q (.ref p) H))) pTuple := by
  intro σ env G H n Qp Q xs ps ok fr er rl hm hq
  unfold pTuple at hm
  split at hm
  · cases rl with
    | cons r t =>
      cases t
      cases r with
      | lst hs rl =>
        refine ⟨_, _, rfl, .inl ⟨SqL.of (ok.sub _ _ hs), fun l hl => ?_⟩⟩
        obtain ⟨ok2, s2⟩ := ok.new (o := .tup _) hl nt_tup
        exact (hq.step s2).here ok2 (.tup (SqT.of upd_same) (rl.mono s2.same)) hm
  · cases rl with
    | cons r t =>
      cases t
      cases r with
      | tup hs rl => exact ⟨_, _, rfl, .inr ⟨Ev.Same.seqT ok.sub hs, hq.here ok (.tup hs rl) hm⟩⟩
  · exact hm.elim
theorem simC_list : SimC z (fun xs H Q => ∃ p ys, xs = [.ref p] ∧ (SqL z.K H p ys ∨ SqT z.K H p ys) ∧ ∀ l, H l = none → Q (.ref l) (upd H l (.lst ys))) pList := by
  intro σ env G H n Qp Q xs ps ok fr er rl hm hq
  unfold pList at hm
  split at hm
  · cases rl with
    | cons r t =>
      cases t
      cases r with
      | lst hs rl =>
        refine ⟨_, _, rfl, .inl (SqL.of (ok.sub _ _ hs)), fun l hl => ?_⟩
        obtain ⟨ok2, s2⟩ := ok.new (o := .lst _) hl nt_lst
        exact (hq.step s2).here ok2 (.lst upd_same (rl.mono s2.same)) hm
  · cases rl with
    | cons r t =>
      cases t
      cases r with
      | tup hs rl =>
        refine ⟨_, _, rfl, .inr (Ev.Same.seqT ok.sub hs), fun l hl => ?_⟩
        obtain ⟨ok2, s2⟩ := ok.new (o := .lst _) hl nt_lst
        exact (hq.step s2).here ok2 (.lst upd_same (rl.mono s2.same)) hm
  · exact hm.elim
end
end Pu
namespace Pu
open PySem PySem.Spec PyProof.Rows L2
def pickS {α : Type} (d : α) (ls : List (List α)) (spec : List (Nat × Nat)) : List α := spec.map fun s => (ls.getD s.1 []).getD s.2 d
def pk (dvs ms : List V) (spec : List (Nat × Nat)) : List V → List V → List V := fun vs zs => pickS .non [vs, dvs, ms, zs] spec
def pkS (dvs ms : List V) (spec : List (Nat × Nat)) : List V → List V → List V := fun vs zs => match vs with
  | x :: vs => x :: pickS .non [vs, dvs, ms, zs] spec
  | [] => []
def pkP (dvs ms : List PV) (spec : List (Nat × Nat)) : List PV → List PV → List PV := fun vs zs => pickS .non [vs, dvs, ms, zs] spec
theorem getD_vals {vs : List V} {us : List Value} (h : Vals vs us) (i : Nat) : RelV (vs.getD i .non) (us.getD i .none) := by
  rw [List.getD_eq_getElem?_getD, List.getD_eq_getElem?_getD]
  cases e : vs[i]? with
  | none =>
    rw [h.none_of e]
    rfl
  | some x =>
    obtain ⟨u, hu, r⟩ := h.get e
    rw [hu]
    exact r
theorem pick_vals {a b c d : List V} {a' b' c' d' : List Value} (ha : Vals a a') (hb : Vals b b') (hc : Vals c c') (hd : Vals d d') : ∀ spec : List (Nat × Nat), Vals (pickS .non [a, b, c, d] spec) (pickS .none [a', b', c', d'] spec)
  | [] => .nil
  | (i, j) :: s => by
    refine .cons ?_ (pick_vals ha hb hc hd s)
    match i with
    | 0 => exact getD_vals ha j
    | 1 => exact getD_vals hb j
    | 2 => exact getD_vals hc j
    | 3 => exact getD_vals hd j
    | _ + 4 => exact getD_vals .nil j
theorem getD_rep {z : Z} {G : Hp} {vs : List V} {us : List PV} (h : z.repL G vs us) (i : Nat) : z.rep G (vs.getD i .non) (us.getD i .non) := by
  rw [List.getD_eq_getElem?_getD, List.getD_eq_getElem?_getD]
  cases e : us[i]? with
  | none =>
    have : vs[i]? = none := by
      rw [List.getElem?_eq_none_iff] at e ⊢
      rw [h.len]
      exact e
    rw [this]
    exact .non
  | some x =>
    obtain ⟨u, hu, r⟩ := h.get e
    rw [hu]
    exact r
theorem pick_rep {z : Z} {G : Hp} {a b c d : List V} {a' b' c' d' : List PV} (ha : z.repL G a a') (hb : z.repL G b b') (hc : z.repL G c c') (hd : z.repL G d d') : ∀ spec : List (Nat × Nat), z.repL G (pickS .non [a, b, c, d] spec) (pickS .non [a', b', c', d'] spec)
  | [] => .nil
  | (i, j) :: s => by
    refine .cons ?_ (pick_rep ha hb hc hd s)
    match i with
    | 0 => exact getD_rep ha j
    | 1 => exact getD_rep hb j
    | 2 => exact getD_rep hc j
    | 3 => exact getD_rep hd j
    | _ + 4 => exact getD_rep .nil j
theorem pk_rep {z : Z} {n l : Nat} {dvs ms : List V} {dps mps : List PV} {spec : List (Nat × Nat)} (hd : ∀ G, z.repL G dvs dps) (hm : ∀ G, z.repL G ms mps) : ∀ G vs ps zs qs, ps.length = n → qs.length = l → z.repL G vs ps → z.repL G zs qs → z.repL G (pk dvs ms spec vs zs) (pkP dps mps spec ps qs) :=
  fun G _ _ _ _ _ _ h1 h2 => pick_rep h1 (hd G) (hm G) h2 spec
theorem pkS_rep {z : Z} {n l : Nat} {dvs ms : List V} {dps mps : List PV} {spec : List (Nat × Nat)} (hd : ∀ G, z.repL G dvs dps) (hm : ∀ G, z.repL G ms mps) : ∀ G x vs ps zs qs, ps.length = n → qs.length = l → z.repL G vs ps → z.repL G zs qs → ∃ us, pkS dvs ms spec (.ref x :: vs) zs = .ref x :: us ∧ z.repL G us (pkP dps mps spec ps qs) :=
  fun G _ _ _ _ _ _ _ h1 h2 => ⟨_, rfl, pick_rep h1 (hd G) (hm G) h2 spec⟩
section
variable {K : PySem.W.Frag} {x qual : Str} {params : Arguments} {body : List Stmt} {scope : Scope} {dvs : List V} {kws : List (Str × V)} {f : Addr} {fd : FuncData} {ps : List Str} {n : Nat} {ks : List Str}
theorem kb_00 (spec : List (Nat × Nat)) (h : ∀ us ws : List Value, us.length = n → ws.length = ks.length → bindArgs fd ⟨us, ks.zip ws⟩ = pure (ps.zip (pickS .none [us, [], [], ws] spec))) :
    KBn K fd ps n ks (fun us ws => pickS .none [us, [], [], ws] spec) (pk [] [] spec) :=
  ⟨fun s us ws _ l1 l2 => .of_eq (h us ws l1 l2), fun r1 r2 => pick_vals r1 .nil .nil r2 spec⟩
def valS (dvs ms : List Value) (spec : List (Nat × Nat)) : List Value → List Value → List Value := fun us ws => match us with
  | x :: us => x :: pickS .none [us, dvs, ms, ws] spec
  | [] => []
theorem pkS_vals {dvs ms : List V} {dvs' ms' : List Value} {spec : List (Nat × Nat)} (hd : Vals dvs dvs') (hm : Vals ms ms') {vs zs : List V} {us ws : List Value} (r1 : Vals vs us) (r2 : Vals zs ws) : Vals (pkS dvs ms spec vs zs) (valS dvs' ms' spec us ws) := by
  cases r1 with
  | nil => exact .nil
  | cons r t => exact .cons r (pick_vals t hd hm r2 spec)
theorem kbS_00 (spec : List (Nat × Nat)) (h : ∀ us ws : List Value, us.length = n → ws.length = ks.length → bindArgs fd ⟨us, ks.zip ws⟩ = pure (ps.zip (valS [] [] spec us ws))) :
    KBn K fd ps n ks (valS [] [] spec) (pkS [] [] spec) :=
  ⟨fun s us ws _ l1 l2 => .of_eq (h us ws l1 l2), fun r1 r2 => pkS_vals .nil .nil r1 r2⟩
theorem kbS_DK (F : FunD K x qual params body scope dvs kws f fd) (ms : List (Str × V)) (spec : List (Nat × Nat)) (hd : dvs ≠ []) (hk : kws ≠ []) (hms : ∀ q ∈ ms, q ∈ kws)
    (h : ∀ (T D : Addr) (doc pm : Value) (an : Option Addr) (cdv ct : Value) (us its mv ws : List Value), us.length = n → its.length = dvs.length → mv.length = ms.length → ws.length = ks.length →
      ∃ k, bindArgs (PySem.W.fnOf x qual params body scope (.ref T) (.ref D) doc pm an cdv ct) ⟨us, ks.zip ws⟩ = seqItems? (.ref T) >>= k ∧ KwChain D ((ms.map (·.1)).zip mv) (k (some its.toArray)) (ps.zip (valS its mv spec us ws))) :
    ∃ g, KBn K fd ps n ks g (pkS dvs (ms.map (·.2)) spec) := by
  obtain ⟨oc, od, dV, kV, doc, pm, an, cdv, ct, osl, rfl, lk, hcd, hD, hK⟩ := F.ex
  rcases hD with ⟨e, _⟩ | ⟨_, T, o, its, m, rfl, lT, oT, rT⟩
  · exact absurd e hd
  · rcases hK with e | ⟨D, rfl, hq⟩
    · exact absurd e hk
    · obtain ⟨mv, hl, rk, hks⟩ := kwd_vals (ms := ms) fun q hm => hq q (hms q hm)
      refine ⟨valS its mv spec, ⟨fun s us ws X l1 l2 => ?_, fun r1 r2 => pkS_vals rT rk r1 r2⟩⟩
      obtain ⟨k, e1, e2⟩ := h T D doc pm an cdv ct us its mv ws l1 rT.length.symm hl l2
      refine BindsTo.of_looks fun M => ?_
      rw [e1]
      exact looks_items X lT oT (KwChain.looks X hks e2)
end
section
variable {z : Z}
def mPeek (i : Nat) (m : PEnv → M PV) : PEnv → M PV := fun env W n Q => match env[i]? with
  | some (.own xs) => m (env.set i (.val (.lst xs))) W0 n fun q n1 => q.isAtom = true ∧ Q q n1
  | _ => m env W n Q
def mPeekT (i : Nat) (m : PEnv → M Bool) : PEnv → M Bool := fun env W n Q => match env[i]? with
  | some (.own xs) => m (env.set i (.val (.lst xs))) W0 n Q
  | _ => m env W n Q
theorem peek_core {α β : Type} {R : Hp → α → β → Prop} {t : L2.St → Hp → (α → Hp → Prop) → Prop} {m : PEnv → M β} {σ : L2.St} {env : PEnv} {G H : Hp} {n i : Nat} {xs : List PV} {Qp : β → Nat → Prop} {Q : α → Hp → Prop} (hz : z.W = fun _ => W0) (h : Sim z R t m) (ok : Ok z.cm z.p z.c G H n) (fr : Fr z G H) (er : EnvRel z G H σ env) (he : env[i]? = some (.own xs))
    (hm : m (env.set i (.val (.lst xs))) W0 n Qp) (hq : ∀ v q G' H' n', Ok z.cm z.p z.c G H' n' → Step (· = z.p) G H G H' → R G' v q → Qp q n' → Q v H') : t σ H Q := by
  obtain ⟨G', sg, ok', fr', er'⟩ := er.freeze ok fr he
  refine h σ _ G' H n Qp Q ok' fr' er' (by rw [hz]; exact hm) fun v q G2 H2 n2 ok2 st2 r2 hq2 => ?_
  exact hq v q G2 H2 n2 ⟨(sg.trans st2.same).trans ok2.sub, ok2.pen, ok.gp, ok.gc, ok2.tb, ok.gt⟩ ⟨Same.refl _, st2.keep, fun _ _ e _ => e, st2.al⟩ r2 hq2
theorem sim_peek {i : Nat} {t : TE} {m : PEnv → M PV} (hz : z.W = fun _ => W0) (h : SimE z t m) : SimE z t (mPeek i m) := by
  intro σ env G H n Qp Q ok fr er hm hq
  unfold mPeek at hm
  split at hm
  · rename_i xs he
    exact peek_core hz h ok fr er he hm fun v q G' H' n' ok' st' r' h' => hq v q G H' n' ok' st' (atom_rep h'.1 r') h'.2
  · exact h σ env G H n Qp Q ok fr er hm hq
theorem sim_peekT {i : Nat} {t : TT} {m : PEnv → M Bool} (hz : z.W = fun _ => W0) (h : SimT z t m) : SimT z t (mPeekT i m) := by
  intro σ env G H n Qp Q ok fr er hm hq
  unfold mPeekT at hm
  split at hm
  · rename_i xs he
    exact peek_core hz h ok fr er he hm fun v q G' H' n' ok' st' r' h' => hq v q G H' n' ok' st' r' h'
  · exact h σ env G H n Qp Q ok fr er hm hq
end
def PV.tyName : PV → Option String
  | .non => some "NoneType"
  | .bl _ => some "bool"
  | .int _ => some "int"
  | .str _ => some "str"
  | .lst _ => some "list"
  | .tup _ => some "tuple"
  | .dct _ => some "dict"
  | _ => none
def PV.isTy (T : String) : PV → Option Bool
  | .ins _ _ => some false
  | x => x.tyName.map fun t => t == T || (t == "bool" && T == "int")
def PV.isCls (sub : Str → Str → Bool) (d : Str) : PV → Option Bool
  | .ins c _ => some (sub c d)
  | x => x.tyName.map fun _ => false
def mIsiT (T : String) (a : PEnv → M PV) : PEnv → M PV := fun env W n Q => a env W n fun x n1 => match x.isTy T with
  | some b => Q (.bl b) n1
  | none => False
def mIsiT2 (T U : String) (a : PEnv → M PV) : PEnv → M PV := fun env W n Q => a env W n fun x n1 => match x.isTy T, x.isTy U with
  | some b, some c => Q (.bl (b || c)) n1
  | _, _ => False
def mIsiC (sub : Str → Str → Bool) (d : Str) (a : PEnv → M PV) : PEnv → M PV := fun env W n Q => a env W n fun x n1 => match x.isCls sub d with
  | some b => Q (.bl b) n1
  | none => False
def BTys : List String := ["NoneType", "bool", "int", "str", "list", "tuple", "dict"]
section
variable {z : Z}
theorem sql_tyx {K : PySem.W.Frag} {H : Hp} {a : Addr} {xs : List V} (h : SqL K H a xs) : TyX K H (.ref a) (.type "list") := Ev.sql_ty h
theorem tyx_of {G H : Hp} {x : V} {q : PV} {t : String} (s : Same G H) (r : z.rep G x q) (h : q.tyName = some t) : TyX z.K H x (.type t) := by
  cases r <;> simp [PV.tyName] at h <;> subst h
  · exact .base .non
  · exact .base (.bl _)
  · exact .base (.int _)
  · exact .base (.str _)
  · rename_i hs _
    exact Ev.sql_ty (SqL.of (s _ _ hs))
  · rename_i hs _
    exact Ev.sqt_ty (Ev.Same.seqT s hs)
  · rename_i hs _
    exact .base (.dK (s _ _ hs))
theorem isi_core (hk : ∀ c C, z.cm c = some C → Ev.CI z.K C ∧ ∀ T ∈ BTys, PySem.W.kitOne z.K (.ref C) (.type T) = some false) {G H : Hp} {x : V} {q : PV} {U : String} {c : Bool} (s : Same G H) (r : z.rep G x q) (hu : q.isTy U = some c) :
    ∃ t, TyX z.K H x t ∧ ∀ (T : String) (b : Bool), T ∈ BTys → q.isTy T = some b → PySem.W.kitOne z.K t (.type T) = some b := by
  have key : ∀ t : String, q.tyName = some t → (∀ T, q.isTy T = some (t == T || (t == "bool" && T == "int"))) → ∃ t, TyX z.K H x t ∧ ∀ (T : String) (b : Bool), T ∈ BTys → q.isTy T = some b → PySem.W.kitOne z.K t (.type T) = some b := fun t ht hb => by
    refine ⟨_, tyx_of s r ht, fun T b hT hq => ?_⟩
    rw [hb T] at hq
    cases hq
    have ht' : t ∈ BTys := by
      cases q <;> simp [PV.tyName] at ht <;> subst ht <;> decide
    simp only [BTys, List.mem_cons, List.not_mem_nil, or_false] at hT ht'
    rcases hT with rfl | rfl | rfl | rfl | rfl | rfl | rfl <;> rcases ht' with rfl | rfl | rfl | rfl | rfl | rfl | rfl <;> exact kit_ty (by decide +kernel)
  cases q with
  | ins c fs =>
    cases r with
    | ins hc hg rf =>
      obtain ⟨ci, k⟩ := hk _ _ hc
      refine ⟨_, ci.ty (s _ _ hg), fun T b hT hq => ?_⟩
      simp only [PV.isTy, Option.some.injEq] at hq
      subst hq
      exact k T hT
  | exc c fs => simp [PV.isTy, PV.tyName] at hu
  | pen => simp [PV.isTy, PV.tyName] at hu
  | ext v => simp [PV.isTy, PV.tyName] at hu
  | non => exact key _ rfl fun T => rfl
  | bl v => exact key _ rfl fun T => rfl
  | int v => exact key _ rfl fun T => rfl
  | str v => exact key _ rfl fun T => rfl
  | lst v => exact key _ rfl fun T => rfl
  | tup v => exact key _ rfl fun T => rfl
  | dct v => exact key _ rfl fun T => rfl
theorem sim_isiT {T : String} {ta : TE} {ma : PEnv → M PV} (hT : T ∈ BTys) (hk : ∀ c C, z.cm c = some C → Ev.CI z.K C ∧ ∀ T ∈ BTys, PySem.W.kitOne z.K (.ref C) (.type T) = some false) (ha : SimE z ta ma) : SimE z (tCB (rIsi z.K) (tCons ta (tCons (tC (.ty T)) tNil))) (mIsiT T ma) := by
  intro σ env G H n Qp Q ok fr er hm hq
  refine ha.bind ok fr er hm fun x px G1 H1 n1 ok1 fr1 er1 s1 r1 hm1 => ?_
  split at hm1
  · rename_i b hb
    obtain ⟨t, ty, kit⟩ := isi_core hk ok1.sub r1 hb
    exact ⟨x, .ty T, t, .type T, b, rfl, .ty _, ty, kit T b hT hb, (hq.step s1).here ok1 (.bl _) hm1⟩
  · exact hm1.elim
theorem sim_isiT2 {T U : String} {ta : TE} {ma : PEnv → M PV} (hT : T ∈ BTys) (hU : U ∈ BTys) (hk : ∀ c C, z.cm c = some C → Ev.CI z.K C ∧ ∀ T ∈ BTys, PySem.W.kitOne z.K (.ref C) (.type T) = some false) (ha : SimE z ta ma) :
    SimE z (tCB (rIsiT z.K) (tCons ta (tCons (tTup (tCons (tC (.ty T)) (tCons (tC (.ty U)) tNil))) tNil))) (mIsiT2 T U ma) := by
  intro σ env G H n Qp Q ok fr er hm hq
  refine ha.bind ok fr er hm fun x px G1 H1 n1 ok1 fr1 er1 s1 r1 hm1 => ?_
  split at hm1
  · rename_i b c hb hc
    refine ⟨by show 2 ≤ sizeLine; decide, fun q hq1 => ?_⟩
    obtain ⟨ok2, s2⟩ := ok1.newO (o := .tup [.ty T, .ty U]) hq1
    obtain ⟨t, ty, kit⟩ := isi_core hk ok2.sub r1 hb
    exact ⟨x, q, [.ty T, .ty U], t, [.type T, .type U], b || c, rfl, upd_same, .cons (.ty _) (.cons (.ty _) .nil), ty, Ev.kit_any2 (kit T b hT hb) (kit U c hU hc), ((hq.step s1).step s2).here ok2 (.bl _) hm1⟩
  · exact hm1.elim
theorem sim_isiC {sub : Str → Str → Bool} {d : Str} {D : Addr} {ta : TE} {ma : PEnv → M PV} (hd : z.cm d = some D) (hk : ∀ c C, z.cm c = some C → Ev.CI z.K C ∧ PySem.W.kitOne z.K (.ref C) (.ref D) = some (sub c d)) (ha : SimE z ta ma) : SimE z (tCB (rIsi z.K) (tCons ta (tCons (tC (.ref D)) tNil))) (mIsiC sub d ma) := by
  intro σ env G H n Qp Q ok fr er hm hq
  refine ha.bind ok fr er hm fun x px G1 H1 n1 ok1 fr1 er1 s1 r1 hm1 => ?_
  split at hm1
  · rename_i b hb
    have ciD := (hk d D hd).1
    have key : ∀ t : String, px.tyName = some t → b = false → Q (.bl b) H1 → rIsi z.K [x, .ref D] H1 Q := fun t ht e q => by
      subst e
      refine ⟨x, .ref D, .type t, .ref D, false, rfl, .own _, tyx_of ok1.sub r1 ht, Ev.kit_tyo ciD ?_, q⟩
      cases px <;> simp [PV.tyName] at ht <;> subst ht <;> decide +kernel
    have q := (hq.step s1).here ok1 (.bl b) hm1
    cases px with
    | ins c fs =>
      cases r1 with
      | ins hc hg rf =>
        simp only [PV.isCls, Option.some.injEq] at hb
        subst hb
        obtain ⟨ci, k⟩ := hk _ _ hc
        exact ⟨_, .ref D, _, .ref D, _, rfl, .own _, ci.ty (ok1.sub _ _ hg), k, q⟩
    | exc c fs => simp [PV.isCls, PV.tyName] at hb
    | pen => simp [PV.isCls, PV.tyName] at hb
    | ext v => simp [PV.isCls, PV.tyName] at hb
    | non => exact key _ rfl (by simpa [PV.isCls, PV.tyName] using hb.symm) q
    | bl v => exact key _ rfl (by simpa [PV.isCls, PV.tyName] using hb.symm) q
    | int v => exact key _ rfl (by simpa [PV.isCls, PV.tyName] using hb.symm) q
    | str v => exact key _ rfl (by simpa [PV.isCls, PV.tyName] using hb.symm) q
    | lst v => exact key _ rfl (by simpa [PV.isCls, PV.tyName] using hb.symm) q
    | tup v => exact key _ rfl (by simpa [PV.isCls, PV.tyName] using hb.symm) q
    | dct v => exact key _ rfl (by simpa [PV.isCls, PV.tyName] using hb.symm) q
  · exact hm1.elim
end
end Pu
namespace Ev
open PySem PySem.Spec PyProof.Rows L2
theorem bool_in {prog : Program} {w : World} (x : Value) : MeetsIn prog w (Builtin.«bool.__new__» ⟨[.type "bool", x], []⟩) (fun A R s => wpAny (model prog w) A.in1 (truthy x) (fun b s1 => R (.ok (.ret (.bool b))) s1) (fun e s1 => R (.error e) s1) s) :=
  .of_wp fun A R s h => by
    obtain ⟨hp, g, d, tk, os⟩ := s
    have f1 := F.conv_sub_bool
    repeat (any_goals (first | assumption | (with_reducible refine wpAny_mono h (fun b s1 hb => ?_) (fun e s1 he => ?_)) | wp_step))
    all_goals first | exact ⟨_, rfl, hb⟩ | exact hb | exact he | exact ⟨_, rfl, he⟩ | skip
section
variable {X : Cx} {CX : CXT} {k j : Nat} {f C : Addr} {sp : Sp} {E : XK}
theorem call_boolO (c : GM X.prog X.w X.K X.mg X.base k C "__bool__" sp []) (hgd : X.A.guards = some []) (hr : Room j X.A) (hk : k + 2 ≤ j) (hx : Passes (L2.CX X.prog X.w) X E) :
    CallR X (.type "bool") (fun xs H Q => ∃ x, xs = [x] ∧ rOwn1 C sp E (fun v => ∃ b : Bool, v = .bl b) x H Q) := by
  intro pins s σ H xs us Q I r h
  obtain ⟨x, rfl, a, dx, fs, rfl, ha, q⟩ := h
  obtain ⟨f, fd, ps, ds, cl, M, F, b, d⟩ := c.ex
  cases d
  cases r with
  | cons rx rn =>
    cases rn
    cases rx
    obtain ⟨ox, od, J, _⟩ := inst_at I ha
    obtain ⟨mm, hF⟩ := I.fr
    have hr2 : Room (k + 2) X.A := hr.mono hk
    refine callType_newIn PySem.F.called_bool PySem.F.newNe_bool (PySem.F.typeCall_bool_1 _) (PySem.F.newCall_bool_1 _) (fun obj => PySem.F.args_object_init_2 obj _) PySem.F.entry_bool_new (bool_in _) ?_
    refine PySem.W.truthy_K hF I.ok.mod.kin J M.at_ M.fn (wpAny_mono (run_gA (vs := [.ref a]) (us := [.ref a]) (dvs := []) F hgd hr2.in1.in1 rfl b .nil hx I (.cons rfl .nil) q) (fun w s' hw => ?_) fun _ _ z => z)
    obtain ⟨v', H', I', rv, ⟨bb, ev⟩, q'⟩ := hw
    subst ev
    cases rv
    exact ⟨rfl, .bl bb, H', I', rfl, q'⟩
end
end Ev
namespace Pu
open PySem PySem.Spec PyProof.Rows L2
def pOwnC (cn : Str) (m : List PV → M PV) (g : Bool → Bool) : PV → PV → M PV := fun x y W n Q => match x with
  | .ins c fs => c = cn ∧ (y.isTy "int").isSome = true ∧ m [.ins c fs, y] W n fun v n1 => match v with
    | .bl b => Q (.bl (g b)) n1
    | _ => False
  | _ => False
def pOwn1 (cn : Str) (m : List PV → M PV) (chk : PV → Bool) : PV → M PV := fun x W n Q => match x with
  | .ins c fs => c = cn ∧ m [.ins c fs] W n fun v n1 => chk v = true ∧ Q v n1
  | _ => False
def pC1 (po : PV → M PV) : List PV → M PV := fun xs W n Q => match xs with
  | [x] => po x W n Q
  | _ => False
def PV.isB : PV → Bool
  | .bl _ => true
  | _ => false
def PV.isS : PV → Bool
  | .str _ => true
  | _ => false
def PV.isLen : PV → Bool
  | .int n => decide (0 ≤ n ∧ n < 2 ^ 63)
  | _ => false
section
variable {z : Z}
theorem simR_ownC {cn : Str} {C : Addr} {m : List PV → M PV} {g : Bool → Bool} {E : XK} (hl : Link z E) (hc : z.cm cn = some C) (hn : ∀ d D, z.cm d = some D → Ev.CI z.K D ∧ PySem.W.notFirst z.K C (.ref D) = true) :
    SimR z (Ev.rOwnC z.K C (spP z.K z.cm 2 m) E g) (pOwnC cn m g) := by
  intro σ env G H n Qp Q x y px py ok fr er rx ry hm hq
  cases rx <;> try exact hm.elim
  rename_i a C' dx c vs ps hc' hg rf
  obtain ⟨rfl, hy, hm1⟩ := hm
  rw [hc] at hc'
  cases hc'
  have ty : ∃ t, TyX z.K H y t ∧ PySem.W.notFirst z.K C t = true := by
    have key : ∀ t : String, py.tyName = some t → ∃ t, TyX z.K H y t ∧ PySem.W.notFirst z.K C t = true := fun t ht => by
      refine ⟨_, tyx_of ok.sub ry ht, Ev.nf_ty ?_⟩
      cases py <;> simp [PV.tyName] at ht <;> subst ht <;> decide +kernel
    cases py with
    | ins d fs =>
      cases ry with
      | ins hd hgd rfd =>
        obtain ⟨ci, nf⟩ := hn _ _ hd
        exact ⟨_, ci.ty (ok.sub _ _ hgd), nf⟩
    | exc c fs => simp [PV.isTy, PV.tyName] at hy
    | pen => simp [PV.isTy, PV.tyName] at hy
    | ext v => simp [PV.isTy, PV.tyName] at hy
    | non => exact key _ rfl
    | bl v => exact key _ rfl
    | int v => exact key _ rfl
    | str v => exact key _ rfl
    | lst v => exact key _ rfl
    | tup v => exact key _ rfl
    | dct v => exact key _ rfl
  obtain ⟨t, ty, nf⟩ := ty
  refine ⟨a, dx, vs, t, rfl, ok.sub _ _ hg, ty, nf, z.p, z.c, G, n, _, z.W env, _, rfl, ok, .cons (.ins hc hg rf) (.cons ry .nil), hm1, fun v q G' H' n' ok' st' r' hq' => ?_, fun cn fs C d G' H' n' ok' st' hc rx hw => ?_⟩
  · cases r' <;> try exact hq'.elim
    exact ⟨_, rfl, hq _ _ G' H' n' ok' st' (.bl _) hq'⟩
  · exact hl σ env G' H' n' cn fs C d ok' (fr.stepP st') (er.step st') hc rx hw
theorem simU_own1 {cn : Str} {C : Addr} {m : List PV → M PV} {chk : PV → Bool} {P : V → Prop} {E : XK} (hl : Link z E) (hc : z.cm cn = some C) (hp : ∀ G v q, z.rep G v q → chk q = true → P v) : SimU z (Ev.rOwn1 C (spP z.K z.cm 1 m) E P) (pOwn1 cn m chk) := by
  intro σ env G H n Qp Q x px ok fr er rx hm hq
  cases rx <;> try exact hm.elim
  rename_i a C' dx c vs ps hc' hg rf
  obtain ⟨rfl, hm1⟩ := hm
  rw [hc] at hc'
  cases hc'
  refine ⟨a, dx, vs, rfl, ok.sub _ _ hg, z.p, z.c, G, n, _, z.W env, _, rfl, ok, .cons (.ins hc hg rf) .nil, hm1, fun v q G' H' n' ok' st' r' hq' => ⟨hp _ _ _ r' hq'.1, hq _ _ G' H' n' ok' st' r' hq'.2⟩, fun cn fs C d G' H' n' ok' st' hc rx hw => ?_⟩
  exact hl σ env G' H' n' cn fs C d ok' (fr.stepP st') (er.step st') hc rx hw
theorem simC_1 {r : V → Hp → VK → Prop} {po : PV → M PV} (h : SimU z r po) : SimC z (fun xs H Q => ∃ x, xs = [x] ∧ r x H Q) (pC1 po) := by
  intro σ env G H n Qp Q xs ps ok fr er rl hm hq
  unfold pC1 at hm
  split at hm
  · cases rl with
    | cons r t =>
      cases t
      exact ⟨_, rfl, h σ env G H n Qp Q _ _ ok fr er r hm hq⟩
  · exact hm.elim
theorem isB_of {G : Hp} {v : V} {q : PV} (r : z.rep G v q) (h : q.isB = true) : ∃ b : Bool, v = .bl b := by
  cases r <;> first | exact ⟨_, rfl⟩ | (cases h)
theorem isS_of {G : Hp} {v : V} {q : PV} (r : z.rep G v q) (h : q.isS = true) : ∃ b : Str, v = .str b := by
  cases r <;> first | exact ⟨_, rfl⟩ | (cases h)
theorem isLen_of {G : Hp} {v : V} {q : PV} (r : z.rep G v q) (h : q.isLen = true) : ∃ n : Int, v = .int n ∧ 0 ≤ n ∧ n < 2 ^ 63 := by
  cases r <;> first | exact ⟨_, rfl, of_decide_eq_true h⟩ | (cases h)
theorem link0 {E : XK} (h : z.W = fun _ => W0) : Link z E := fun σ env G H n cn fs C d _ _ _ _ _ hw => by
  rw [h] at hw
  exact hw.elim
end
end Pu
namespace Pu
open PySem PySem.Spec PyProof.Rows L2
section
variable {z : Z}
theorem sim_yes : SimT z tYes mYes := fun σ env G H n Qp Q ok fr er hm hq => hq.here ok rfl hm
theorem simR_ip {f : Int → Int → Int} : SimR z (ipI f) (pI0 fun i j => .int (f i j)) := by
  intro σ env G H n Qp Q x y px py ok fr er rx ry hm hq
  cases rx <;> try exact hm.elim
  cases ry <;> try exact hm.elim
  exact ⟨_, _, rfl, rfl, hq.here ok (.int _) hm⟩
theorem simR_ipadd : SimR z (ipI fun i j => i + j) pAdd := simR_ip
theorem simR_ipsub : SimR z (ipI fun i j => i - j) pSub := simR_ip
end
theorem forL_by {f : PV → MS} {W : PEnv → XP} {D : EndsP} (I : Nat → PEnv → Nat → Prop) : ∀ {xs : List PV} {env : PEnv} {n : Nat} (j : Nat), I j env n →
    (∀ i x env n, xs[i]? = some x → I (j + i) env n → ∀ N : PEnv → Nat → Prop, (∀ env' n', I (j + i + 1) env' n' → N env' n') → f x W { D with nx := N, ct := N, bk := D.nx } env n) → (∀ env n, I (j + xs.length) env n → D.nx env n) → forL f xs W D env n
  | [], env, n, j, h0, _, hd => hd env n h0
  | x :: xs, env, n, j, h0, hs, hd => by
    refine hs 0 x env n rfl h0 _ fun env' n' h' => ?_
    refine forL_by I (j + 1) h' (fun i y env n hi hI N hN => ?_) (fun env n hI => hd env n ?_)
    · exact hs (i + 1) y env n hi (by rw [show j + (i + 1) = j + 1 + i by omega]; exact hI) N fun env' n' h => hN env' n' (by rw [show j + 1 + i + 1 = j + (i + 1) + 1 by omega]; exact h)
    · rw [List.length_cons, show j + (xs.length + 1) = j + 1 + xs.length by omega]
      exact hI
theorem while_by {c : PEnv → M Bool} {b : MS} {W : PEnv → XP} {D : EndsP} {env : PEnv} {n : Nat} (I : PEnv → Nat → Prop) (μ : PEnv → Nat) (h0 : I env n)
    (hs : ∀ env n, I env n → ∀ N : PEnv → Nat → Prop, (∀ env' n', I env' n' → μ env' < μ env → N env' n') → c env (W env) n fun v n1 => if v = true then b W { D with nx := N, ct := N, bk := D.nx } env n1 else D.nx env n1) : mWhile c b W D env n := by
  have key : ∀ k env n, I env n → μ env < k → whN c b k W D env n := by
    intro k
    induction k with
    | zero => intro env n _ h; exact absurd h (Nat.not_lt_zero _)
    | succ k ih =>
      intro env n hI hk
      exact hs env n hI _ fun env' n' hI' hm => ih env' n' hI' (by omega)
  exact ⟨μ env + 1, key _ env n h0 (Nat.lt_succ_self _)⟩
theorem lc_pure {g : PV → PEnv → (PEnv → Prop) → Prop} {t : PEnv → M Bool} {e : PEnv → M PV} {env : PEnv} {n : Nat} (f : PV → Option PV) : ∀ {xs : List PV} {Q : List PV → Nat → Prop},
    (∀ x ∈ xs, ∀ R : Option PV → Nat → Prop, R (f x) n → g x env fun env2 => t env2 W0 n fun b n1 => if b = true then e env2 W0 n1 fun y n2 => R (some y) n2 else R none n1) →
    Q (xs.filterMap f) n → lcL g t e env xs n Q
  | [], _, _, hq => hq
  | x :: xs, Q, h, hq => by
    refine h x List.mem_cons_self (fun o n' => match o with
      | some y => lcL g t e env xs n' fun ys n3 => Q (y :: ys) n3
      | none => lcL g t e env xs n' Q) ?_
    have h' := fun y hy => h y (List.mem_cons_of_mem _ hy)
    cases e1 : f x with
    | none =>
      rw [List.filterMap_cons, e1] at hq
      exact lc_pure f h' hq
    | some y =>
      rw [List.filterMap_cons, e1] at hq
      exact lc_pure (Q := fun ys n3 => Q (y :: ys) n3) f h' hq
theorem rng_map {lo : Int} {k : Nat} (f : Int → PV) : (rngP lo k).filterMap (fun x => match x with
    | .int i => some (f i)
    | _ => none) = (List.range k).map fun (i : Nat) => f (lo + i) := by
  unfold rngP
  rw [List.filterMap_map]
  exact congrFun (List.filterMap_eq_map (f := fun (i : Nat) => f (lo + i))) _
theorem rng_mem {lo : Int} {k : Nat} {x : PV} (h : x ∈ rngP lo k) : ∃ i : Nat, i < k ∧ x = .int (lo + i) := by
  unfold rngP at h
  obtain ⟨i, hi, rfl⟩ := List.mem_map.mp h
  exact ⟨i, List.mem_range.mp hi, rfl⟩
theorem big_of {i : Int} (h0 : -1000000000000000000000000000000000000000000000000000000000000000000000000 ≤ i) (h1 : i ≤ 1000000000000000000000000000000000000000000000000000000000000000000000000) : Big i := by
  unfold Big
  exact Nat.lt_of_le_of_lt (show i.natAbs ≤ 1000000000000000000000000000000000000000000000000000000000000000000000000 by omega) (by decide +kernel)
theorem at0 {α : Type} {a : α} {l : List α} : atI (a :: l) 0 = some a := by
  simp only [atI, ixN, List.length_cons]
  rw [if_pos (by decide), if_pos (by omega)]
  rfl
theorem at1 {α : Type} {a b : α} {l : List α} : atI (a :: b :: l) 1 = some b := by
  simp only [atI, ixN, List.length_cons]
  rw [if_pos (by decide), if_pos (by omega)]
  rfl
theorem at2 {α : Type} {a b c : α} {l : List α} : atI (a :: b :: c :: l) 2 = some c := by
  simp only [atI, ixN, List.length_cons]
  rw [if_pos (by decide), if_pos (by omega)]
  rfl
theorem at3 {α : Type} {a b c d : α} {l : List α} : atI (a :: b :: c :: d :: l) 3 = some d := by
  simp only [atI, ixN, List.length_cons]
  rw [if_pos (by decide), if_pos (by omega)]
  rfl
theorem at4 {α : Type} {a b c d e : α} {l : List α} : atI (a :: b :: c :: d :: e :: l) 4 = some e := by
  simp only [atI, ixN, List.length_cons]
  rw [if_pos (by decide), if_pos (by omega)]
  rfl
theorem at5 {α : Type} {a b c d e f : α} {l : List α} : atI (a :: b :: c :: d :: e :: f :: l) 5 = some f := by
  simp only [atI, ixN, List.length_cons]
  rw [if_pos (by decide), if_pos (by omega)]
  rfl
theorem lkSelf {α : Type} {a : Str} {x : α} {l : List (Str × α)} : ((a, x) :: l).lookup a = some x := by
  simp [List.lookup]
theorem at_last {α : Type} {l : List α} {a : α} : atI (l ++ [a]) (-1) = some a := by
  simp only [atI, ixN, List.length_append, List.length_cons, List.length_nil]
  rw [if_neg (by decide), if_pos (by omega)]
  have e : ((-1 : Int) + ((l.length + (0 + 1) : Nat) : Int)).toNat = l.length := by omega
  rw [e]
  simp
end Pu
namespace Pu
open PySem PySem.Spec PyProof.Rows L2
theorem law_rest {K : PySem.W.Frag} {cm : Md} {t : TS} {b : MS} {s0 : V} {H : Hp} {p c : Addr} {Q : VK} {N : Nat} (hs : ∀ z : Z, z.K = K → z.cm = cm → z.W = (fun _ => W0) → SimS z t b) (hp : Ev.Pen H p c 0) (htb : LamX.Tabs cm.T H)
    (hb : b (fun _ => W0) { nx := fun _ _ => False, rt := fun q _ => q = .bl true } (.no :: .val .pen :: List.replicate N .no) 90000) (hk : ∀ H', Q (.bl true) H') : t { nx := fun _ H' => Q .non H', rt := Q } (some s0 :: some (.ref p) :: List.replicate N none) H := by
  refine hs ⟨K, cm, p, c, H, fun _ => none, (· = p), fun _ => W0, fun _ => none, p, p, p⟩ rfl rfl rfl _ (.no :: .val .pen :: List.replicate N .no) (fun _ => none) H 90000 _ _ ⟨fun _ _ e => (nomatch e), by simpa using hp, rfl, rfl, htb, fun _ _ e => (nomatch e)⟩ ⟨Step.refl _ _ _, rfl, Same.refl _⟩ ⟨fun i s h => ?_, fun i j s s' a _ hi _ os _ _ _ => ?_, by simp⟩ hb ⟨fun _ _ _ _ _ _ _ _ _ h' => h'.elim, fun v q G' H' n' _ ok' fr' r' h' => ?_, fun _ _ _ _ _ _ _ _ _ h' => h', fun _ _ _ _ _ _ _ _ _ h' => h'⟩
  · match i, h with
    | 0, h =>
      cases h
      exact ⟨_, rfl, trivial⟩
    | 1, h =>
      cases h
      exact ⟨_, rfl, _, rfl, .pen⟩
    | i + 2, h =>
      have h' : (List.replicate N Slot.no)[i]? = some s := h
      rw [List.getElem?_replicate] at h'
      split at h'
      · cases h'
        refine ⟨none, ?_, trivial⟩
        show (List.replicate N (none : Option V))[i]? = some none
        rw [List.getElem?_replicate, if_pos (by assumption)]
      · cases h'
  · match i, hi with
    | 0, hi =>
      cases hi
      cases os
    | 1, hi =>
      cases hi
      cases os
    | i + 2, hi =>
      have h' : (List.replicate N Slot.no)[i]? = some s := hi
      rw [List.getElem?_replicate] at h'
      split at h'
      · cases h'
        cases os
      · cases h'
  · have e : q = .bl true := h'
    subst e
    cases r'
    exact hk H'
theorem law_first {K : PySem.W.Frag} {cm : Md} {t : TS} {b : MS} {a : Addr} {H : Hp} {p c : Addr} {Q : VK} {N : List Str} {x y : Str} (hs : ∀ z : Z, z.K = K → z.cm = cm → z.W = (fun _ => W0) → SimS z t b) (hp : Ev.Pen H p c 0) (htb : LamX.Tabs cm.T H)
    (hb : b (fun _ => W0) { nx := fun _ _ => False, rt := fun q _ => q = .bl true } (.no :: .val .pen :: List.replicate N.length .no) 90000) (hk : ∀ H', Q (.bl true) H') : gName 1 (.ref p) (L2.start (x :: y :: N) [.ref a]) H (t { nx := fun _ H' => Q .non H', rt := Q }) := by
  have h := law_rest (s0 := .ref a) (N := N.length) hs hp htb hb hk
  exact h
theorem cm_nil {P : Str → Addr → Prop} : ∀ c C, ([] : List (Str × Addr)).lookup c = some C → P c C := fun _ _ h => by cases h
theorem cm_cons {P : Str → Addr → Prop} {a : Str} {A : Addr} {l : List (Str × Addr)} (h : P a A) (t : ∀ c C, l.lookup c = some C → P c C) : ∀ c C, ((a, A) :: l).lookup c = some C → P c C := fun c C e => by
  simp only [List.lookup] at e
  split at e
  · rename_i q
    cases e
    rw [beq_iff_eq.mp q]
    exact h
  · exact t c C e
theorem kit_ty_own {K : PySem.W.Frag} {C : Addr} {T : String} {b : Bool} (hT : PySem.W.kitMeta T = true) (h : PySem.W.mroIn K C (.type T) = some b) : PySem.W.kitOne K (.ref C) (.type T) = some b := by
  unfold PySem.W.kitOne
  rw [if_neg (by simp)]
  unfold PySem.W.kitCls
  simp only
  rw [if_pos hT]
  exact h
theorem kt_of {K : PySem.W.Frag} {C : Addr} (h0 : PySem.W.mroIn K C (.type "NoneType") = some false) (h1 : PySem.W.mroIn K C (.type "bool") = some false) (h2 : PySem.W.mroIn K C (.type "int") = some false) (h3 : PySem.W.mroIn K C (.type "str") = some false) (h4 : PySem.W.mroIn K C (.type "list") = some false) (h5 : PySem.W.mroIn K C (.type "tuple") = some false) (h6 : PySem.W.mroIn K C (.type "dict") = some false) :
    ∀ T ∈ BTys, PySem.W.kitOne K (.ref C) (.type T) = some false := by
  intro T hT
  simp only [BTys, List.mem_cons, List.not_mem_nil, or_false] at hT
  rcases hT with rfl | rfl | rfl | rfl | rfl | rfl | rfl
  · exact kit_ty_own (by decide +kernel) h0
  · exact kit_ty_own (by decide +kernel) h1
  · exact kit_ty_own (by decide +kernel) h2
  · exact kit_ty_own (by decide +kernel) h3
  · exact kit_ty_own (by decide +kernel) h4
  · exact kit_ty_own (by decide +kernel) h5
  · exact kit_ty_own (by decide +kernel) h6
theorem ks_self {K : PySem.W.Frag} {C : Addr} : PySem.W.kitOne K (.ref C) (.ref C) = some true := Ev.kit_self
theorem ks_mro {K : PySem.W.Frag} {C D : Addr} {b : Bool} (c : Ev.CI K C) (h : PySem.W.mroIn K D (.ref C) = some b) (hs : PySem.W.mroIn K C (.ref C) = some true) : PySem.W.kitOne K (.ref D) (.ref C) = some b := by
  by_cases e : D = C
  · subst e
    rw [hs] at h
    cases h
    exact Ev.kit_self
  · exact Ev.kit_own c e h
theorem nf_mro {K : PySem.W.Frag} {C D : Addr} (h : PySem.W.mroIn K D (.ref C) = some false) : PySem.W.notFirst K C (.ref D) = true := Ev.nf_own h
theorem kx_sub {K : PySem.W.Frag} {C D : Addr} {b : Bool} (h1 : PySem.W.isClsIn K D = true) (h2 : PySem.W.typeIn K (.ref D) = some (.type "type")) (h : PySem.W.subIn K (.ref C) (.ref D) = some b) (hs : PySem.W.subIn K (.ref D) (.ref D) = some true) : PySem.W.kitOne K (.ref C) (.ref D) = some b := by
  by_cases e : C = D
  · subst e
    rw [hs] at h
    cases h
    exact Ev.kit_self
  · unfold PySem.W.kitOne
    rw [if_neg (by simpa using e)]
    unfold PySem.W.kitCls
    simp only
    rw [if_pos (Ev.it_of h1 h2)]
    exact h
end Pu
namespace Ev
open PySem PySem.Spec PyProof.Rows L2
section
variable {X : Cx} {k j : Nat} {E : XK}
theorem eqBool_self {prog : Program} {w : World} {A : Around} {F : Value → Shared → Prop} {s : Shared} {a : Addr} {Q : Bool → Shared → Prop} (q : Q true s) : wpAny (model prog w) A (eqBool (.ref a) (.ref a)) Q F s := by
  unfold eqBool
  refine wpAny_holding ?_
  refine wpAny_ite_split (fun _ => ?_) (fun h => ?_)
  · show wpAny (model prog w) A (pure true) Q F s
    exact wpAny_pure q
  · simp at h
def PairI (K : PySem.W.Frag) (D : Addr → Sp → Prop) (E : XK) (J : Hp → Prop) (H : Hp) (u v : V) : Prop := ∃ (p q C dx : Addr) (fs : List (Str × V)) (t : Value) (sp : Sp), D C sp ∧ u = .ref p ∧ v = .ref q ∧ H p = some (.ins C dx fs) ∧ TyX K H v t ∧ PySem.W.notFirst K C t = true ∧ sp [u, v] H (fun w H2 => w = .bl true ∧ J H2) E
def rEqLI (K : PySem.W.Frag) (D : Addr → Sp → Prop) (E : XK) : R2 := fun x y H Q => ∃ (a b : Addr) (xs ys : List V) (J : Hp → Prop), x = .ref a ∧ y = .ref b ∧ J H ∧ (∀ H1, J H1 → H1 a = some (.lst xs) ∧ H1 b = some (.lst ys)) ∧ xs.length = ys.length ∧
  (∀ (i : Nat) (u v : V) (H1 : Hp), J H1 → xs[i]? = some u → ys[i]? = some v → PairI K D E J H1 u v) ∧ ∀ H', J H' → Q (.bl true) H'
theorem op_eqLI {D : Addr → Sp → Prop} (c : ∀ C sp, D C sp → GM X.prog X.w X.K X.mg X.base k C "__eq__" sp []) (hgd : X.A.guards = some []) (hr : Room j X.A) (hk : k + 1 ≤ j) (hx : Passes (L2.CX X.prog X.w) X E) {K : PySem.W.Frag} (hK : X.K = K := by rfl) : OpR X (compareOp .Eq) (rEqLI K D E) := by
  subst hK
  intro pins s σ H x y v u Q I rx ry h
  obtain ⟨a, b, xs, ys, J0, rfl, rfl, j0, hab, hl, pr, q⟩ := h
  cases rx
  cases ry
  have hr2 := hr.mono hk
  show wpAny (model X.prog X.w) X.A (richCompare .Eq (.ref a) (.ref b)) (EP X pins σ Q) X.xe s
  refine GQ.rc_listG (N := xs.length) hr2.units0 (fun _ s' => ∃ H1, Inv X pins σ H1 s' ∧ J0 H1) (fun i s' z => ?_) (fun s' z => ?_) ⟨H, I, j0⟩
  · obtain ⟨H1, I1, e1⟩ := z
    obtain ⟨_, its, k1, r1, o1⟩ := I1.hok a _ (hab H1 e1).1
    obtain ⟨_, its2, k2, r2, o2⟩ := I1.hok b _ (hab H1 e1).2
    refine ⟨its.toArray, its2.toArray, k1, k2, o1, o2, by rw [List.size_toArray, ← r1.length], by rw [List.size_toArray, ← r2.length, ← hl], fun h1 h2 => ?_⟩
    have i1 : i < xs.length := by rw [r1.length]; simpa using h1
    have i2 : i < ys.length := by rw [r2.length]; simpa using h2
    obtain ⟨vx, ex, rvx⟩ := r1.get (List.getElem?_eq_getElem i1)
    obtain ⟨vy, ey, rvy⟩ := r2.get (List.getElem?_eq_getElem i2)
    have ex' : its.toArray[i] = vx := by
      have := List.getElem?_eq_some_iff.mp ex
      simpa using this.2
    have ey' : its2.toArray[i] = vy := by
      have := List.getElem?_eq_some_iff.mp ey
      simpa using this.2
    rw [ex', ey']
    obtain ⟨p, q', C, dx, fs, t, sp, hD, e3, e4, hp, ty, nf, hsp⟩ := pr i _ _ H1 e1 (List.getElem?_eq_getElem i1) (List.getElem?_eq_getElem i2)
    rw [e3] at rvx hsp
    rw [e4] at rvy hsp ty
    cases rvx
    cases rvy
    by_cases e : p = q'
    · subst e
      exact eqBool_self ⟨rfl, H1, I1, e1⟩
    · refine GQ.eqBool_refG e ?_
      obtain ⟨f, fd, ps, ds, cl, M, F, b, d⟩ := (c C sp hD).ex
      cases d
      obtain ⟨ox, od, J, _⟩ := inst_at I1 hp
      obtain ⟨mm, hF⟩ := I1.fr
      refine PySem.W.cmp_K (op := .Eq) (tb := t) hr2.in1.units0 hF I1.ok.mod.kin J (looks_ty (x := .ref q') I1 rfl ty) nf M.at_ M.fn ?_
      refine wpAny_mono (run_gA (vs := [.ref p, .ref q']) (us := [.ref p, .ref q']) (dvs := []) F hgd hr2.in1 rfl b .nil hx I1 (.cons rfl (.cons rfl .nil)) hsp) (fun w s2 hw => ?_) fun _ _ z => z
      obtain ⟨v', H', I', rv, ev, sm⟩ := hw
      subst ev
      cases rv
      exact ⟨true, rfl, rfl, H', I', sm⟩
  · obtain ⟨H1, I1, e1⟩ := z
    exact ⟨.bl true, H1, I1, rfl, q H1 e1⟩
end
end Ev
namespace Pu
open PySem PySem.Spec PyProof.Rows L2
def pairsI (ms : List (Str × (List PV → M PV))) : List PV → List PV → Prop
  | [], [] => True
  | .ins c fs :: xs, y :: ys => (y.isTy "int").isSome = true ∧ (match y with | .ins _ _ => True | _ => False) ∧ (match ms.lookup c with
    | some m => ∀ n, m [.ins c fs, y] W0 n fun v n1 => v = .bl true ∧ n1 = n
    | none => False) ∧ pairsI ms xs ys
  | _, _ => False
def pEqLI (ms : List (Str × (List PV → M PV))) : PV → PV → M PV := fun x y _ n Q => match x, y with
  | .lst xs, .lst ys => pairsI ms xs ys ∧ Q (.bl true) n
  | _, _ => False
section
variable {z : Z}
theorem pairs_of {G H0 : Hp} {n : Nat} {ms : List (Str × (List PV → M PV))} {D : Addr → Sp → Prop} {E : XK} {J : Hp → Prop} (hJ : ∀ G1 H1 G' H', Step (· = z.p) G H0 G1 H1 → Ok z.cm z.p z.c G' H' n → Step (· = z.p) G1 H1 G' H' → J H')
    (hD : ∀ c m C, ms.lookup c = some m → z.cm c = some C → D C (spP z.K z.cm 2 m)) (hn : ∀ c C m d D', ms.lookup c = some m → z.cm c = some C → z.cm d = some D' → Ev.CI z.K D' ∧ PySem.W.notFirst z.K C (.ref D') = true) :
    ∀ {xs ys : List PV} {us vs : List V}, z.repL G us xs → z.repL G vs ys → pairsI ms xs ys → us.length = vs.length ∧ ∀ (i : Nat) (u v : V) (G1 H1 : Hp), Step (· = z.p) G H0 G1 H1 → Ok z.cm z.p z.c G1 H1 n → us[i]? = some u → vs[i]? = some v → Ev.PairI z.K D E J H1 u v
  | [], [], _, _, .nil, .nil, _ => ⟨rfl, fun i u v G1 H1 _ _ h _ => by simp at h⟩
  | [], _ :: _, _, _, .nil, .cons _ _, h => h.elim
  | .ins c fs :: xs, [], _, _, .cons _ _, .nil, h => h.elim
  | .ins c fs :: xs, y :: ys, _, _, .cons r rs, .cons r2 rs2, h => by
    obtain ⟨hy, hy2, hm, ht⟩ := h
    obtain ⟨e, k⟩ := pairs_of hJ hD hn rs rs2 ht
    refine ⟨by simp [e], fun i u v G1 H1 st ok hu hv => ?_⟩
    have sg := st.same
    cases i with
    | succ i => exact k i u v G1 H1 st ok (by simpa using hu) (by simpa using hv)
    | zero =>
      simp at hu hv
      subst hu hv
      cases y with
      | ins d gs =>
        cases r with
        | ins hc hg rf =>
          cases r2 with
          | ins hd hg2 rf2 =>
            split at hm
            · rename_i m hl
              obtain ⟨ci, nf⟩ := hn _ _ _ _ _ hl hc hd
              refine ⟨_, _, _, _, _, _, _, hD _ _ _ hl hc, rfl, rfl, ok.sub _ _ (sg _ _ hg), ci.ty (ok.sub _ _ (sg _ _ hg2)), nf, z.p, z.c, G1, n, _, W0, _, rfl, ok, .cons (.ins hc (sg _ _ hg) (rf.mono sg)) (.cons (.ins hd (sg _ _ hg2) (rf2.mono sg)) .nil), hm n, fun v q G' H' n' ok' st' r' hq' => ?_, fun cn fs C d G' H' n' ok' st' hc rx hw => hw.elim⟩
              obtain ⟨rfl, rfl⟩ := hq'
              cases r'
              exact ⟨rfl, hJ G1 H1 G' H' st ok' st'⟩
            · exact hm.elim
      | _ => exact hy2.elim
theorem simR_eqLI {ms : List (Str × (List PV → M PV))} {D : Addr → Sp → Prop} {E : XK} (hD : ∀ c m C, ms.lookup c = some m → z.cm c = some C → D C (spP z.K z.cm 2 m)) (hn : ∀ c C m d D', ms.lookup c = some m → z.cm c = some C → z.cm d = some D' → Ev.CI z.K D' ∧ PySem.W.notFirst z.K C (.ref D') = true) :
    SimR z (Ev.rEqLI z.K D E) (pEqLI ms) := by
  intro σ env G H n Qp Q x y px py ok fr er rx ry hm hq
  cases rx <;> try exact hm.elim
  cases ry <;> try exact hm.elim
  rename_i a us xs ha ru b vs ys hb rv
  obtain ⟨hp, hm⟩ := hm
  obtain ⟨el, k⟩ := pairs_of (J := fun H1 => ∃ G1, Ok z.cm z.p z.c G1 H1 n ∧ Step (· = z.p) G H G1 H1) (D := D) (E := E) (G := G) (H0 := H) (n := n) (fun G1 H1 G' H' s1 ok' s' => ⟨G', ok', s1.trans s' fun _ x => x⟩) hD hn ru rv hp
  exact ⟨a, b, us, vs, fun H1 => ∃ G1, Ok z.cm z.p z.c G1 H1 n ∧ Step (· = z.p) G H G1 H1, rfl, rfl, ⟨G, ok, Step.refl _ _ _⟩, fun H1 ⟨G1, ok1, s1⟩ => ⟨ok1.sub _ _ (s1.same _ _ ha), ok1.sub _ _ (s1.same _ _ hb)⟩, el, fun i u v H1 ⟨G1, ok1, s1⟩ h1 h2 => k i u v G1 H1 s1 ok1 h1 h2, fun H' ⟨G1, ok1, s1⟩ => hq _ _ G1 H' n ok1 s1 (.bl true) hm⟩
theorem lk_mem {α : Type} {l : List (Str × α)} {c : Str} {m : α} (h : l.lookup c = some m) : (c, m) ∈ l := by
  induction l with
  | nil => cases h
  | cons p l ih =>
    obtain ⟨a, x⟩ := p
    simp only [List.lookup] at h
    split at h
    · rename_i e
      cases h
      rw [beq_iff_eq.mp e]
      exact List.mem_cons_self
    · exact List.mem_cons_of_mem _ (ih h)
end
end Pu
theorem Ev.GM.mono {P : PySem.Program} {w : PySem.World} {K : PySem.W.Frag} {mg : PySem.Str → Option PySem.Value} {base : PySem.Heap} {k j : Nat} {C : PySem.Addr} {m : PySem.Str} {sp : L2.Sp} {dvs : List L2.V} (h : Ev.GM P w K mg base k C m sp dvs) (hk : k ≤ j) : Ev.GM P w K mg base j C m sp dvs :=
  let ⟨f, fd, ps, ds, a, b, c, d⟩ := h.ex
  ⟨f, fd, ps, ds, a, b, c.mono hk, d⟩
namespace Ev
open PySem PySem.Spec PyProof.Rows L2
section
variable {X : Cx} {k j : Nat} {E : XK} {D : Addr → Sp → Prop} {m : Str} {dvs : List V} {pos apos : Pos} {e o : Expr} {es : List Expr} {ta : TE} {t : TA}
def rOwnCD (K : PySem.W.Frag) (D : Addr → Sp → Prop) (E : XK) (g : Bool → Bool) : R2 := fun x y H Q => ∃ C sp, D C sp ∧ rOwnC K C sp E g x y H Q
theorem op_eqD2 (c : ∀ C sp, D C sp → GM X.prog X.w X.K X.mg X.base k C "__eq__" sp []) (hgd : X.A.guards = some []) (hr : Room j X.A) (hk : k ≤ j) (hx : Passes (L2.CX X.prog X.w) X E) {K : PySem.W.Frag} (hK : X.K = K := by rfl) : OpR X (compareOp .Eq) (rOwnCD K D E id) := by
  intro pins s σ H x y v u Q I rx ry h
  obtain ⟨C, sp, hD, h⟩ := h
  exact op_eqO (c C sp hD) hgd hr hk hx hK pins s σ H x y v u Q I rx ry h
theorem op_neD2 (c : ∀ C sp, D C sp → GM X.prog X.w X.K X.mg X.base k C "__eq__" sp [] ∧ NeO X.K C) (hgd : X.A.guards = some []) (hr : Room j X.A) (hk : k + 1 ≤ j) (hx : Passes (L2.CX X.prog X.w) X E) {K : PySem.W.Frag} (hK : X.K = K := by rfl) : OpR X (compareOp .NotEq) (rOwnCD K D E not) := by
  intro pins s σ H x y v u Q I rx ry h
  obtain ⟨C, sp, hD, h⟩ := h
  exact op_neO (c C sp hD).1 (c C sp hD).2 hgd hr hk hx hK pins s σ H x y v u Q I rx ry h
def rOwn1D (D : Addr → Sp → Prop) (E : XK) (P : V → Prop) : V → Hp → VK → Prop := fun x H Q => ∃ C sp, D C sp ∧ rOwn1 C sp E P x H Q
theorem call_boolD (c : ∀ C sp, D C sp → GM X.prog X.w X.K X.mg X.base k C "__bool__" sp []) (hgd : X.A.guards = some []) (hr : Room j X.A) (hk : k + 2 ≤ j) (hx : Passes (L2.CX X.prog X.w) X E) :
    CallR X (.type "bool") (fun xs H Q => ∃ x, xs = [x] ∧ rOwn1D D E (fun v => ∃ b : Bool, v = .bl b) x H Q) := by
  intro pins s σ H xs us Q I r h
  obtain ⟨x, e, C, sp, hD, h⟩ := h
  exact call_boolO (c C sp hD) hgd hr hk hx pins s σ H xs us Q I r ⟨x, e, h⟩
theorem call_strD (c : ∀ C sp, D C sp → GM X.prog X.w X.K X.mg X.base k C "__str__" sp []) (hgd : X.A.guards = some []) (hr : Room j X.A) (hk : k + 2 ≤ j) (hx : Passes (L2.CX X.prog X.w) X E) :
    CallR X (.type "str") (fun xs H Q => ∃ x, xs = [x] ∧ rOwn1D D E (fun v => ∃ z : Str, v = .str z) x H Q) := by
  intro pins s σ H xs us Q I r h
  obtain ⟨x, e, C, sp, hD, h⟩ := h
  exact call_strO (c C sp hD) hgd hr hk hx pins s σ H xs us Q I r ⟨x, e, h⟩
def tMethD (D : Addr → Sp → Prop) (m : Str) (dvs : List V) (E : XK) (ta : TE) (t : TA) : TE := fun σ H Q => ta σ H fun x H1 => ∃ a C sp dx fs, x = .ref a ∧ D C sp ∧ H1 a = some (.ins C dx fs) ∧ fs.lookup m = none ∧ t σ H1 fun vs H2 => sp (x :: (vs ++ dvs)) H2 Q E
theorem pe_mD {pl : Sem Bool} (c : ∀ C sp, D C sp → GM X.prog X.w X.K X.mg X.base k C m sp dvs) (hgd : X.A.guards = some []) (hr : Room j X.A) (hk : k ≤ j) (hx : Passes (L2.CX X.prog X.w) X E) (he : PE X o ta) (ha : PA X (e :: es) t)
    (hst : starEach (e :: es) X.env = (false, eval e X.env) :: starEach es X.env := by rfl) (hpl : (backTo pos (starEach es X.env)).any (·.1) = false := by rfl)
    (ht : eval (.Call (.Attribute o m apos) (e :: es) [] pos) X.env = (do
      let ov ← eval o X.env
      standAt apos.atName
      let (f, first) ← holding [ov] (getMethod ov m pl)
      callWith pos f first (backTo pos (starEach (e :: es) X.env)) (backToKw pos (keywordEach [] X.env))) := by rfl) :
    PE X (.Call (.Attribute o m apos) (e :: es) [] pos) (tMethD D m dvs E ta t) := by
  refine ⟨fun pins s σ H Q I h => PySem.W.methodCall_KW (pl := pl) (thn (he.run pins s σ H _ I h) fun u s1 ⟨x, H1, I1, rx, a, C, sp, dx, fs, ex, hD, ea, l, q⟩ => ?_) ht⟩
  subst ex
  cases rx
  obtain ⟨_, _, _, _, hc, hm, F, b, d⟩ := (c C sp hD).ex
  exact getmeth_ok I1 ea hc hm l (PySem.W.callWith_K (first := [.ref a]) (h₀ := X.base) I.ok.mod.kin hm.kp (thn (ha.run pos pins s1 σ H1 _ I1 q) fun us s2 ⟨vs, H2, I2, r, q2⟩ =>
    ⟨I2.kIn, run_gp (us := .ref a :: us) (vs := .ref a :: vs) F hgd (hr.mono hk) b d hx I2 (.cons rfl r) q2⟩) hst hpl)
theorem pe_mD0 {pl : Sem Bool} (c : ∀ C sp, D C sp → GM X.prog X.w X.K X.mg X.base k C m sp dvs) (hgd : X.A.guards = some []) (hr : Room j X.A) (hk : k ≤ j) (hx : Passes (L2.CX X.prog X.w) X E) (he : PE X o ta)
    (ht : eval (.Call (.Attribute o m apos) [] [] pos) X.env = (do
      let ov ← eval o X.env
      standAt apos.atName
      let (f, first) ← holding [ov] (getMethod ov m pl)
      callWith pos f first (backTo pos (starEach [] X.env)) (backToKw pos (keywordEach [] X.env))) := by rfl) :
    PE X (.Call (.Attribute o m apos) [] [] pos) (tMethD D m dvs E ta tNil) := by
  refine ⟨fun pins s σ H Q I h => PySem.W.methodCall_KW (pl := pl) (thn (he.run pins s σ H _ I h) fun u s1 ⟨x, H1, I1, rx, a, C, sp, dx, fs, ex, hD, ea, l, q⟩ => ?_) ht⟩
  subst ex
  cases rx
  obtain ⟨_, _, _, _, hc, hm, F, b, d⟩ := (c C sp hD).ex
  exact getmeth_ok I1 ea hc hm l (PySem.W.callWith_K0 (first := [.ref a]) I1.kIn hm.kp (run_gp (us := [.ref a]) (vs := [.ref a]) F hgd (hr.mono hk) b d hx I1 (.cons rfl .nil) q))
end
end Ev
namespace Pu
open PySem PySem.Spec PyProof.Rows L2
abbrev Ms := List (Str × (List PV → M PV))
def pOwnCD (ms : Ms) (g : Bool → Bool) : PV → PV → M PV := fun x y W n Q => match x with
  | .ins c fs => match ms.lookup c with
    | some m => pOwnC c m g (.ins c fs) y W n Q
    | none => False
  | _ => False
def pOwn1D (ms : Ms) (chk : PV → Bool) : PV → M PV := fun x W n Q => match x with
  | .ins c fs => match ms.lookup c with
    | some m => pOwn1 c m chk (.ins c fs) W n Q
    | none => False
  | _ => False
def mMethD (ms : Ms) (f : Str) (k : Nat) (dps : List PV) (a : PEnv → M PV) (r : PEnv → M (List PV)) : PEnv → M PV := fun env W n Q => a env W n fun x n1 => match x with
  | .ins c fs => match ms.lookup c with
    | some m => fs.lookup f = none ∧ r env W n1 fun args n2 => (args ++ dps).length + 1 = k ∧ m (.ins c fs :: (args ++ dps)) W n2 Q
    | none => False
  | _ => False
section
variable {z : Z} {ms : Ms} {D : Addr → Sp → Prop} {E : XK}
theorem simR_ownCD {g : Bool → Bool} (hl : Link z E) (hD : ∀ c m C, ms.lookup c = some m → z.cm c = some C → D C (spP z.K z.cm 2 m)) (hn : ∀ c C m d D', ms.lookup c = some m → z.cm c = some C → z.cm d = some D' → Ev.CI z.K D' ∧ PySem.W.notFirst z.K C (.ref D') = true) :
    SimR z (Ev.rOwnCD z.K D E g) (pOwnCD ms g) := by
  intro σ env G H n Qp Q x y px py ok fr er rx ry hm hq
  cases rx <;> try exact hm.elim
  rename_i a C dx c vs ps hc hg rf
  unfold pOwnCD at hm
  simp only at hm
  split at hm
  · rename_i m hlk
    exact ⟨C, _, hD c m C hlk hc, simR_ownC hl hc (fun d D' hd => hn c C m d D' hlk hc hd) σ env G H n Qp Q _ _ _ _ ok fr er (.ins hc hg rf) ry hm hq⟩
  · exact hm.elim
theorem simU_own1D {chk : PV → Bool} {P : V → Prop} (hl : Link z E) (hD : ∀ c m C, ms.lookup c = some m → z.cm c = some C → D C (spP z.K z.cm 1 m)) (hp : ∀ G v q, z.rep G v q → chk q = true → P v) : SimU z (Ev.rOwn1D D E P) (pOwn1D ms chk) := by
  intro σ env G H n Qp Q x px ok fr er rx hm hq
  cases rx <;> try exact hm.elim
  rename_i a C dx c vs ps hc hg rf
  unfold pOwn1D at hm
  simp only at hm
  split at hm
  · rename_i m hlk
    exact ⟨C, _, hD c m C hlk hc, simU_own1 hl hc hp σ env G H n Qp Q _ _ ok fr er (.ins hc hg rf) hm hq⟩
  · exact hm.elim
theorem sim_methD {f : Str} {k : Nat} {dvs : List V} {dps : List PV} {ta : TE} {tr : TA} {ma : PEnv → M PV} {mr : PEnv → M (List PV)} (hl : Link z E) (hD : ∀ c m C, ms.lookup c = some m → z.cm c = some C → D C (spP z.K z.cm k m)) (hd : ∀ G, z.repL G dvs dps) (ha : SimE z ta ma) (hr : SimA z tr mr) :
    SimE z (Ev.tMethD D f dvs E ta tr) (mMethD ms f k dps ma mr) := by
  intro σ env G H n Qp Q ok fr er hm hq
  refine ha.bind ok fr er hm fun x px G1 H1 n1 ok1 fr1 er1 s1 r1 hm1 => ?_
  cases r1 <;> try exact hm1.elim
  rename_i a C dx c vs ps hc hg rf
  simp only at hm1
  split at hm1
  · rename_i m hlk
    obtain ⟨hf, hm1⟩ := hm1
    have hlv : vs.lookup f = none := by
      rcases rf.look (f := f) with ⟨_, e⟩ | ⟨x, y, e, _⟩
      · exact e
      · rw [hf] at e
        cases e
    refine ⟨a, C, _, dx, vs, rfl, hD c m C hlk hc, ok1.sub _ _ hg, hlv, ?_⟩
    refine hr.bind ok1 fr1 er1 hm1 fun us args G2 H2 n2 ok2 fr2 er2 s2 r2 hm2 => ?_
    have rr : z.repL G2 (.ref a :: (us ++ dvs)) (.ins c ps :: (args ++ dps)) := .cons (.ins hc (s2.same _ _ hg) (rf.mono s2.same)) (r2.append (hd G2))
    refine ⟨z.p, z.c, G2, n2, _, z.W env, Qp, rr.len.trans (by rw [List.length_cons]; exact hm2.1), ok2, rr, hm2.2, fun v q G' H' n' ok' st' r' hq' => ((hq.step s1).step s2) v q G' H' n' ok' st' r' hq', fun cn fs C d G' H' n' ok' st' hc rx hw => ?_⟩
    exact hl σ env G' H' n' cn fs C d ok' (fr2.stepP st') (er2.step st') hc rx hw
  · exact hm1.elim
end
end Pu
namespace Pu
open PySem L2
theorem ati_1_0 {α : Type} {a : α} : atI [a] 0 = some a := rfl
theorem ati_1_m1 {α : Type} {a : α} : atI [a] (-1) = some a := rfl
theorem ati_2_0 {α : Type} {a b : α} : atI [a, b] 0 = some a := rfl
theorem ati_2_1 {α : Type} {a b : α} : atI [a, b] 1 = some b := rfl
theorem ati_2_m1 {α : Type} {a b : α} : atI [a, b] (-1) = some b := rfl
theorem ati_3_0 {α : Type} {a b c : α} : atI [a, b, c] 0 = some a := rfl
theorem ati_3_1 {α : Type} {a b c : α} : atI [a, b, c] 1 = some b := rfl
theorem ati_3_2 {α : Type} {a b c : α} : atI [a, b, c] 2 = some c := rfl
theorem ati_3_m1 {α : Type} {a b c : α} : atI [a, b, c] (-1) = some c := rfl
theorem ati_4_0 {α : Type} {a b c d : α} : atI [a, b, c, d] 0 = some a := rfl
theorem ati_4_1 {α : Type} {a b c d : α} : atI [a, b, c, d] 1 = some b := rfl
theorem ati_4_2 {α : Type} {a b c d : α} : atI [a, b, c, d] 2 = some c := rfl
theorem ati_4_3 {α : Type} {a b c d : α} : atI [a, b, c, d] 3 = some d := rfl
theorem ati_4_m1 {α : Type} {a b c d : α} : atI [a, b, c, d] (-1) = some d := rfl
theorem ati_5_0 {α : Type} {a b c d e : α} : atI [a, b, c, d, e] 0 = some a := rfl
theorem ati_5_1 {α : Type} {a b c d e : α} : atI [a, b, c, d, e] 1 = some b := rfl
theorem ati_5_2 {α : Type} {a b c d e : α} : atI [a, b, c, d, e] 2 = some c := rfl
theorem ati_5_3 {α : Type} {a b c d e : α} : atI [a, b, c, d, e] 3 = some d := rfl
theorem ati_5_4 {α : Type} {a b c d e : α} : atI [a, b, c, d, e] 4 = some e := rfl
theorem ati_5_m1 {α : Type} {a b c d e : α} : atI [a, b, c, d, e] (-1) = some e := rfl
theorem ati_6_0 {α : Type} {a b c d e f : α} : atI [a, b, c, d, e, f] 0 = some a := rfl
theorem ati_6_1 {α : Type} {a b c d e f : α} : atI [a, b, c, d, e, f] 1 = some b := rfl
theorem ati_6_2 {α : Type} {a b c d e f : α} : atI [a, b, c, d, e, f] 2 = some c := rfl
theorem ati_6_3 {α : Type} {a b c d e f : α} : atI [a, b, c, d, e, f] 3 = some d := rfl
theorem ati_6_4 {α : Type} {a b c d e f : α} : atI [a, b, c, d, e, f] 4 = some e := rfl
theorem ati_6_5 {α : Type} {a b c d e f : α} : atI [a, b, c, d, e, f] 5 = some f := rfl
theorem ati_6_m1 {α : Type} {a b c d e f : α} : atI [a, b, c, d, e, f] (-1) = some f := rfl
theorem ati_7_0 {α : Type} {a b c d e f g : α} : atI [a, b, c, d, e, f, g] 0 = some a := rfl
theorem ati_7_1 {α : Type} {a b c d e f g : α} : atI [a, b, c, d, e, f, g] 1 = some b := rfl
theorem ati_7_2 {α : Type} {a b c d e f g : α} : atI [a, b, c, d, e, f, g] 2 = some c := rfl
theorem ati_7_3 {α : Type} {a b c d e f g : α} : atI [a, b, c, d, e, f, g] 3 = some d := rfl
theorem ati_7_4 {α : Type} {a b c d e f g : α} : atI [a, b, c, d, e, f, g] 4 = some e := rfl
theorem ati_7_5 {α : Type} {a b c d e f g : α} : atI [a, b, c, d, e, f, g] 5 = some f := rfl
theorem ati_7_6 {α : Type} {a b c d e f g : α} : atI [a, b, c, d, e, f, g] 6 = some g := rfl
theorem ati_7_m1 {α : Type} {a b c d e f g : α} : atI [a, b, c, d, e, f, g] (-1) = some g := rfl
theorem oK {α : Type} {o : Option α} {v : α} {K : α → Prop} (h : o = some v) (k : K v) : (match o with
    | some v => K v
    | none => False) := by
  subst h
  exact k
theorem and_t {p : Prop} (h : p) : True ∧ p := ⟨trivial, h⟩
end Pu
namespace Ev
open PySem PySem.Spec PyProof.Rows L2
structure FnS (P : Program) (K : PySem.W.Frag) (x qual : Str) (st : Stmt) (f cc D : Addr) (fd : FuncData) : Prop where
  ex : ∃ (oc : Value) (od : Option Addr) (dV kV doc pm : Value) (an : Option Addr) (cda : Addr) (ct : Value) (osl : Array (Option Value)) (ccl : Value) (cdd : Option Addr) (vs : Array Value) (ccs : Array (Option Value)) (file : Str) (tf : Tok) (cl : Value) (cld : Option Addr) (csl : Array (Option Value)) (cdD : ClassData),
    fd = PySem.W.ksFn x qual (C8.fnArgs st) (C8.fnBody st) (C8.fnScope st) dV kV doc pm an (.ref cda) ct cc ∧ K.lookup f = some ⟨oc, od, .func fd, osl⟩ ∧ PySem.W.codeIn K (.ref cda) qual = true ∧
    K.lookup cda = some ⟨ccl, cdd, .fields vs, ccs⟩ ∧ vs[2]? = some (.str file tf) ∧ ((P.main.file : Str) == file) = true ∧ K.lookup cc = some ⟨cl, cld, .cell (some (.ref D)), csl⟩ ∧ PySem.W.clsIn K D = some cdD
structure ScS (N P : List Str) (sc : Scope) : Prop where
  kind : sc.kind = .function
  co : sc.isCoroutine = false
  gen : sc.isGenerator = false
  nd : N.Nodup
  pre : N.take P.length = P
  par : ∀ x ∈ P, sc.names.lookup x = some .local
  nocell : ∀ y ∈ sc.names, y.2 ≠ .cell
  free : ∀ y ∈ sc.names, y.2 = .free → y.1 = "__class__"
  cls : sc.names.lookup ("__class__" : Str) = some .free
  sup : sc.names.lookup ("super" : Str) = some .globalImplicit
def cxS (CX : CXT) (P : Program) (w : World) (K : PySem.W.Frag) (mg : Str → Option Value) (base : Heap) (N : List Str) (qual : Str) (scope : Scope) (f cda cc : Addr) (A : Around) (outer : List Env) (s : Shared) (H : Hp) (E : XK) : Cx where
  prog := P
  w := w
  K := K
  mg := mg
  base := base
  A := A.deeper (PySem.W.ksEnv qual scope s.heap.objs.size f (.ref cda) cc)
  N := N
  s_0 := s
  H_0 := H
  env := PySem.W.ksEnv qual scope s.heap.objs.size f (.ref cda) cc
  outer := outer
  stack := PySem.W.ksEnv qual scope s.heap.objs.size f (.ref cda) cc :: outer
  ex := []
  calm := true
  fn := fun x => !(x == "__class__")
  pn := []
  xe := fun e s' => wpAny (model P w) (A.deeper (PySem.W.ksEnv qual scope s.heap.objs.size f (.ref cda) cc)) (leaving (PySem.W.ksEnv qual scope s.heap.objs.size f (.ref cda) cc) e) (fun _ s'' => CX outer H s E e s'') (fun e' s'' => CX outer H s E e' s'') s'
theorem zip_lk {x : Str} {u : Value} : ∀ {ps : List Str} {us : List Value} {i : Nat}, ps.Nodup → ps[i]? = some x → us[i]? = some u → (ps.zip us).reverse.lookup x = some u
  | [], _, _, _, h, _ => by simp at h
  | _ :: _, [], _, _, _, h => by simp at h
  | p :: ps, w :: us, 0, nd, h1, h2 => by
    simp at h1 h2
    subst h1 h2
    rw [List.zip_cons_cons, List.reverse_cons, List.lookup_append]
    have e : (ps.zip us).reverse.lookup p = none := by
      rw [List.lookup_eq_none_iff]
      rintro ⟨a, b⟩ hy
      have := (List.of_mem_zip (List.mem_reverse.mp hy)).1
      have hne : p ≠ a := fun q => (List.nodup_cons.mp nd).1 (q ▸ this)
      simpa using hne
    rw [e]
    simp [List.lookup]
  | p :: ps, w :: us, i + 1, nd, h1, h2 => by
    rw [List.zip_cons_cons, List.reverse_cons, List.lookup_append, zip_lk (i := i) (List.nodup_cons.mp nd).2 (by simpa using h1) (by simpa using h2)]
    rfl
theorem lk1 {y : Str} {cc c : Addr} (h : ([("__class__", cc)] : List (Str × Addr)).lookup y = some c) : y = "__class__" ∧ c = cc := by
  simp only [List.lookup] at h
  split at h
  · rename_i q
    cases h
    exact ⟨beq_iff_eq.mp q, rfl⟩
  · cases h
theorem inv_startS {CX : CXT} {P : Program} {w : World} {K : PySem.W.Frag} {mg : Str → Option Value} {base : Heap} {N ps : List Str} {qual : Str} {scope : Scope} {f cda cc : Addr} {A : Around} {outer : List Env} {s : Shared} {h1 : Heap} {tk : Nat} {H : Hp} {E : XK} {us : List Value} {vs : List V} {oc : Obj} {D : Value}
    (S : ScS N ps scope) (hd : A.handled = none) (e0 : Env0 P w K mg base A outer s H) (hl : vs.length = ps.length) (r : Vals vs us) (hcc : base.get? cc = some oc) (hoc : oc.data = .cell (some D))
    (hns : h1.Ns s.heap.objs.size (fun x => (ps.zip us).reverse.lookup x)) (hk : ∀ b o, s.heap.get? b = some o → h1.get? b = some o) :
    Inv (cxS CX P w K mg base N qual scope f cda cc A outer s H E) [] (L2.start N vs) H { s with heap := h1, toks := tk } := by
  have hpl : ps.length ≤ N.length := by have := congrArg List.length S.pre; rw [List.length_take] at this; omega
  have noA : ∀ b : Addr, b ∉ (cxS CX P w K mg base N qual scope f cda cc A outer s H E).ex := fun b z => absurd (show b ∈ ([] : List Addr) from z) (by simp)
  refine ⟨⟨e0.mod, S.kind, rfl, rfl, Nat.le_refl _, fun y z c h1 h2 => (lk1 h1).1.trans (lk1 h2).1.symm, fun y hy => ?_, fun y c hf h => ?_, fun _ => hd, Around.frames_deeper e0.frames, .inr ⟨rfl, rfl⟩, fun b z => absurd z (noA b), e0.bs, e0.bsz, fun b _ _ => noA b, fun b z => absurd z (noA b), e0.funs, e0.frf⟩,
    rfl, e0.bare, Un.kept hk, ⟨_, hns, fun i y v h1 h2 h3 => ?_⟩, fun y c h => ⟨_, oc, ?_, hoc⟩, e0.hok.fresh (Nat.le_refl _), fun y c h => ?_, fun p hp => absurd (show p ∈ ([] : List (Addr × Obj)) from hp) (by simp), e0.hok.kept hk, ?_⟩
  · have hy : scope.names.lookup y = some .cell ∨ scope.names.lookup y = some .free := hy
    rcases hy with hy | hy
    · exact absurd rfl (S.nocell _ (PySem.mem_of_lookup hy))
    · have := S.free _ (PySem.mem_of_lookup hy) rfl
      refine ⟨cc, ?_⟩
      show ([("__class__", cc)] : List (Str × Addr)).lookup y = some cc
      rw [show y = "__class__" from this]
      simp [List.lookup]
  · have := (lk1 h).1
    subst this
    have hf : (!(("__class__" : Str) == "__class__")) = true := hf
    simp at hf
  · have hi : i < vs.length := by
      unfold L2.start at h2
      by_cases hi : i < vs.length
      · exact hi
      · rw [List.getElem?_append_right (by simpa using hi)] at h2
        rw [List.getElem?_replicate] at h2
        split at h2 <;> cases h2
    have ha : vs[i]? = some v := by
      unfold L2.start at h2
      rw [List.getElem?_append_left (by simpa using hi), List.getElem?_map] at h2
      cases e : vs[i]? with
      | none => rw [e] at h2; cases h2
      | some a => rw [e] at h2; cases h2; rfl
    obtain ⟨u, hu, rv⟩ := r.get ha
    have hp : ps[i]? = some y := by
      rw [← S.pre, List.getElem?_take_of_lt (by omega)]; exact h1
    have ndP : ps.Nodup := by rw [← S.pre]; exact S.nd.sublist (List.take_sublist _ _)
    exact ⟨u, rv, .inl ⟨S.par y (List.mem_of_getElem? hp), zip_lk ndP hp hu⟩⟩
  · rw [(lk1 h).2]
    exact hk _ _ (e0.bs _ _ hcc).1
  · rw [(lk1 h).2]
    exact (e0.bs _ _ hcc).2
  · unfold L2.start
    show _ = N.length
    rw [List.length_append, List.length_map, List.length_replicate]
    omega
theorem wp_app {M : Model} {Γ : PySem.Ctx} {env : Env} {b : List Stmt} {Q : Flow → Pos → Shared → Prop} {E : Value → Pos → Shared → Prop} : ∀ (a : List Stmt) (p : Pos) (s : Shared),
    Sem.wp M Γ (execs a env) (fun f p' s' => match f with | .next => Sem.wp M Γ (execs b env) Q E p' s' | f => Q f p' s') E p s → Sem.wp M Γ (execs (a ++ b) env) Q E p s
  | [], p, s, h => by
    rw [execs_nil, Sem.wp_pure'] at h
    exact h
  | st :: a, p, s, h => by
    rw [execs_cons, Sem.wp_bind'] at h
    rw [List.cons_append, execs_cons, Sem.wp_bind']
    refine Sem.wp_mono M Γ _ (fun f p' s' h' => ?_) (fun _ _ _ h' => h') _ _ h
    cases f with
    | next => exact wp_app a p' s' h'
    | _ => simp only [Sem.wp_pure'] at h' ⊢; exact h'
theorem at_app {M : Model} {A : Around} {c : Code} {env : Env} {a b : List Stmt} {Q : Flow → Shared → Prop} {E : Value → Shared → Prop} {s : Shared}
    (h : PySem.wpAt M A c (execs a env) (fun f s' => match f with | .next => PySem.wpAt M A c (execs b env) Q E s' | f => Q f s') E s) : PySem.wpAt M A c (execs (a ++ b) env) Q E s := fun Γ p hc hΓ => by
  refine wp_app a p s (Sem.wp_mono M Γ _ (fun f p' s' h' => ?_) (fun _ _ _ h' => h') _ _ (h Γ p hc hΓ))
  cases f with
  | next => exact h' Γ p' hc hΓ
  | _ => exact h'
def tSup (D : Addr) (sp : Sp) (dvs : List V) (E : XK) (ta : TA) : TS := fun Dn σ H => ∃ x dx fs, σ[0]? = some (some (.ref x)) ∧ H x = some (.ins D dx fs) ∧ ta σ H fun us H2 => sp (.ref x :: (us ++ dvs)) H2 (fun _ H3 => Dn.nx σ H3) E
structure Sup (P : Program) (K : PySem.W.Frag) (mg : Str → Option Value) (D : Addr) (m : Str) (f2 : Addr) : Prop where
  nm : mg "super" = none
  top : (P.main.scope.names.lookup ("super" : Str)).isSome = false
  boot : bootBuiltins "super" = some (.type "super")
  sub : PySem.W.mroIn K D (.ref D) = some true
  opq : PySem.W.nsIn K cStatics "thirdparty.any" = some none
  find : PySem.W.ks_superIn K D D m = some (some (.ref f2))
  ty : PySem.W.typeIn K (.ref f2) = some (.type "function")
  fi : PySem.W.fnIn K f2 = true
theorem boot_super : bootBuiltins "super" = some (.type "super") := by first | boot_by_name | rfl | kernel_rfl
section
variable {X : Cx} {CX : CXT} {k : Nat} {f2 D q : Addr} {fd : FuncData} {ps : List Str} {sp : Sp} {dvs : List V} {ds : List Value} {E : XK}
theorem run_bound {x : Addr} {pins : List (Addr × Obj)} {σ : L2.St} {H : Hp} {s : Shared} {Q : VK} {us : List Value} {vs : List V} (F : GOk X.prog X.w X.K X.mg X.base CX k f2 fd ps sp) (hgd : X.A.guards = some []) (hr : Room k X.A) (hb : Binds X.K fd ps ds) (hd : Vals dvs ds) (hx : Passes CX X E)
    (I : Inv X ((q, PySem.W.methodObj (.ref f2) (.ref x)) :: pins) σ H s) (r : Vals vs us) (h : sp (.ref x :: (vs ++ dvs)) H Q E) : wpAny (model X.prog X.w) X.A (call (.ref q) us) (EP X pins σ Q) X.xe s := by
  have r2 : Vals (V.ref x :: (vs ++ dvs)) (Value.ref x :: (us ++ ds)) := .cons rfl (r.append hd)
  have hl : ((Value.ref x :: us) ++ ds).length = ps.length := r2.length.symm.trans (F.len _ _ _ _ h)
  have z : wpAny (model X.prog X.w) X.A (call (.ref q) us) (EP X ((q, PySem.W.methodObj (.ref f2) (.ref x)) :: pins) σ Q) X.xe s := by
    refine wpAny_call (PySem.W.method_call (ClX.pin_at I) (codeAny_mono (F.run X.A X.stack s H ⟨.ref x :: us, []⟩ (.ref x :: (us ++ ds)) _ Q E hgd hr I.env0 (hb s (.ref x :: us) I.kIn hl) r2 h) fun res s' hq => ?_))
    match res, hq with
    | .error e, hq => exact hx _ σ H s e s' I hq
    | .ok (.ret u), hq => exact I.after hq
    | .ok .next, hq => exact hq.elim
    | .ok .brk, hq => exact hq.elim
    | .ok .cont, hq => exact hq.elim
  exact thn z fun _ _ y => ClX.unpinE y
end
theorem gfnS {CX : CXT} {P : Program} {w : World} {K : PySem.W.Frag} {mg : Str → Option Value} {base : Heap} {x qual m : Str} {st : Stmt} {f cc D f2 : Addr} {fd fd2 : FuncData} {N ps ps2 : List Str} {k k2 : Nat} {sp sp2 : Sp} {dvs : List V} {ds : List Value}
    {pre post : List Stmt} {p0 p1 apos pos pos' : Pos} {e : Expr} {es : List Expr} {ar : Arg}
    (F : FnS P K x qual st f cc D fd) (S : ScS N ps (C8.fnScope st)) (SP : Sup P K mg D m f2) (hp : ((C8.fnArgs st).posonlyargs ++ (C8.fnArgs st).args).head? = some ar) (hn : N[0]? = some ar.arg) (hpa : (C8.fnScope st).names.lookup ar.arg = some .local) (hcm : (m == ("__class__" : Str)) = false)
    (hbd : C8.fnBody st = pre ++ (.Expr (.Call (.Attribute (.Call (.Name "super" p0) [] [] p1) m apos) (e :: es) [] pos) pos' :: post))
    (len : ∀ vs H Q E, sp vs H Q E → vs.length = ps.length) (F2 : GOk P w K mg base CX k2 f2 fd2 ps2 sp2) (hk2 : k2 ≤ k) (hb2 : Binds K fd2 ps2 ds) (hd2 : Vals dvs ds)
    (hbody : ∀ (cda : Addr) (A : Around) (outer : List Env) (s : Shared) (H : Hp) (vs : List V) (Q : VK) (E : XK), (A.deeper (PySem.W.ksEnv qual (C8.fnScope st) s.heap.objs.size f (.ref cda) cc)).guards = some [] →
      Room k (A.deeper (PySem.W.ksEnv qual (C8.fnScope st) s.heap.objs.size f (.ref cda) cc)) → sp vs H Q E →
      ∃ t1 ta t2 E2, PSs (cxS CX P w K mg base N qual (C8.fnScope st) f cda cc A outer s H E) pre t1 ∧ PA (cxS CX P w K mg base N qual (C8.fnScope st) f cda cc A outer s H E) (e :: es) ta ∧ PSs (cxS CX P w K mg base N qual (C8.fnScope st) f cda cc A outer s H E) post t2 ∧
        Passes CX (cxS CX P w K mg base N qual (C8.fnScope st) f cda cc A outer s H E) E2 ∧ tSeq t1 (tSeq (tSup D sp2 dvs E2 ta) t2) { nx := fun _ H' => Q .non H', rt := Q } (L2.start N vs) H)
    (hst : ∀ env : Env, starEach (e :: es) env = (false, eval e env) :: starEach es env) (hpl : ∀ env : Env, (backTo pos (starEach es env)).any (·.1) = false)
    (pl : Env → Sem Bool) (hev : ∀ env : Env, eval (.Call (.Attribute (.Call (.Name "super" p0) [] [] p1) m apos) (e :: es) [] pos) env = (do
      let ov ← attributeBase (.Call (.Name "super" p0) [] [] p1) m env (eval (.Call (.Name "super" p0) [] [] p1) env)
      standAt apos.atName
      let (f, first) ← holding [ov] (getMethod ov m (pl env))
      callWith pos f first (backTo pos (starEach (e :: es) env)) [])) :
    GOk P w K mg base CX (k + 1) f fd ps sp := by
  obtain ⟨oc, od, dV, kV, doc, pm, an, cda, ct, osl, ccl, cdd, cvs, ccs, file, tf, cl, cld, csl, cdD, rfl, lk, hcd, lcd, hvs, hfile, lcc, hD⟩ := F.ex
  refine ⟨len, fun A outer s H args us vs Q E hgd hr e0 hb r hsp => ?_⟩
  have KX : K.In s.heap := e0.mod.kin.keeps (fun b o z => (e0.bs b o z).1)
  have lim : s.heap.NoLimit := e0.mod.nolimit.keeps (fun b o z => (e0.bs b o z).1)
  refine ks_codeAny_call_defAt (fd := PySem.W.ksFn x qual (C8.fnArgs st) (C8.fnBody st) (C8.fnScope st) dV kV doc pm an (.ref cda) ct cc) (body := C8.fnBody st) (binds := ps.zip us) hr.depth (KX _ _ lk) rfl lim (PySem.W.codeRec_of KX hcd) rfl hb S.nocell (fun y hy => S.par y.1 (List.of_mem_zip hy).1) (fun h1 hns hk => ?_) S.co S.gen S.kind
  obtain ⟨t1, ta, t2, E2, q1, qa, q2, hx, hq⟩ := hbody cda A outer s H vs Q E hgd (hr.deeper _) hsp
  have I0 := inv_startS (CX := CX) (N := N) (qual := qual) (f := f) (cda := cda) (E := E) (tk := s.toks + (ps.zip us).length) S hr.hd e0 (len _ _ _ _ hsp) r (e0.mod.kin _ _ lcc) rfl hns hk
  have fin : ∀ fl s', L2.SP (cxS CX P w K mg base N qual (C8.fnScope st) f cda cc A outer s H E) [] { nx := fun _ H' => Q .non H', rt := Q } fl s' → CR CX outer P w H s Q E (.ok (.ret (match fl with | .ret v => v | _ => .none))) s' := by
    intro fl s' hs
    cases fl with
    | ret u => exact let ⟨v, _, H', J, rv, q⟩ := hs; ⟨v, H', J.os, J.bare, J.base, J.hok, rv, q⟩
    | next => exact let ⟨_, H', J, q⟩ := hs; ⟨V.non, H', J.os, J.bare, J.base, J.hok, rfl, q⟩
    | brk => exact let ⟨_, _, _, q⟩ := hs; False.elim q
    | cont => exact let ⟨_, _, _, q⟩ := hs; False.elim q
  have main : ∀ body' : List Stmt, PySem.wpAt (model P w) (A.deeper (PySem.W.ksEnv qual (C8.fnScope st) s.heap.objs.size f (.ref cda) cc)) (.func body' (PySem.W.ksEnv qual (C8.fnScope st) s.heap.objs.size f (.ref cda) cc))
      (execs (pre ++ (.Expr (.Call (.Attribute (.Call (.Name "super" p0) [] [] p1) m apos) (e :: es) [] pos) pos' :: post)) (PySem.W.ksEnv qual (C8.fnScope st) s.heap.objs.size f (.ref cda) cc))
      (fun fl s' => CR CX outer P w H s Q E (.ok (.ret (match fl with | .ret v => v | _ => .none))) s') (cxS CX P w K mg base N qual (C8.fnScope st) f cda cc A outer s H E).xe { s with heap := h1, toks := s.toks + (ps.zip us).length } := by
    intro body'
    refine at_app (ks_wpAt_mono (wpAt_of_wpAny (q1.run [] _ _ H _ I0 hq)) (fun fl s1 hs => ?_) fun _ _ z => z)
    cases fl with
    | ret u => exact fin (.ret u) s1 hs
    | brk => exact let ⟨_, _, _, q⟩ := hs; False.elim q
    | cont => exact let ⟨_, _, _, q⟩ := hs; False.elim q
    | next =>
      obtain ⟨σ1, H1, I1, sx, dx, fs, hs0, hins, hta⟩ := hs
      refine ks_wpAt_execs_cons (ks_wpAt_Expr_any (ks_wpAt_MethodCall (pl := pl _) ?_ (hev _)) I1.quiet rfl)
      have KX1 := I1.kIn
      refine ks_wpAt_super_base (env := PySem.W.ksEnv qual (C8.fnScope st) s.heap.objs.size f (.ref cda) cc) S.sup S.cls hcm rfl (KX1 _ _ lk) rfl hp rfl (KX1 _ _ lcd) rfl hvs hfile SP.top ?_
      obtain ⟨mb, hb1, hb2'⟩ := I1.mod.blt
      refine PySem.W.ks_loadName_global S.kind S.sup (Calls.loadGlobal_builtin (env := PySem.W.ksEnv qual (C8.fnScope st) s.heap.objs.size f (.ref cda) cc) (I1.mod.glob.keeps I1.bk) SP.nm (hb1.keeps I1.bk) ((hb2' "super" (by decide)).trans SP.boot) ⟨rfl, ?_⟩)
      refine wpAny_loadName_free S.kind S.cls rfl ⟨_, KX1 _ _ lcc, rfl⟩ ?_
      obtain ⟨m0, hns0, hloc⟩ := I1.loc
      obtain ⟨u, ru, lu⟩ := hloc 0 ar.arg (.ref sx) hn hs0 (.inl hpa)
      have hu : m0 ar.arg = some (.ref sx) := by
        obtain rfl : u = Value.ref sx := ru
        rcases lu with ⟨_, h⟩ | ⟨h, _⟩
        · exact h
        · have h : (C8.fnScope st).names.lookup ar.arg = some .cell ∨ (C8.fnScope st).names.lookup ar.arg = some .free := h
          rw [hpa] at h
          rcases h with h | h <;> cases h
      refine wpAny_loadName_local S.kind hpa hns0 hu ?_
      obtain ⟨mA, O, _, _, _, _⟩ := ins_get I1.hok hins
      obtain ⟨odd, IA, _⟩ := O.look
      obtain ⟨oD, hD1, hD2⟩ : ∃ oD, s1.heap.get? D = some oD ∧ oD.data = .cls cdD := by
        unfold PySem.W.clsIn at hD
        split at hD
        · rename_i ho
          cases hD
          exact ⟨_, KX1 _ _ ho, rfl⟩
        · cases hD
      refine ks_wpAny_isType_cls hD1 hD2 ⟨rfl, ?_⟩
      obtain ⟨hh, gg, dr, tt, oo⟩ := s1
      refine ks_wpAny_call_super hD1 hD2 IA.at_ IA.cls (fun c e => ?_) (PySem.W.looks_mroIn KX1 SP.sub) (fun h' e kp => ?_)
      · have := IA.no
        unfold PySem.W.notCls at this
        rw [e] at this
        exact Bool.noConfusion this
      have I2 := I1.kept (h' := h') (t' := tt) kp
      have KX2 := I2.kIn
      obtain ⟨of, hof, hofc⟩ : ∃ of, h'.get? f2 = some of ∧ of.cls = .type "function" := by
        have ht' : (K.lookup f2).map (·.cls) = some (.type "function") := SP.ty
        cases z : K.lookup f2 with
        | none => rw [z] at ht'; cases ht'
        | some of => rw [z] at ht'; exact ⟨of, KX2 _ _ z, Option.some.inj ht'⟩
      have hm := SP.find
      unfold PySem.W.ks_superIn at hm
      rw [hD] at hm
      have hxD : sx ≠ D := PySem.W.ks_ne KX1 IA hD
      refine ks_wpAny_getMethod_super e (PySem.W.looks_opaque KX2 SP.opq) (l₀ := cdD.mro) (fun A Q E s k q => wpAny_bind ((PySem.W.looks_clsIn KX2 hD) A _ E s k (wpAny_pure q))) rfl KX2 hm hof hofc hxD hcm ?_
      have I3 := ClX.met_new (g := f2) (C := sx) I2
      refine ClX.callwith_cm I3 (ClX.base_none I2 (Nat.le_refl _)) SP.fi (thn (qa.run pos _ _ σ1 H1 _ I3 hta) fun us2 s3 ⟨vs2, H2, I4, rv, h4⟩ => ⟨⟨ClX.pin_at I4, I4.kIn⟩, ?_⟩) (hst _) (hpl _)
      refine thn (run_bound (F2.mono hk2) hgd (hr.deeper _) hb2 hd2 hx I4 rv h4) fun u s4 hs4 => ?_
      obtain ⟨v4, H4, I5, _, h5⟩ := hs4
      exact wpAt_of_wpAny (wpAny_mono (q2.run [] s4 σ1 H4 _ I5 h5) (fun fl s5 hs5 => fin fl s5 hs5) fun _ _ z => z)
  have := main (C8.fnBody st)
  rw [← hbd] at this
  exact this
end Ev
namespace Pu
open PySem PySem.Spec PyProof.Rows L2
def mSup (cn : Str) (k : Nat) (m : Str → List (Str × PV) → List PV → M (List (Str × PV))) (r : PEnv → M (List PV)) : MS := fun W D env n => match env[(0 : Nat)]? with
  | some (.obj c fs) => c = cn ∧ r env (W env) n fun args n1 => args.length + 1 = k ∧ m c fs args (W env) n1 fun fs' n2 => D.nx (env.set 0 (.obj c fs')) n2
  | _ => False
section
variable {z : Z}
theorem Fr.own {G H G' H' : Hp} {a : Addr} (fr : Fr z G H) (mine : Mine z G a) (st : Step (fun b => b = z.p ∨ b = a) G H G' H') : Fr z G' H' :=
  ⟨⟨fr.st.same.trans st.same, fun b o e nb nt => st.keep b o (fr.st.keep b o e nb nt) (fun q => by
    rcases q with q | q
    · exact nb (by rw [q]; exact fr.mp)
    · subst q
      rcases mine.h with h | h
      · exact h ⟨o, e, nt⟩
      · exact nb h) nt, fun b o e nb => fr.st.new b o (st.new b o e (fr.st.al b nb)) nb, fun b h => st.al b (fr.st.al b h)⟩, fr.mp, fr.sx.trans st.same⟩
theorem EnvRel.own {G H G' H' : Hp} {σ : L2.St} {env : PEnv} {i : Nat} {a : Addr} {s s' : Pu.Slot} (e : EnvRel z G H σ env) (hs : σ[i]? = some (some (.ref a))) (he : env[i]? = some s) (os : s.isOwn = true) (os' : s'.isOwn = true)
    (st : Step (fun b => b = z.p ∨ b = a) G H G' H') (h : SlotRel z G' H' (some (.ref a)) s') : EnvRel z G' H' σ (env.set i s') := by
  refine ⟨fun j u hj => ?_, fun j k u u' b njk hj hk ou ou' aj ak => ?_, by rw [List.length_set, e.len]⟩
  · rcases get_set hj with ⟨rfl, rfl, hl⟩ | ⟨ne, hj⟩
    · exact ⟨_, hs, h⟩
    · obtain ⟨y, hy, r⟩ := e.at_ j u hj
      refine ⟨y, hy, ?_⟩
      have na : ∀ b, u.isOwn = true → y = some (.ref b) → b ≠ a := fun b ou yb q => by
        subst q
        exact e.df j i u s b ne hj he ou os (by rw [hy, yb]) hs
      have mi : ∀ {b o}, H b = some o → NT o → Mine z G b → Mine z G' b := fun {b o} hb nt m => by
        refine ⟨?_, m.p, m.c, m.h⟩
        cases q : G' b with
        | none => rfl
        | some v =>
          have := st.new b v q ⟨o, hb, nt⟩
          rw [m.g] at this
          cases this
      cases u with
      | no => trivial
      | val q => exact let ⟨v, e, r⟩ := r; ⟨v, e, r.mono st.same⟩
      | own ps =>
        obtain ⟨b, vs, rfl, hb, mb, h0, rb⟩ := r
        refine ⟨b, vs, rfl, st.keep _ _ hb (fun q => ?_) nt_lst, mi hb nt_lst mb, h0, rb.mono st.same⟩
        rcases q with q | q
        · exact mb.p q
        · exact na b rfl rfl q
      | obj c fs =>
        obtain ⟨b, C, dx, vs, rfl, hc, hb, mb, rb, me⟩ := r
        refine ⟨b, C, dx, vs, rfl, hc, st.keep _ _ hb (fun q => ?_) nt_ins, mi hb nt_ins mb, rb.mono st.same, me⟩
        rcases q with q | q
        · exact mb.p q
        · exact na b rfl rfl q
  · have key : ∀ {j : Nat} {u : Pu.Slot}, (env.set i s')[j]? = some u → u.isOwn = true → ∃ w : Pu.Slot, env[j]? = some w ∧ w.isOwn = true := fun {j u} hj ou => by
      rcases get_set hj with ⟨rfl, rfl, hl⟩ | ⟨ne, hj⟩
      · exact ⟨s, he, os⟩
      · exact ⟨u, hj, ou⟩
    obtain ⟨w, hw, ow⟩ := key hj ou
    obtain ⟨w', hw', ow'⟩ := key hk ou'
    exact e.df j k w w' b njk hw hw' ow ow' aj ak
theorem sim_sup {cn : Str} {C : Addr} {k : Nat} {m : Str → List (Str × PV) → List PV → M (List (Str × PV))} {E : XK} {ta : TA} {ma : PEnv → M (List PV)} (hW : z.W = fun _ => W0) (hc : z.cm cn = some C) (ha : SimA z ta ma) : SimS z (Ev.tSup C (spI z.K z.cm k m) [] E ta) (mSup cn k m ma) := by
  intro σ env G H n D Dp ok fr er hm ed
  unfold mSup at hm
  split at hm
  · rename_i c fs he
    obtain ⟨rfl, hm⟩ := hm
    obtain ⟨_, hx, a, C', dx, vs, rfl, hc', hh, mine, rf, me⟩ := er.at_ 0 _ he
    rw [hc] at hc'
    cases hc'
    refine ⟨a, dx, vs, hx, hh, ?_⟩
    refine ha.bind ok fr er hm fun us args G1 H1 n1 ok1 fr1 er1 s1 r1 hm1 => ?_
    obtain ⟨_, hx1, a1, C1, dx1, vs1, e1, hc1, hh1, mine1, rf1, me1⟩ := er1.at_ 0 _ he
    rw [hx] at hx1
    cases Option.some.inj hx1
    cases e1
    rw [hc] at hc1
    cases hc1
    rw [List.append_nil]
    refine ⟨z.p, z.c, G1, n1, c, C, a, dx1, us, vs1, fs, args, z.W env, _, rfl, by rw [r1.len]; exact hm1.1, ok1, hc, hh1, mine1.g, mine1.p, mine1.c, rf1, r1, hm1.2, fun vf' fs' G' H' n' ok' st' hx' gx' rf' hq' => ?_, fun cn fs2 C2 d G' H' n' ok' st' hc2 rx hw => ?_⟩
    · refine ed.nx σ _ G' H' n' (s1.same.trans st'.same) ok' (fr1.own mine1 st') ?_ hq'
      exact er1.own hx he rfl rfl st' ⟨a, C, dx1, vf', rfl, hc, hx', ⟨gx', mine1.p, mine1.c, mine1.h⟩, rf', me1⟩
    · rw [hW] at hw
      exact hw.elim
  · exact hm.elim
end
theorem PA_nox {X : Cx} {es : List Expr} {t : TA} (h : PA X.nox es t) : PA X es t := ⟨fun pos pins s σ H Q I hw =>
  wpAny_mono (h.run pos pins s σ H Q (I.wish _) hw) (fun _ _ ⟨v, H', I', r, q⟩ => ⟨v, H', I'.unwish, r, q⟩) fun _ _ z => False.elim z⟩
theorem qinitS {P : Program} {w : World} {K : PySem.W.Frag} {mg : Str → Option Value} {base : Heap} {x qual : Str} {st : Stmt} {f cc D f2 : Addr} {fd fd2 : FuncData} {N ps ps2 : List Str} {k k2 k3 : Nat} {cm : Md} {cn0 : Str}
    {pre post : List Stmt} {p0 p1 apos pos pos' : Pos} {e : Expr} {es : List Expr} {ar : Arg} {m2 : Str → List (Str × PV) → List PV → M (List (Str × PV))} {b1 b2 : MS} {ma : PEnv → M (List PV)} (hN : ps.length ≤ N.length)
    (F : Ev.FnS P K x qual st f cc D fd) (S : Ev.ScS N ps (C8.fnScope st)) (SP : Ev.Sup P K mg D "__init__" f2) (hcn : cm cn0 = some D) (hp : ((C8.fnArgs st).posonlyargs ++ (C8.fnArgs st).args).head? = some ar) (hn : N[0]? = some ar.arg) (hpa : (C8.fnScope st).names.lookup ar.arg = some .local)
    (hbd : C8.fnBody st = pre ++ (.Expr (.Call (.Attribute (.Call (.Name "super" p0) [] [] p1) "__init__" apos) (e :: es) [] pos) pos' :: post))
    (F2 : Ev.GOk P w K mg base (L2.CX P w) k2 f2 fd2 ps2 (spI K cm k3 m2)) (hk2 : k2 ≤ k) (hb2 : Binds K fd2 ps2 [])
    (hb : ∀ (cda : Addr) (A : Around) (outer : List Env) (s : Shared) (H : Hp) (E : XK), (A.deeper (PySem.W.ksEnv qual (C8.fnScope st) s.heap.objs.size f (.ref cda) cc)).guards = some [] → Room k (A.deeper (PySem.W.ksEnv qual (C8.fnScope st) s.heap.objs.size f (.ref cda) cc)) →
      ∃ t1 ta t2, PSs (Ev.cxS (L2.CX P w) P w K mg base N qual (C8.fnScope st) f cda cc A outer s H E).nox pre t1 ∧ PA (Ev.cxS (L2.CX P w) P w K mg base N qual (C8.fnScope st) f cda cc A outer s H E).nox (e :: es) ta ∧ PSs (Ev.cxS (L2.CX P w) P w K mg base N qual (C8.fnScope st) f cda cc A outer s H E).nox post t2 ∧
        ∀ z : Z, z.K = K → z.cm = cm → z.W = (fun _ => W0) → SimS z t1 b1 ∧ SimA z ta ma ∧ SimS z t2 b2)
    (hst : ∀ env : Env, starEach (e :: es) env = (false, eval e env) :: starEach es env) (hpl : ∀ env : Env, (backTo pos (starEach es env)).any (·.1) = false)
    (pl : Env → Sem Bool) (hev : ∀ env : Env, eval (.Call (.Attribute (.Call (.Name "super" p0) [] [] p1) "__init__" apos) (e :: es) [] pos) env = (do
      let ov ← attributeBase (.Call (.Name "super" p0) [] [] p1) "__init__" env (eval (.Call (.Name "super" p0) [] [] p1) env)
      standAt apos.atName
      let (f, first) ← holding [ov] (getMethod ov "__init__" (pl env))
      callWith pos f first (backTo pos (starEach (e :: es) env)) [])) :
    Ev.GOk P w K mg base (L2.CX P w) (k + 1) f fd ps (spI K cm ps.length (mInit0 N.length (mSeq b1 (mSeq (mSup cn0 k3 m2 ma) b2)))) := by
  refine Ev.gfnS (dvs := []) F S SP hp hn hpa (by decide +kernel) hbd (fun vs H Q E h => ?_) F2 hk2 hb2 .nil (fun cda A outer s H vs Q E hgd hr h => ?_) hst hpl pl hev
  · obtain ⟨_, _, _, _, _, _, _, _, us, _, _, _, _, _, rfl, hl, _⟩ := h
    exact hl
  · obtain ⟨p, c, G, n, cn, C, x, dx, us, vf, fs, args, Wp, Qp, rfl, hl, ok, hc, hx, gx, nxp, nxc, rf, rl, hm, hq, _⟩ := h
    obtain ⟨t1, ta, t2, q1, qa, q2, hs⟩ := hb cda A outer s H E hgd hr
    refine ⟨t1, ta, t2, E0, q1.nox, PA_nox qa, q2.nox, passL, ?_⟩
    have es : L2.start N (V.ref x :: us) = some (.ref x) :: (us.map some ++ List.replicate (N.length - 1 - us.length) none) := by
      simp [L2.start]
      omega
    rw [es]
    have er := envStart (z := ⟨K, cm, p, c, H, G, fun b => b = p ∨ b = x, fun _ => W0, G, x, C, dx⟩) (H := H) (k := N.length - 1) rl (by omega)
    obtain ⟨s1, s2, s3⟩ := hs ⟨K, cm, p, c, H, G, fun b => b = p ∨ b = x, fun _ => W0, G, x, C, dx⟩ rfl rfl rfl
    refine (sim_seq s1 (sim_seq (sim_sup (E := E0) rfl hcn s2) s3)) _ (.obj cn fs :: startP (N.length - 1) args) G H n _ _ ok ⟨Step.refl _ _ _, .inl rfl, Same.refl _⟩ ⟨fun i s h => ?_, fun i j s s' a nij hi hj os os' _ _ => ?_, by simp [er.len]⟩ hm ⟨fun σ env G' H' n' _ ok' fr' er' h' => ?_, fun _ _ _ _ _ _ _ _ _ h' => h'.elim, fun _ _ _ _ _ _ _ _ _ h' => h', fun _ _ _ _ _ _ _ _ _ h' => h'⟩
    · cases i with
      | zero =>
        cases h
        exact ⟨_, rfl, x, C, dx, vf, rfl, hc, hx, ⟨gx, nxp, nxc, .inr (.inr rfl)⟩, rf, rfl, rfl, rfl⟩
      | succ i => exact er.at_ i s h
    · have key : ∀ (l : Nat) (u : Pu.Slot), (Pu.Slot.obj cn fs :: startP (N.length - 1) args)[l]? = some u → u.isOwn = true → l = 0 := fun l u hl ou => by
        cases l with
        | zero => rfl
        | succ l =>
          have := startP_own (show (startP (N.length - 1) args)[l]? = some u from hl)
          rw [this] at ou
          cases ou
      exact nij ((key i s hi os).trans (key j s' hj os').symm)
    · have h' : initEnd Qp env n' := h'
      unfold initEnd at h'
      split at h'
      · rename_i fs' rest _
        obtain ⟨_, _, a, C', dx', vf', _, hc', hh, mine, rf', rfl, rfl, rfl⟩ := er'.at_ 0 _ rfl
        exact hq vf' fs' G' H' n' ok' fr'.st hh mine.g rf' h'
      · exact h'.elim
end Pu
namespace Ev
open PySem PySem.Spec PyProof.Rows L2
section
variable {X : Cx} {k j : Nat} {E : XK} {m : Str} {sp : Sp} {dvs : List V} {pos apos : Pos} {e o : Expr} {es : List Expr} {ta : TE} {t tk : TA} {kws : List Keyword} {ks : List Str} {gV : List V → List V → List V}
def tStatD (D : Addr → Prop) (m : Str) (sp : Sp) (dvs : List V) (E : XK) (ta : TE) (t : TA) : TE := fun σ H Q => ta σ H fun x H1 => ∃ a C dx fs, x = .ref a ∧ D C ∧ H1 a = some (.ins C dx fs) ∧ fs.lookup m = none ∧ t σ H1 fun vs H2 => sp (vs ++ dvs) H2 Q E
theorem pe_sD {D : Addr → Prop} {pl : Sem Bool} (c : ∀ C, D C → GS X.prog X.w X.K X.mg X.base k C m sp dvs) (hgd : X.A.guards = some []) (hr : Room j X.A) (hk : k ≤ j) (hx : Passes (L2.CX X.prog X.w) X E) (he : PE X o ta) (ha : PA X (e :: es) t)
    (hst : starEach (e :: es) X.env = (false, eval e X.env) :: starEach es X.env := by rfl) (hpl : (backTo pos (starEach es X.env)).any (·.1) = false := by rfl)
    (ht : eval (.Call (.Attribute o m apos) (e :: es) [] pos) X.env = (do
      let ov ← eval o X.env
      standAt apos.atName
      let (f, first) ← holding [ov] (getMethod ov m pl)
      callWith pos f first (backTo pos (starEach (e :: es) X.env)) (backToKw pos (keywordEach [] X.env))) := by rfl) :
    PE X (.Call (.Attribute o m apos) (e :: es) [] pos) (tStatD D m sp dvs E ta t) := by
  refine ⟨fun pins s σ H Q I h => PySem.W.methodCall_KW (pl := pl) (thn (he.run pins s σ H _ I h) fun u s1 ⟨x, H1, I1, rx, a, C, dx, fs, ex, hD, ea, l, q⟩ => ?_) ht⟩
  obtain ⟨p, f, fd, ps, ds, hc, ha', hty, hg, htk, hcp, ⟨rest, hrc⟩, hkp, F, b, d⟩ := (c C hD).ex
  subst ex
  cases rx
  obtain ⟨mA, O, r, _, _, _⟩ := ins_get I1.hok ea
  have hn : mA m = none := RelO.none_of (by rw [← l]; exact r m)
  obtain ⟨od, J, hl⟩ := O.look
  have hl' : PySem.W.lookIn m od = some none := by
    have := hl m
    rw [hn] at this
    exact this
  have hcl : PySem.W.isClsIn X.K C = true := by
    obtain ⟨cd, hc', _⟩ := PySem.W.any_some hc.hd
    show (PySem.W.clsIn X.K C).isSome = true
    rw [hc']
    rfl
  refine PySem.W.method_usual (r := some (.ref p)) I1.kIn J (PySem.W.plainGet_of (hc.get m)).1 (PySem.W.plainGet_of (hc.get m)).2 ha' ?_ ?_
  · simp only [Option.all_some, hty, Option.any_some]
    decide +kernel
  · refine PySem.W.get_bind I1.kIn J (PySem.W.plainGet_of (hc.get m)).1 (ClX.find_cm hcl ha' hg htk hcp hl') (PySem.W.plainGet_of (hc.get m)).2 ?_
    refine wpAny_call (PySem.W.sm_get (s := { s1 with toks := s1.toks + 1 }) I1.kIn hrc (PySem.W.handed_on rfl ?_))
    exact PySem.W.callWith_K (first := []) (h₀ := X.base) I.ok.mod.kin hkp (thn (ha.run pos pins _ σ H1 _ (I1.tok _) q) fun us s2 ⟨vs, H2, I2, r, q2⟩ => ⟨I2.kIn, run_gp F hgd (hr.mono hk) b d hx I2 r q2⟩) hst hpl
def tMethDK (D : Addr → Sp → Prop) (m : Str) (l : Nat) (gV : List V → List V → List V) (E : XK) (ta : TE) (tk : TA) : TE := fun σ H Q => ta σ H fun x H1 => ∃ a C sp dx fs, x = .ref a ∧ D C sp ∧ H1 a = some (.ins C dx fs) ∧ fs.lookup m = none ∧ tk σ H1 fun zs H3 => zs.length = l ∧ sp (gV [x] zs) H3 Q E
theorem pe_mDK0 {D : Addr → Sp → Prop} {pl : Sem Bool} (c : ∀ C sp, D C sp → GMK X.prog X.w X.K X.mg X.base k C m sp 0 ks gV) (hgd : X.A.guards = some []) (hr : Room j X.A) (hk : k ≤ j) (hx : Passes (L2.CX X.prog X.w) X E) (ho : PE X o ta)
    (hkw : PK X kws tk) (hall : (backToKw pos (keywordEach kws X.env)).all (·.1.isSome) = true := by rfl) (hks : (backToKw pos (keywordEach kws X.env)).filterMap (·.1) = ks := by rfl)
    (hpl : ((backTo pos (starEach [] X.env)).any (·.1) || (backToKw pos (keywordEach kws X.env)).any (·.1.isNone)) = false := by rfl)
    (ht : eval (.Call (.Attribute o m apos) [] kws pos) X.env = (do
      let ov ← eval o X.env
      standAt apos.atName
      let (f, first) ← holding [ov] (getMethod ov m pl)
      callWith pos f first (backTo pos (starEach [] X.env)) (backToKw pos (keywordEach kws X.env))) := by rfl) :
    PE X (.Call (.Attribute o m apos) [] kws pos) (tMethDK D m ks.length gV E ta tk) := by
  refine ⟨fun pins s σ H Q I h => PySem.W.methodCall_KW (pl := pl) (thn (ho.run pins s σ H _ I h) fun u s1 ⟨x, H1, I1, rx, a, C, sp, dx, fs, ex, hD, ea, l, q⟩ => ?_) ht⟩
  subst ex
  cases rx
  obtain ⟨_, _, _, _, hc, hm, F, b⟩ := (c C sp hD).ex
  refine getmeth_ok I1 ea hc hm l (PySem.W.callWith_KW0 (first := [.ref a]) (h₀ := X.base) I.ok.mod.kin hm.kp hall ?_ hpl)
  refine thn (hkw.run pos pins s1 σ H1 _ I1 q) fun ws s3 ⟨zs, H3, I3, rz, l2, q3⟩ => ⟨I3.kIn, ?_⟩
  rw [hks]
  exact run_gmk (us := []) (vs := []) F hgd (hr.mono hk) b hx I3 .nil rz rfl l2 q3
end
end Ev
namespace Pu
open PySem PySem.Spec PyProof.Rows L2
def mStatO (cs : List Str) (f : Str) (k : Nat) (m : List PV → M PV) (i : Nat) (r : PEnv → M (List PV)) : PEnv → M PV := fun env W n Q => match env[i]? with
  | some (.obj c fs) => cs.contains c = true ∧ fs.lookup f = none ∧ r env W n fun args n2 => args.length = k ∧ m args W n2 Q
  | _ => False
def mStat (cs : List Str) (f : Str) (k : Nat) (m : List PV → M PV) (a : PEnv → M PV) (r : PEnv → M (List PV)) : PEnv → M PV := fun env W n Q => a env W n fun x n1 => match x with
  | .ins c fs => cs.contains c = true ∧ fs.lookup f = none ∧ r env W n1 fun args n2 => args.length = k ∧ m args W n2 Q
  | _ => False
def mMethOD (ms : Ms) (f : Str) (k : Nat) (i : Nat) (r : PEnv → M (List PV)) : PEnv → M PV := fun env W n Q => match env[i]? with
  | some (.obj c fs) => match ms.lookup c with
    | some m => fs.lookup f = none ∧ r env W n fun args n2 => args.length + 1 = k ∧ m (.ins c fs :: args) W0 n2 fun q n3 => q.isAtom = true ∧ Q q n3
    | none => False
  | _ => False
def mMethDK (ms : Ms) (f : Str) (l k : Nat) (gP : List PV → List PV → List PV) (a : PEnv → M PV) (s : PEnv → M (List PV)) : PEnv → M PV := fun env W n Q => a env W n fun x n1 => match x with
  | .ins c fs => match ms.lookup c with
    | some m => fs.lookup f = none ∧ s env W n1 fun qs n2 => qs.length = l ∧ (gP [] qs).length + 1 = k ∧ m (.ins c fs :: gP [] qs) W n2 Q
    | none => False
  | _ => False
def cutP (xs : List PV) (lo hi : Option Int) : List PV := (xs.drop (HT.sIx xs.length 0 lo)).take (HT.sIx xs.length xs.length hi - HT.sIx xs.length 0 lo)
def mNoPart : PEnv → M (Option Int) := fun _ _ n Q => Q none n
def mPart (a : PEnv → M PV) : PEnv → M (Option Int) := fun env W n Q => a env W n fun x n1 => match x with
  | .int i => Q (some i) n1
  | _ => False
def mSl (r : PV → Option Int → Option Int → M PV) (a : PEnv → M PV) (l h : PEnv → M (Option Int)) : PEnv → M PV := fun env W n Q => a env W n fun x n1 => l env W n1 fun lo n2 => h env W n2 fun hi n3 => r x lo hi W n3 Q
def pSlT : PV → Option Int → Option Int → M PV := fun x lo hi _ n Q => match x with
  | .tup xs => Q (.tup (cutP xs lo hi)) n
  | _ => False
def pSlL : PV → Option Int → Option Int → M PV := fun x lo hi _ n Q => match x with
  | .lst xs => Q (.lst (cutP xs lo hi)) n
  | _ => False
def pSlS : PV → Option Int → Option Int → M PV := fun x lo hi _ n Q => match x with
  | .str s => s.length ≤ 1000000 ∧ Q (.str (cutS s lo hi)) n
  | _ => False
def mLrg1 (a : PEnv → M PV) : PEnv → M PV := fun env W n Q => a env W n fun x n1 => match x with
  | .int j => j ≤ 1000000 ∧ -1000000 ≤ j ∧ Q (.lst (rngP 0 j.toNat)) n1
  | _ => False
def mLrg2 (a b : PEnv → M PV) : PEnv → M PV := fun env W n Q => a env W n fun x n1 => b env W n1 fun y n2 => match x, y with
  | .int i, .int j => -1000000 ≤ i ∧ i ≤ 1000000 ∧ j ≤ 1000000 ∧ -1000000 ≤ j ∧ Q (.lst (rngP i (j - i).toNat)) n2
  | _, _ => False
def SimSl (z : Z) (r : V → Option Int → Option Int → Hp → VK → Prop) (po : PV → Option Int → Option Int → M PV) : Prop := ∀ (σ : L2.St) (env : PEnv) (G H : Hp) (n : Nat) (Qp : PV → Nat → Prop) (Q : VK) (x : V) (px : PV) (lo hi : Option Int),
  Ok z.cm z.p z.c G H n → Fr z G H → EnvRel z G H σ env → z.rep G x px → po px lo hi (z.W env) n Qp → Post z z.rep G H Qp Q → r x lo hi H Q
section
variable {z : Z}
theorem atom_rep' {G G' : Hp} {v : V} {q : PV} (h : q.isAtom = true) (r : z.rep G v q) : z.rep G' v q := atom_rep h r
theorem sim_noPart : Sim z eqO tNoPart mNoPart := fun σ env G H n Qp Q ok fr er hm hq => hq.here ok rfl hm
theorem sim_part {te : TE} {m : PEnv → M PV} (h : SimE z te m) : Sim z eqO (tPart te) (mPart m) := by
  intro σ env G H n Qp Q ok fr er hm hq
  refine h.bind ok fr er hm fun x px G1 H1 n1 ok1 fr1 er1 s1 r1 hm1 => ?_
  cases r1 <;> try exact hm1.elim
  exact ⟨_, rfl, (hq.step s1).here ok1 rfl hm1⟩
theorem sim_sl {r : V → Option Int → Option Int → Hp → VK → Prop} {po : PV → Option Int → Option Int → M PV} {te : TE} {tl th : TO} {m : PEnv → M PV} {ml mh : PEnv → M (Option Int)} (hr : SimSl z r po) (h : SimE z te m) (hl : Sim z eqO tl ml) (hh : Sim z eqO th mh) : SimE z (tSl r te tl th) (mSl po m ml mh) := by
  intro σ env G H n Qp Q ok fr er hm hq
  refine h.bind ok fr er hm fun x px G1 H1 n1 ok1 fr1 er1 s1 r1 hm1 => ?_
  refine hl.bind ok1 fr1 er1 hm1 fun lo plo G2 H2 n2 ok2 fr2 er2 s2 r2 hm2 => ?_
  cases r2
  refine hh.bind ok2 fr2 er2 hm2 fun hi phi G3 H3 n3 ok3 fr3 er3 s3 r3 hm3 => ?_
  cases r3
  exact hr σ env G3 H3 n3 Qp Q x px lo hi ok3 fr3 er3 ((r1.mono s2.same).mono s3.same) hm3 (((hq.step s1).step s2).step s3)
theorem cut_rep {G : Hp} {vs : List V} {ps : List PV} {lo hi : Option Int} (r : z.repL G vs ps) : z.repL G (cutV vs lo hi) (cutP ps lo hi) := by
  unfold cutV cutP
  rw [r.len]
  exact (r.drop _).take _
theorem simS_slT : SimSl z (rSlA z.K) pSlT := by
  intro σ env G H n Qp Q x px lo hi ok fr er rx hm hq
  cases rx <;> try exact hm.elim
  rename_i a vs ps hs rl
  refine ⟨a, vs, rfl, Ev.Same.seqT ok.sub hs, fun hw => ?_, fun _ p hp => ?_⟩
  · have e : cutP ps lo hi = ps := by
      unfold cutP
      rw [rl.len] at hw
      rw [hw.1, hw.2]
      simp
    have hm : Qp (.tup (cutP ps lo hi)) n := hm
    rw [e] at hm
    exact hq.here ok (.tup hs rl) hm
  · obtain ⟨ok2, s2⟩ := ok.new (o := .tup (cutV vs lo hi)) hp
    exact (hq.step s2).here ok2 (.tup (SqT.of upd_same) ((cut_rep rl).mono s2.same)) hm
theorem simS_slL : SimSl z (rSlL z.K) pSlL := by
  intro σ env G H n Qp Q x px lo hi ok fr er rx hm hq
  cases rx <;> try exact hm.elim
  rename_i a vs ps hs rl
  refine ⟨a, vs, rfl, SqL.of (ok.sub _ _ hs), fun p hp => ?_⟩
  obtain ⟨ok2, s2⟩ := ok.new (o := .lst (cutV vs lo hi)) hp
  exact (hq.step s2).here ok2 (.lst upd_same ((cut_rep rl).mono s2.same)) hm
theorem simS_slS : SimSl z rSlS pSlS := by
  intro σ env G H n Qp Q x px lo hi ok fr er rx hm hq
  cases rx <;> try exact hm.elim
  exact ⟨_, rfl, line_of hm.1, hq.here ok (.str _) hm.2⟩
theorem sim_cval {C : Addr} {f : Str} {v : V} {q : PV} (hk : ∃ mc u, ClX.CRead z.K C mc ∧ ClX.CVal z.K C mc f v u) (hr : ∀ G, z.rep G v q) : SimE z (ClX.tCVal z.K (tC (.ref C)) f) (mC q) := by
  intro σ env G H n Qp Q ok fr er hm hq
  obtain ⟨mc, u, a, b⟩ := hk
  exact ⟨C, mc, v, u, rfl, a, b, hq.here ok (hr G) hm⟩
theorem lk_none {G : Hp} {vs : List (Str × V)} {ps : List (Str × PV)} {f : Str} (rf : z.repF G vs ps) (h : ps.lookup f = none) : vs.lookup f = none := by
  rcases rf.look (f := f) with ⟨_, e⟩ | ⟨x, y, e, _⟩
  · exact e
  · rw [h] at e
    cases e
theorem sim_statO {cs : List Str} {f : Str} {D : Addr → Prop} {k i : Nat} {m : List PV → M PV} {E : XK} {tr : TA} {mr : PEnv → M (List PV)} (hl : Link z E) (hD : ∀ c C, cs.contains c = true → z.cm c = some C → D C) (hr : SimA z tr mr) :
    SimE z (Ev.tStatD D f (spP z.K z.cm k m) [] E (tVar i) tr) (mStatO cs f k m i mr) := by
  intro σ env G H n Qp Q ok fr er hm hq
  unfold mStatO at hm
  split at hm
  · rename_i c fs he
    obtain ⟨x, hx, a, C, dx, vs, rfl, hc, hh, mine, rf, me⟩ := er.at_ i _ he
    obtain ⟨h1, hf, hm1⟩ := hm
    refine ⟨_, hx, a, C, dx, vs, rfl, hD c C h1 hc, hh, lk_none rf hf, ?_⟩
    refine hr.bind ok fr er hm1 fun us args G2 H2 n2 ok2 fr2 er2 s2 r2 hm2 => ?_
    rw [List.append_nil]
    refine ⟨z.p, z.c, G2, n2, args, z.W env, Qp, r2.len.trans hm2.1, ok2, r2, hm2.2, fun v q G' H' n' ok' st' r' hq' => (hq.step s2) v q G' H' n' ok' st' r' hq', fun cn fs C d G' H' n' ok' st' hc rx hw => ?_⟩
    exact hl σ env G' H' n' cn fs C d ok' (fr2.stepP st') (er2.step st') hc rx hw
  · exact hm.elim
theorem sim_stat {cs : List Str} {f : Str} {D : Addr → Prop} {k : Nat} {m : List PV → M PV} {E : XK} {ta : TE} {tr : TA} {ma : PEnv → M PV} {mr : PEnv → M (List PV)} (hl : Link z E) (hD : ∀ c C, cs.contains c = true → z.cm c = some C → D C) (ha : SimE z ta ma) (hr : SimA z tr mr) :
    SimE z (Ev.tStatD D f (spP z.K z.cm k m) [] E ta tr) (mStat cs f k m ma mr) := by
  intro σ env G H n Qp Q ok fr er hm hq
  refine ha.bind ok fr er hm fun x px G1 H1 n1 ok1 fr1 er1 s1 r1 hm1 => ?_
  cases r1 <;> try exact hm1.elim
  rename_i a C dx c vs ps hc hg rf
  obtain ⟨h1, hf, hm1⟩ := hm1
  refine ⟨a, C, dx, vs, rfl, hD c C h1 hc, ok1.sub _ _ hg, lk_none rf hf, ?_⟩
  refine hr.bind ok1 fr1 er1 hm1 fun us args G2 H2 n2 ok2 fr2 er2 s2 r2 hm2 => ?_
  rw [List.append_nil]
  refine ⟨z.p, z.c, G2, n2, args, z.W env, Qp, r2.len.trans hm2.1, ok2, r2, hm2.2, fun v q G' H' n' ok' st' r' hq' => ((hq.step s1).step s2) v q G' H' n' ok' st' r' hq', fun cn fs C d G' H' n' ok' st' hc rx hw => ?_⟩
  exact hl σ env G' H' n' cn fs C d ok' (fr2.stepP st') (er2.step st') hc rx hw
theorem sim_methOD {ms : Ms} {f : Str} {D : Addr → Sp → Prop} {k i : Nat} {E : XK} {tr : TA} {mr : PEnv → M (List PV)} (hD : ∀ c m C, ms.lookup c = some m → z.cm c = some C → D C (spP z.K z.cm k m)) (hr : SimA z tr mr) :
    SimE z (Ev.tMethD D f [] E (tVar i) tr) (mMethOD ms f k i mr) := by
  intro σ env G H n Qp Q ok fr er hm hq
  unfold mMethOD at hm
  split at hm
  · rename_i c fs he
    split at hm
    · rename_i m hlk
      obtain ⟨x, hx, a, C', dx, vs, rfl, hc, hh, mine, rf, me⟩ := er.at_ i _ he
      obtain ⟨hf, hm1⟩ := hm
      refine ⟨_, hx, a, C', _, dx, vs, rfl, hD c m C' hlk hc, hh, lk_none rf hf, ?_⟩
      refine hr.bind ok fr er hm1 fun us args G2 H2 n2 ok2 fr2 er2 s2 r2 hm2 => ?_
      obtain ⟨_, hx2, a2, C2, dx2, vs2, e2, hc2, hh2, mine2, rf2, me2⟩ := er2.at_ i _ he
      rw [hx] at hx2
      cases Option.some.inj hx2
      cases e2
      rw [hc] at hc2
      cases hc2
      rw [List.append_nil]
      have sg : Same G2 (upd G2 a (.ins C' dx2 vs2)) := fun b o e => Ev.get_new e mine2.g
      have ok3 : Ok z.cm z.p z.c (upd G2 a (.ins C' dx2 vs2)) H2 n2 := ⟨fun b o e => by
        by_cases q : b = a
        · subst q
          rw [upd_same] at e
          rw [← e]
          exact hh2
        · rw [upd_ne q] at e
          exact ok2.sub _ _ e, ok2.pen, (upd_ne mine2.p.symm).trans ok2.gp, (upd_ne mine2.c.symm).trans ok2.gc, ok2.tb, gt_upd ok2.gt nt_ins⟩
      have rr : z.repL (upd G2 a (.ins C' dx2 vs2)) (.ref a :: us) (.ins c fs :: args) := .cons (.ins hc upd_same (rf2.mono sg)) (r2.mono sg)
      refine ⟨z.p, z.c, _, n2, _, W0, _, rr.len.trans (by rw [List.length_cons]; exact hm2.1), ok3, rr, hm2.2, fun v q G' H' n' ok' st' r' hq' => ?_, fun cn fs C d G' H' n' ok' st' hc rx hw => hw.elim⟩
      have ok4 : Ok z.cm z.p z.c G2 H' n' := ⟨(sg.trans st'.same).trans ok'.sub, ok'.pen, ok2.gp, ok2.gc, ok'.tb, ok2.gt⟩
      exact (hq.step s2) v q G2 H' n' ok4 ⟨Same.refl _, st'.keep, fun _ _ e _ => e, st'.al⟩ (atom_rep hq'.1 r') hq'.2
    · exact hm.elim
  · exact hm.elim
theorem sim_methDK {ms : Ms} {f : Str} {D : Addr → Sp → Prop} {l k : Nat} {gP : List PV → List PV → List PV} {gV : List V → List V → List V} {E : XK} {ta : TE} {tk : TA} {ma : PEnv → M PV} {mk : PEnv → M (List PV)} (hl : Link z E) (hD : ∀ c m C, ms.lookup c = some m → z.cm c = some C → D C (spP z.K z.cm k m))
    (hg : ∀ G x vs ps zs qs, ps.length = 0 → qs.length = l → z.repL G vs ps → z.repL G zs qs → ∃ us, gV (.ref x :: vs) zs = .ref x :: us ∧ z.repL G us (gP ps qs)) (ha : SimE z ta ma) (hk : SimA z tk mk) :
    SimE z (Ev.tMethDK D f l gV E ta tk) (mMethDK ms f l k gP ma mk) := by
  intro σ env G H n Qp Q ok fr er hm hq
  refine ha.bind ok fr er hm fun x px G1 H1 n1 ok1 fr1 er1 s1 r1 hm1 => ?_
  cases r1 <;> try exact hm1.elim
  rename_i a C dx c vs ps hc hgg rf
  simp only at hm1
  split at hm1
  · rename_i m hlk
    obtain ⟨hf, hm1⟩ := hm1
    refine ⟨a, C, _, dx, vs, rfl, hD c m C hlk hc, ok1.sub _ _ hgg, lk_none rf hf, ?_⟩
    refine hk.bind ok1 fr1 er1 hm1 fun zs qs G2 H2 n2 ok2 fr2 er2 s2 r2 hm2 => ?_
    obtain ⟨l1, l2, hm2⟩ := hm2
    obtain ⟨us, eu, ru⟩ := hg G2 a [] [] zs qs rfl l1 .nil r2
    refine ⟨r2.len.trans l1, ?_⟩
    rw [eu]
    have rr : z.repL G2 (.ref a :: us) (.ins c ps :: gP [] qs) := .cons (.ins hc (s2.same _ _ hgg) (rf.mono s2.same)) ru
    refine ⟨z.p, z.c, G2, n2, _, z.W env, Qp, rr.len.trans (by rw [List.length_cons]; exact l2), ok2, rr, hm2, fun v q G' H' n' ok' st' r' hq' => ((hq.step s1).step s2) v q G' H' n' ok' st' r' hq', fun cn fs C d G' H' n' ok' st' hc rx hw => ?_⟩
    exact hl σ env G' H' n' cn fs C d ok' (fr2.stepP st') (er2.step st') hc rx hw
  · exact hm1.elim
end
end Pu
namespace Pu
open PySem PySem.Spec PyProof.Rows L2
section
variable {z : Z}
theorem rep_rg {G : Hp} {a : Int} : ∀ l : List Nat, z.repL G (l.map fun (i : Nat) => V.int (a + i)) (l.map fun (i : Nat) => PV.int (a + i))
  | [] => .nil
  | _ :: l => .cons (.int _) (rep_rg l)
theorem sim_lrg1 {te : TE} {m : PEnv → M PV} (h : SimE z te m) : SimE z (tLstRg (tRg1 te)) (mLrg1 m) := by
  intro σ env G H n Qp Q ok fr er hm hq
  refine h.bind ok fr er hm fun x px G1 H1 n1 ok1 fr1 er1 s1 r1 hm1 => ?_
  cases r1 <;> try exact hm1.elim
  rename_i j
  obtain ⟨h1, h2, hm1⟩ := hm1
  refine ⟨_, rfl, ⟨by omega, by omega, by omega, by omega, by omega⟩, fun q hq1 => ?_⟩
  obtain ⟨ok2, s2⟩ := ok1.new (o := .lst (rgV 0 j)) hq1
  have e : rngP 0 j.toNat = (List.range (j - 0).toNat).map fun (i : Nat) => PV.int (0 + i) := by unfold rngP; rw [Int.sub_zero]
  rw [e] at hm1
  exact ((hq.step s1).step s2).here ok2 (.lst upd_same (rep_rg _)) hm1
theorem sim_lrg2 {te te2 : TE} {m m2 : PEnv → M PV} (h : SimE z te m) (h2 : SimE z te2 m2) : SimE z (tLstRg (tRg2 te te2)) (mLrg2 m m2) := by
  intro σ env G H n Qp Q ok fr er hm hq
  refine h.bind ok fr er hm fun x px G1 H1 n1 ok1 fr1 er1 s1 r1 hm1 => ?_
  refine h2.bind ok1 fr1 er1 hm1 fun y py G2 H2 n2 ok2 fr2 er2 s2 r2 hm2 => ?_
  cases r1 <;> try exact hm2.elim
  cases r2 <;> try exact hm2.elim
  obtain ⟨h1, h2, h3, h4, hm2⟩ := hm2
  refine ⟨_, _, rfl, rfl, ⟨by omega, by omega, by omega, by omega, by omega⟩, fun q hq1 => ?_⟩
  obtain ⟨ok3, s3⟩ := ok2.new (o := .lst (rgV _ _)) hq1 nt_lst
  exact (((hq.step s1).step s2).step s3).here ok3 (.lst upd_same (rep_rg _)) hm2
end
section
variable {K : PySem.W.Frag} {x qual : Str} {params : Arguments} {body : List Stmt} {scope : Scope} {dvs : List V} {kws : List (Str × V)} {ps : List Str} {n : Nat} {ks : List Str} {dV kV doc pm cdv ct : Value} {an : Option Addr} {cc : Addr}
theorem kbn_cl {g : List Value → List Value → List Value} {gV : List V → List V → List V} (h : KBn K (PySem.W.fnOf x qual params body scope dV kV doc pm an cdv ct) ps n ks g gV) : KBn K (PySem.W.ksFn x qual params body scope dV kV doc pm an cdv ct cc) ps n ks g gV := ⟨h.to, h.rel⟩
theorem kbC_DK (hD : DflV K dV dvs) (hK : KwdV K kV kws) (ms : List (Str × V)) (spec : List (Nat × Nat)) (hd : dvs ≠ []) (hk : kws ≠ []) (hms : ∀ q ∈ ms, q ∈ kws)
    (h : ∀ (T D : Addr) (doc pm : Value) (an : Option Addr) (cdv ct : Value) (us its mv ws : List Value), us.length = n → its.length = dvs.length → mv.length = ms.length → ws.length = ks.length →
      ∃ k, bindArgs (PySem.W.fnOf x qual params body scope (.ref T) (.ref D) doc pm an cdv ct) ⟨us, ks.zip ws⟩ = seqItems? (.ref T) >>= k ∧ KwChain D ((ms.map (·.1)).zip mv) (k (some its.toArray)) (ps.zip (valS its mv spec us ws))) :
    ∃ g, KBn K (PySem.W.ksFn x qual params body scope dV kV doc pm an cdv ct cc) ps n ks g (pkS dvs (ms.map (·.2)) spec) := by
  rcases hD with ⟨e, _⟩ | ⟨_, T, o, its, m, rfl, lT, oT, rT⟩
  · exact absurd e hd
  · rcases hK with e | ⟨D, rfl, hq⟩
    · exact absurd e hk
    · obtain ⟨mv, hl, rk, hks⟩ := kwd_vals (ms := ms) fun q hm => hq q (hms q hm)
      refine ⟨valS its mv spec, kbn_cl ⟨fun s us ws X l1 l2 => ?_, fun r1 r2 => pkS_vals rT rk r1 r2⟩⟩
      obtain ⟨k, e1, e2⟩ := h T D doc pm an cdv ct us its mv ws l1 rT.length.symm hl l2
      refine BindsTo.of_looks fun M => ?_
      rw [e1]
      exact looks_items X lT oT (KwChain.looks X hks e2)
theorem kbC_D0 (hD : DflV K dV dvs) (spec : List (Nat × Nat)) (hd : dvs ≠ [])
    (h : ∀ (T : Addr) (us its ws : List Value), us.length = n → its.length = dvs.length → ws.length = ks.length →
      ∃ k, bindArgs (PySem.W.fnOf x qual params body scope (.ref T) kV doc pm an cdv ct) ⟨us, ks.zip ws⟩ = seqItems? (.ref T) >>= k ∧ k (some its.toArray) = pure (ps.zip (valS its [] spec us ws))) :
    ∃ g, KBn K (PySem.W.ksFn x qual params body scope dV kV doc pm an cdv ct cc) ps n ks g (pkS dvs [] spec) := by
  rcases hD with ⟨e, _⟩ | ⟨_, T, o, its, m, rfl, lT, oT, rT⟩
  · exact absurd e hd
  · refine ⟨valS its [] spec, kbn_cl ⟨fun s us ws X l1 l2 => ?_, fun r1 r2 => pkS_vals rT .nil r1 r2⟩⟩
    obtain ⟨k, e1, e2⟩ := h T us its ws l1 rT.length.symm l2
    refine BindsTo.of_looks fun M => ?_
    rw [e1]
    refine looks_items X lT oT ?_
    rw [e2]
    exact .now
end
section
variable {K : PySem.W.Frag} {x qual : Str} {params : Arguments} {body : List Stmt} {scope : Scope} {dvs : List V} {kws : List (Str × V)} {f : Addr} {fd : FuncData} {ps : List Str} {n : Nat} {ks : List Str}
theorem kbS_D0 (F : FunD K x qual params body scope dvs [] f fd) (spec : List (Nat × Nat)) (hd : dvs ≠ [])
    (h : ∀ (T : Addr) (kV doc pm : Value) (an : Option Addr) (cdv ct : Value) (us its ws : List Value), us.length = n → its.length = dvs.length → ws.length = ks.length →
      ∃ k, bindArgs (PySem.W.fnOf x qual params body scope (.ref T) kV doc pm an cdv ct) ⟨us, ks.zip ws⟩ = seqItems? (.ref T) >>= k ∧ k (some its.toArray) = pure (ps.zip (valS its [] spec us ws))) :
    ∃ g, KBn K fd ps n ks g (pkS dvs [] spec) := by
  obtain ⟨oc, od, dV, kV, doc, pm, an, cdv, ct, osl, rfl, lk, hcd, hD, hK⟩ := F.ex
  rcases hD with ⟨e, _⟩ | ⟨_, T, o, its, m, rfl, lT, oT, rT⟩
  · exact absurd e hd
  · refine ⟨valS its [] spec, ⟨fun s us ws X l1 l2 => ?_, fun r1 r2 => pkS_vals rT .nil r1 r2⟩⟩
    obtain ⟨k, e1, e2⟩ := h T kV doc pm an cdv ct us its ws l1 rT.length.symm l2
    refine BindsTo.of_looks fun M => ?_
    rw [e1]
    refine looks_items X lT oT ?_
    rw [e2]
    exact .now
theorem kb_D0 (F : FunD K x qual params body scope dvs [] f fd) (spec : List (Nat × Nat)) (hd : dvs ≠ [])
    (h : ∀ (T : Addr) (kV doc pm : Value) (an : Option Addr) (cdv ct : Value) (us its ws : List Value), us.length = n → its.length = dvs.length → ws.length = ks.length →
      ∃ k, bindArgs (PySem.W.fnOf x qual params body scope (.ref T) kV doc pm an cdv ct) ⟨us, ks.zip ws⟩ = seqItems? (.ref T) >>= k ∧ k (some its.toArray) = pure (ps.zip (pickS .none [us, its, [], ws] spec))) :
    ∃ g, KBn K fd ps n ks g (pk dvs [] spec) := by
  obtain ⟨oc, od, dV, kV, doc, pm, an, cdv, ct, osl, rfl, lk, hcd, hD, hK⟩ := F.ex
  rcases hD with ⟨e, _⟩ | ⟨_, T, o, its, m, rfl, lT, oT, rT⟩
  · exact absurd e hd
  · refine ⟨fun us ws => pickS .none [us, its, [], ws] spec, ⟨fun s us ws X l1 l2 => ?_, fun r1 r2 => pick_vals r1 rT .nil r2 spec⟩⟩
    obtain ⟨k, e1, e2⟩ := h T kV doc pm an cdv ct us its ws l1 rT.length.symm l2
    refine BindsTo.of_looks fun M => ?_
    rw [e1]
    refine looks_items X lT oT ?_
    rw [e2]
    exact .now
end
end Pu
namespace Pu
open PySem PySem.Spec PyProof.Rows L2
def pCatL : PV → PV → M PV := fun x y _ n Q => match x, y with
  | .lst xs, .lst ys => xs.length + ys.length ≤ 1000000 ∧ Q (.lst (xs ++ ys)) n
  | _, _ => False
def pCatT : PV → PV → M PV := fun x y _ n Q => match x, y with
  | .tup xs, .tup ys => xs.length + ys.length ≤ 1000000 ∧ Q (.tup (xs ++ ys)) n
  | _, _ => False
def pCatS : PV → PV → M PV := fun x y _ n Q => match x, y with
  | .str s, .str t => s.length + t.length ≤ 1000000 ∧ Q (.str (s ++ t)) n
  | _, _ => False
def pRepL : PV → PV → M PV := fun x y _ n Q => match x, y with
  | .lst xs, .int k => (-1000000 ≤ k ∧ k ≤ 1000000 ∧ xs.length * k.toNat ≤ 1000000) ∧ Q (.lst (List.replicate k.toNat xs).flatten) n
  | _, _ => False
section
variable {z : Z}
theorem rep_flat {G : Hp} {vs : List V} {ps : List PV} (r : z.repL G vs ps) : ∀ k : Nat, z.repL G (List.replicate k vs).flatten (List.replicate k ps).flatten
  | 0 => .nil
  | k + 1 => by
    rw [List.replicate_succ, List.replicate_succ, List.flatten_cons, List.flatten_cons]
    exact r.append (rep_flat r k)
theorem simR_catL : SimR z rCat pCatL := by
  intro σ env G H n Qp Q x y px py ok fr er rx ry hm hq
  cases rx <;> try exact hm.elim
  cases ry <;> try exact hm.elim
  rename_i a vs ps hs rl b vs2 ps2 hs2 rl2
  refine ⟨_, _, vs, vs2, rfl, rfl, ok.sub _ _ hs, ok.sub _ _ hs2, by rw [rl.len, rl2.len]; exact line_of hm.1, fun p hp => ?_⟩
  obtain ⟨ok2, s2⟩ := ok.new (o := .lst (vs ++ vs2)) hp
  exact (hq.step s2).here ok2 (.lst upd_same ((rl.append rl2).mono s2.same)) hm.2
theorem simR_catT : SimR z (rCatA z.K) pCatT := by
  intro σ env G H n Qp Q x y px py ok fr er rx ry hm hq
  cases rx <;> try exact hm.elim
  cases ry <;> try exact hm.elim
  rename_i a vs ps hs rl b vs2 ps2 hs2 rl2
  have hm2 : Qp (.tup (ps ++ ps2)) n := hm.2
  refine ⟨_, _, vs, vs2, rfl, rfl, Ev.Same.seqT ok.sub hs, Ev.Same.seqT ok.sub hs2, by rw [rl.len, rl2.len]; exact line_of hm.1, fun e => ?_, fun _ e => ?_, fun _ _ p hp => ?_⟩
  · subst e
    cases rl
    exact hq.here ok (.tup hs2 rl2) hm2
  · subst e
    cases rl2
    rw [List.append_nil] at hm2
    exact hq.here ok (.tup hs rl) hm2
  · obtain ⟨ok2, s2⟩ := ok.new (o := .tup (vs ++ vs2)) hp
    exact (hq.step s2).here ok2 (.tup (SqT.of upd_same) ((rl.append rl2).mono s2.same)) hm2
theorem simR_catS : SimR z (fun x y H Q => ∃ i j, x = .str i ∧ y = .str j ∧ i.length + j.length ≤ sizeLine ∧ Q (.str (i ++ j)) H) pCatS := by
  intro σ env G H n Qp Q x y px py ok fr er rx ry hm hq
  cases rx <;> try exact hm.elim
  cases ry <;> try exact hm.elim
  exact ⟨_, _, rfl, rfl, line_of hm.1, hq.here ok (.str _) hm.2⟩
theorem simR_repL : SimR z rRep pRepL := by
  intro σ env G H n Qp Q x y px py ok fr er rx ry hm hq
  cases rx <;> try exact hm.elim
  cases ry <;> try exact hm.elim
  rename_i a vs ps hs rl k
  obtain ⟨⟨h1, h2, h3⟩, hm2⟩ := hm
  refine ⟨_, k, vs, rfl, rfl, ok.sub _ _ hs, by omega, by omega, by rw [rl.len]; exact line_of h3, fun p hp => ?_⟩
  obtain ⟨ok2, s2⟩ := ok.new (o := .lst (List.replicate k.toNat vs).flatten) hp
  exact (hq.step s2).here ok2 (.lst upd_same ((rep_flat rl k.toNat).mono s2.same)) hm2
end
end Pu
namespace Ev
open PySem PySem.Spec PyProof.Rows L2
section
variable {X : Cx} {pins : List (Addr × Obj)} {σ : L2.St} {H : Hp} {s : Shared} {a : Addr} {oe : Obj} {vs : Array Value} {cls : Value} {d : Option Addr}
theorem adopt (I : Inv X pins σ H s) (he : s.heap.get? a = some oe) (hz : Zc cls d oe) (hd : oe.data = .fields vs) (na : H a = none) (n0 : X.s_0.heap.get? a = none) (np : ∀ p ∈ X.pn ++ pins, p.1 ≠ a) : Inv X pins σ (upd H a (ExcV a cls d)) s := by
  have old : ∀ {b o}, X.s_0.heap.get? b = some o → b ≠ a := fun {b o} e z => by
    rw [z, n0] at e
    cases e
  have nl : X.env.locals ≠ a := fun z => by
    obtain ⟨m, ⟨o, es, ep, e, hdd, _⟩, _⟩ := I.loc
    rw [z, he] at e
    cases e
    rw [hd] at hdd
    cases hdd
  have ncl : ∀ x c, X.env.cells.lookup x = some c → c ≠ a := fun x c e z => by
    obtain ⟨v, o, ho, hv⟩ := I.cell x c e
    rw [z, he] at ho
    cases ho
    rw [hd] at hv
    cases hv
  have ok : ObjOk X.prog X.w (upd H a (ExcV a cls d)) s.heap a (ExcV a cls d) := ⟨⟨oe, vs, he, hz.1, hz.2, hd⟩, ⟨oe, he⟩, fun h1 h2 q k => by
    obtain ⟨o, ws, e1, e2⟩ := q
    exact ⟨o, ws, k _ e1, e2⟩⟩
  refine ⟨I.ok, I.os, I.bare, ⟨I.base.keep, I.base.slot, fun b o e n x => ?_, I.base.there, fun b xs e => ?_, fun b o u e => ?_, fun b ps e => ?_⟩, I.loc, I.cell, (upd_ne nl).trans I.free, fun x c e => (upd_ne (ncl x c e)).trans (I.freeC x c e), fun p hp => ?_, HOk.laidN I.hok (fun _ _ e => e) na ok, I.len⟩
  · exact (upd_ne (old e)).trans (I.base.free b o e n x)
  · have q := I.base.tups b xs e
    exact get_new q na
  · exact get_new (I.base.frzs b o u e) na
  · obtain ⟨more, q⟩ := I.base.tbls b ps e
    exact ⟨more, get_new q na⟩
  · obtain ⟨p1, p2, p3⟩ := I.pin p hp
    exact ⟨p1, (upd_ne (np p hp)).trans p2, p3⟩
end
def wKeep (K : PySem.W.Frag) (c : Value) (i : Nat) (ts : Addr → Value → Option Addr → TS) (Wout : WX) (D : Ends) : WX := fun cls d σ H =>
  ∃ b, PySem.W.exmOne K cls c = some b ∧ (b = true → ∀ a, H a = none → ts a cls d { nx := fun σ' H' => H' a = none → D.nx (σ'.set i none) (upd H' a (ExcV a cls d)), rt := D.rt } (σ.set i (some (.ref a))) H) ∧ (b = false → Wout cls d σ H)
section
variable {X : Cx} {x n : Str} {c : Value} {i : Nat} {body suite : List Stmt} {b₀ : Stmt} {np pos pos' : Pos} {tb : WX → TS} {ts : Addr → Value → Option Addr → TS} {Wout : WX}
def tTryK (K : PySem.W.Frag) (c : Value) (i : Nat) (ts : Addr → Value → Option Addr → TS) (Wout : WX) (tb : WX → TS) : TS := fun D σ H => tb (wKeep K c i ts Wout D) D σ H
def tTryO (K : PySem.W.Frag) (c : Value) (t : TS) (Wout : WX) (tb : WX → TS) : TS := fun D σ H => tb (wOnly K c (fun _ _ _ => t) Wout D) D σ H
theorem ps_try_O {t : TS} (hs : X.stack = X.env :: X.outer) (hf : X.env.frame = some X.env.locals) (hc : Names X x c) (tk : Takes X Wout)
    (hb : ∀ (W : WX) (pn : List (Addr × Obj)) (xe : Value → Shared → Prop), Takes (X.tr pn xe) W → PassesOwn (model X.prog X.w) X.A X.env xe → PSs (X.tr pn xe) body (tb W))
    (hsu : ∀ (a : Addr) (pn : List (Addr × Obj)), PSs (X.suite a pn) (b₀ :: suite) t) : PS X (.Try body [.ExceptHandler (some (.Name x np)) none (b₀ :: suite) pos'] [] [] pos) (tTryO X.K c t Wout tb) :=
  ps_try_only (ts := fun _ _ _ => t) hs hf hc tk hb fun a oe cls d pn _ _ => hsu a _
theorem ps_try_keep (hs : X.stack = X.env :: X.outer) (hf : X.env.frame = some X.env.locals) (hex : X.ex = []) (hN : X.N.Nodup) (hi : X.N[i]? = some n) (hln : X.env.kindOf n = some .local) (hc : Names X x c) (tk : Takes X Wout)
    (hb : ∀ (W : WX) (pn : List (Addr × Obj)) (xe : Value → Shared → Prop), Takes (X.tr pn xe) W → PassesOwn (model X.prog X.w) X.A X.env xe → PSs (X.tr pn xe) body (tb W))
    (hsu : ∀ (a : Addr) (oe : Obj) (cls : Value) (d : Option Addr) (pn : List (Addr × Obj)), Zc cls d oe → (∃ vs, oe.data = .fields vs) → PSs (X.suite a ((a, oe) :: pn)) (b₀ :: suite) (ts a cls d)) :
    PS X (.Try body [.ExceptHandler (some (.Name x np)) (some n) (b₀ :: suite) pos'] [] [] pos) (tTryK X.K c i ts Wout tb) := by
  constructor
  intro pins s σ H D I h
  unfold tTryK at h
  have okX := I.ok
  have frX : X.A.frames = some (X.env :: X.outer) := okX.frames.trans (by rw [hs])
  apply wpAny_Try_except
  refine wpAny_mono ((hb (wKeep X.K c i ts Wout D) (X.pn ++ pins) _ (fun u s' q => ?caught) PassesOwn.looking).run [] s σ H D (I.toTry _) h) (fun f s1 hsp => ?fin) (fun _ _ z => z)
  case caught =>
    obtain ⟨a, B, sI, pins2, σ2, H2, cls, d, e0, J2, nb, up, sky, na, os, ag, b, hb1, hyes, hno⟩ := q
    subst e0
    have J := J2.ofTry okX
    rw [show (X.tr (X.pn ++ pins) _).stack = X.env :: X.outer from hs] at sky
    refine Sky.land Zc.steady frX hf sky fun h3 fly3 up3 => ?_
    have J3 := J.landed (s' := { s' with heap := h3 }) nb fly3.1 (up.trans up3) os ag
    have apart : ∀ {g : Heap} {o : Obj} {vs : Array Value}, g.FunFrames B (X.env :: X.outer) → g.get? a = some o → o.data = .fields vs → a ∉ frs (X.env :: X.outer) := fun {g o vs} ff e dd hm => by
      obtain ⟨_, o2, e2, w⟩ := ff.mem hm
      cases e.symm.trans e2
      exact w _ dd
    obtain ⟨o3, vs3, g3, z3, d3⟩ := fly3.there
    have out3 := apart fly3.2.2.1 g3 d3
    have aL : a ≠ X.env.locals := fun z => out3 (by rw [z]; exact List.mem_filterMap.mpr ⟨X.env, List.mem_cons_self, hf⟩)
    have aF : a ∉ X.fs := fun hm => by
      obtain ⟨e, m, q⟩ := List.mem_filterMap.mp hm
      exact out3 (List.mem_filterMap.mpr ⟨e, List.mem_cons_of_mem _ m, q⟩)
    have gone : ∀ {o : Obj}, sI.heap.get? a ≠ some o := fun {o} e => by
      have z := nb a o e (by rw [show frs (X.tr (X.pn ++ pins) _).stack = frs (X.env :: X.outer) from congrArg frs hs]; exact out3)
      rw [fly3.2.1] at z
      cases z
    have n0 : X.s_0.heap.get? a = none := by
      cases e : X.s_0.heap.get? a with
      | none => rfl
      | some o =>
        obtain ⟨o2, e2⟩ := J.base.there a o e (by rw [hex]; simp)
        exact (gone e2).elim
    have apartP : ∀ p ∈ X.pn ++ pins, p.1 ≠ a := fun p hp z => by
      have e := (J.pin p hp).1
      rw [z] at e
      exact gone e
    have S3 := J3.suite g3 d3 na aL aF
    refine wpAny_handleBy_cons (codeAny_handlers_test ?_) (by intro q; cases q)
    have look : PySem.W.Looks (model X.prog X.w) h3 (typeOf (.ref a)) cls := fun A Q E s k q => wpAny_typeOf_ref (k _ _ g3) (z3.1.symm ▸ q)
    have named : ∀ {Q : Value → Shared → Prop} {E : Value → Shared → Prop}, Q c { s' with heap := h3 } → wpAny (model X.prog X.w) (X.A.mark (some (.ref a))) (eval (.Name x np) X.env) Q E { s' with heap := h3 } := fun {Q E} q => by
      obtain ⟨hg, hdbg, hm | ⟨hm, hv, hnn⟩⟩ := hc
      · exact ld_glob (X := X.suite a ((a, o3) :: (X.pn ++ pins))) S3 hg hm q hdbg
      · exact ld_blt (X := X.suite a ((a, o3) :: (X.pn ++ pins))) S3 hg hm hv q hnn hdbg
    refine named ((PySem.W.exm_one (M := model X.prog X.w) J3.kIn look hb1).here ?_)
    cases b with
    | false =>
      show wpAny (model X.prog X.w) X.A (handleBy (.ref a) X.env []) _ _ _
      apply wpAny_handleBy_nil
      obtain ⟨_, _, _, oe, vs, T, oT, ts', g, zz, dd, h1, _⟩ := id fly3
      unfold PySem.passOn
      apply wpAny_bind
      refine wpAny_field g dd h1 ?_
      rw [if_neg (by simp)]
      have out : wpAny (model X.prog X.w) X.A (setFlight (.ref a) X.env.frame) (fun _ s4 => wpAny (model X.prog X.w) X.A (throw (.ref a) : Sem Flow) (SP X pins D) X.xe s4) X.xe { s' with heap := h3 } := by
        rw [hf]
        refine HandSPX.setFlight_upZ fly3 fun h4 held4 up4 => wpAny_throw (tk _ _ ?_)
        exact ⟨a, B, sI, pins, σ2, H2, cls, d, rfl, J, nb, (up.trans up3).trans up4, .inr (.inr (hs ▸ held4)), na, os, ag, hno rfl⟩
      first
        | exact wpAny_bind out
        | exact wpAny_bind (wpAny_pure (wpAny_bind out))
    | true =>
      apply codeAny_handlers_suite_as
      refine HandSPX.lands_againZ fly3 fun h4 fly4 up4 => ?_
      have J4 := J.landed (s' := { s' with heap := h4 }) nb fly4.1 ((up.trans up3).trans up4) os ag
      obtain ⟨o4, vs4, g4, z4, d4⟩ := fly4.there
      have S4 := J4.suite g4 d4 na aL aF
      refine store_ok (X := X.suite a ((a, o4) :: (X.pn ++ pins))) (v := .ref a) S4 hN hi (.inl hln) rfl (fun s5 S5 => ?_) (.inr hln)
      refine wpAny_mono ((hsu a o4 cls d (X.pn ++ pins) z4 ⟨_, d4⟩).run [] s5 _ H2 _ S5 (hyes rfl a na)) (fun f s6 hsp => ?_) (fun _ _ z => z.elim)
      have there : ∀ {σ6 : L2.St} {H6 : Hp}, Inv (X.suite a ((a, o4) :: (X.pn ++ pins))) [] σ6 H6 s6 → s6.heap.get? a = some o4 ∧ H6 a = none := fun {σ6 H6} S6 => by
        obtain ⟨p1, p2, _⟩ := S6.pin (a, o4) (List.mem_append_left _ List.mem_cons_self)
        exact ⟨p1, p2⟩
      cases f with
      | next =>
        obtain ⟨σ6, H6, S6, q6⟩ := hsp
        obtain ⟨t1, t2⟩ := there S6
        exact gone_ok (adopt (S6.unsuite okX) t1 z4 d4 t2 n0 apartP) hN hi hln fun s7 J7 => ⟨_, _, J7, q6 t2⟩
      | ret u =>
        obtain ⟨v6, σ6, H6, S6, r6, q6⟩ := hsp
        exact gone_ok (S6.unsuite okX) hN hi hln fun s7 J7 => ⟨_, _, _, J7, r6, q6⟩
      | brk => exact let ⟨_, _, _, z⟩ := hsp; z.elim
      | cont => exact let ⟨_, _, _, z⟩ := hsp; z.elim
  case fin =>
    cases f with
    | next => exact let ⟨_, _, J, q⟩ := hsp; wpAny_execs_nil ⟨_, _, J.ofTry okX, q⟩
    | brk => exact let ⟨_, _, J, q⟩ := hsp; ⟨_, _, J.ofTry okX, q⟩
    | cont => exact let ⟨_, _, J, q⟩ := hsp; ⟨_, _, J.ofTry okX, q⟩
    | ret u => exact let ⟨_, _, _, J, r, q⟩ := hsp; ⟨_, _, _, J.ofTry okX, r, q⟩
end
end Ev
namespace Ev
open PySem PySem.Spec PyProof.Rows L2
def spX1 (K : PySem.W.Frag) (f : Str) : Sp := fun vs H Q _ => ∃ (a C : Addr) (y : V), vs = [.ref a, y] ∧ OexC K C ∧ PySem.W.findIn K (.ref C) f = some none ∧ H a = some (exo a C none) ∧
  ∀ dx, H dx = none → dx ≠ a → Q .non (upd (upd H dx (exd dx [(f, y)])) a (exo a C (some dx)))
def spX2 (K : PySem.W.Frag) (f g : Str) : Sp := fun vs H Q _ => ∃ (a C : Addr) (y z : V), vs = [.ref a, y, z] ∧ OexC K C ∧ PySem.W.findIn K (.ref C) f = some none ∧ PySem.W.findIn K (.ref C) g = some none ∧ H a = some (exo a C none) ∧
  ∀ dx, H dx = none → dx ≠ a → Q .non (upd (upd (upd H dx (exd dx [(f, y)])) a (exo a C (some dx))) dx (exd dx [(g, z), (f, y)]))
section
variable (P : Program) (w : World) (K : PySem.W.Frag) (mg : Str → Option Value) (base : Heap)
structure XC (x : Str) (C : Addr) (sp : Sp) (n : Nat) : Prop where
  ex : ∃ (fI : Addr) (fd : FuncData) (ps : List Str), OexC K C ∧ PySem.W.findIn K (.ref C) "__init__" = some (some (.ref fI)) ∧ PySem.W.typeIn K (.ref fI) = some (.type "function") ∧ FnOk P w K mg base (L2.CX P w) 1 fI fd ps sp ∧ Binds K fd ps [] ∧ mg x = some (.ref C)
end
theorem upd_end {H1 H2 : Hp} {a d : Addr} {o : HO} (ha : H1 a = none) (nd : d ≠ a) (h : ∀ b, b ≠ a → b ≠ d → H2 b = H1 b) : upd (del H2 a) d o = upd H1 d o := by
  funext b
  by_cases e : b = d
  · rw [e, upd_same, upd_same]
  · rw [upd_ne e, upd_ne e]
    by_cases e2 : b = a
    · rw [e2, del_same, ha]
    · rw [del_ne e2, h b e2 e]
theorem _root_.L2.Inv.forget {X : Cx} {pins : List (Addr × Obj)} {σ : L2.St} {H : Hp} {s : Shared} (I : Inv X pins σ H s) : Inv X pins (List.replicate X.N.length none) H s := by
  obtain ⟨m, h1, h2⟩ := I.loc
  refine ⟨I.ok, I.os, I.bare, I.base, ⟨m, h1, fun i x v e1 e2 => ?_⟩, I.cell, I.free, I.freeC, I.pin, I.hok, by simp⟩
  rw [List.getElem?_replicate] at e2
  split at e2 <;> cases e2
section
variable {X : Cx} {W : WX} {x : Str} {C : Addr} {sp : Sp} {n : Nat} {e : Expr} {es : List Expr} {ta : TA} {p pos pos' : Pos}
def tRai (C : Addr) (sp : Sp) (W : WX) (ta : TA) : TS := fun _ σ H => tMkO C sp [] ta σ H fun cls d H' => W cls d σ H'
theorem ps_rai (c : XC X.prog X.w X.K X.mg X.base x C sp n) (hc : X.calm = true) (tk : Takes X W) (hr : Room 2 X.A) (hg : Gl X x) (ha : PA X (e :: es) ta)
    (hdb : (x == ("__debug__" : Str)) = false := by decide) (he : starEach (e :: es) X.env = (false, eval e X.env) :: starEach es X.env := by rfl) (hpl : (backTo pos (starEach es X.env)).any (·.1) = false := by rfl) :
    PS X (.Raise (some (.Call (.Name x p) (e :: es) [] pos)) none pos') (tRai C sp W ta) := by
  obtain ⟨fI, fd, ps, T, iC, tI, F1, hb, hm⟩ := c.ex
  exact ps_raise hc tk (pmk_oex T iC tI F1 hr hb .nil passL hg hm ha hdb he hpl)
theorem passE {E : XK} (tk : Takes X (fun cls d _ H => E cls d H)) : Passes (L2.CX X.prog X.w) X E := passes_call tk fun _ _ _ _ h => h
theorem passT (tk : Takes X W) : Passes (L2.CX X.prog X.w) X (fun cls d H => W cls d (List.replicate X.N.length none) H) := fun pins σ H s e s' I c =>
  tk e s' (XE.of_call (W := W) (σ := List.replicate X.N.length none) (H := H) (pins := pins) (I.forget) (fun _ _ _ h => h) c)
theorem passTN {N : List Str} (tk : Takes X W) (hN : X.N = N := by rfl) : Passes (L2.CX X.prog X.w) X (fun cls d H => W cls d (List.replicate N.length none) H) := hN ▸ passT tk
end
theorem exc_at {X : Cx} {pins : List (Addr × Obj)} {σ : L2.St} {H : Hp} {s : Shared} {a C : Addr} {d : Option Addr} (I : Inv X pins σ H s) (ha : H a = some (ExcV a (.ref C) d)) (hd : ∀ dd, d = some dd → ∃ fs, H dd = some (.xd fs)) :
    ∃ (oe : Obj) (od : Option Obj), PySem.W.InstAt s.heap a oe C od ∧ (∀ dd fs, d = some dd → H dd = some (.xd fs) → ∃ (o : Obj) (mA : Str → Option Value), od = some o ∧ (∀ n, PySem.W.lookIn n o = some (mA n)) ∧ ∀ f, RelO (fs.lookup f) (mA f)) ∧ (d = none → od = none) := by
  obtain ⟨⟨oe, vs, h1, h2, h3, h4⟩, _, _⟩ := (show ObjOk X.prog X.w H s.heap a (.ext _) from I.hok a _ ha)
  have no : PySem.W.notCls oe = true := by
    unfold PySem.W.notCls
    rw [h4] <;> rfl
  cases d with
  | none => exact ⟨oe, none, ⟨h1, h2, no, by rw [h3]; trivial⟩, ⟨fun _ _ z => (nomatch z), fun _ => rfl⟩⟩
  | some dd =>
    obtain ⟨fs, e⟩ := hd dd rfl
    obtain ⟨mA, hns, hr⟩ := (show ObjOk X.prog X.w H s.heap dd (.xd fs) from I.hok dd _ e)
    obtain ⟨od, ho, hl⟩ := lookIn_ns hns
    refine ⟨oe, some od, ⟨h1, h2, no, by rw [h3]; exact ho⟩, ⟨fun d2 fs2 z e2 => ?_, fun z => (nomatch z)⟩⟩
    cases z
    rw [e] at e2
    cases e2
    exact ⟨od, mA, rfl, fun n => hl n, hr⟩
def rIsV (K : PySem.W.Frag) : List V → Hp → VK → Prop := fun xs H Q => ∃ (a C : Addr) (d : Option Addr) (c : V) (cv : Value) (b : Bool), xs = [.ref a, c] ∧ ClsV c cv ∧ H a = some (ExcV a (.ref C) d) ∧ (∀ dd, d = some dd → ∃ fs, H dd = some (.xd fs)) ∧ ExcC K C ∧ PySem.W.kitOne K (.ref C) cv = some b ∧ Q (.bl b) H
theorem call_isV {X : Cx} : CallR X (.builtin "isinstance") (rIsV X.K) := by
  intro pins s σ H xs us Q I r h
  obtain ⟨a, C, d, c, cv, b, rfl, hc, ha, hd, T, e, q⟩ := h
  obtain ⟨u1, u2, rfl, r1, r2⟩ := vals2 r
  cases (show u1 = Value.ref a from r1)
  have e2 := hc.eq r2
  subst e2
  obtain ⟨oe, od, J, _, _⟩ := exc_at I ha hd
  have hcl : (PySem.W.clsIn X.K C).isSome = true := by
    obtain ⟨cd, hc', _⟩ := PySem.W.any_some T.hd
    rw [hc']
    rfl
  exact PySem.W.kia_one (PySem.W.kitx_exc hcl T.hg T.hk T.hs T.ha T.hn T.ht T.hm) I.kIn J e (fun z => nomatch z) fun tk => ⟨.bl b, H, I.tok tk, rfl, q⟩
def tXV (K : PySem.W.Frag) (te : TE) (f : Str) : TE := fun σ H Q => te σ H fun x H1 => ∃ (a C dd : Addr) (fs : List (Str × V)) (v : V), x = .ref a ∧ H1 a = some (ExcV a (.ref C) (some dd)) ∧ H1 dd = some (.xd fs) ∧ ExcC K C ∧ PySem.W.findIn K (.ref C) f = some none ∧ fs.lookup f = some v ∧ Q v H1
theorem pe_xv {X : Cx} {e : Expr} {te : TE} {f : Str} {pos : Pos} (he : PE X e te) (hb : attributeBase e f X.env (eval e X.env) = eval e X.env := by rfl) : PE X (.Attribute e f pos) (tXV X.K te f) := by
  refine ⟨fun pins s σ H Q I h => attr_of hb (thn (he.run pins s σ H _ I h) fun u s1 hh => ?_)⟩
  obtain ⟨x, H1, I1, rx, a, C, dd, fs, v, rfl, ha, hd, T, hno, l, q⟩ := hh
  cases (show u = Value.ref a from rx)
  obtain ⟨oe, od, J, k, _⟩ := exc_at I1 ha fun d2 z => by cases z; exact ⟨fs, hd⟩
  obtain ⟨o, mA, rfl, hl, hr⟩ := k dd fs rfl hd
  obtain ⟨u, hu, ru⟩ := RelO.some_of (v := v) (o := mA f) (by rw [← l]; exact hr f)
  exact HandSPX.exc_get I1.kIn J T.hg T.hk T.hs (PySem.W.findObj_own T.hd hno rfl (by rw [hl, hu])) (handed_of ru) ⟨v, H1, I1.tok _, ru, q⟩
end Ev
namespace Ev
open PySem PySem.Spec PyProof.Rows L2 LamX
theorem takesT {X : Cx} {W : WX} (tk : Takes X W) : Takes X (fun cls d _ H => W cls d (List.replicate X.N.length none) H) := fun u s' z => by
  obtain ⟨a, B, sI, pins, σ, H, cls, d, e, I, r1, r2, r3, r4, r5, r6, w⟩ := z
  exact tk u s' ⟨a, B, sI, pins, _, H, cls, d, e, I.forget, r1, r2, r3, r4, r5, r6, w⟩
section
variable {X : Cx} {pins : List (Addr × Obj)} {σ : L2.St} {H : Hp} {s : Shared}
abbrev gvX (X : Cx) (Ng : List Str) (q : Str) (sg : Scope) (g : Addr) (cd : Value) (s : Shared) (H : Hp) : Cx := cxOf C8.CX0 X.prog X.w X.K X.mg X.base Ng q sg g cd X.A X.stack s H C8.E0
theorem pe_ask {Ng : List Str} {qg : Str} {sg : Scope} {g f c' : Addr} {cdg pm ctv : Value} {params : Arguments} {body : Expr} {scope : Scope} {k i : Nat} {a : Str} {pn : List (Addr × Obj)} {xe : Value → Shared → Prop} {W : WX} {t : XK → TE} {p1 p2 : Pos}
    (I : Inv X pins σ H s) (L : LamS X.env.scope scope) (hf : s.heap.get? f = some (PySem.W.kla_obj "<lambda>" (X.env.qual ++ "<lambda>") params body scope (cloFrom X.env.cells scope.names []) pm c' ctv)) (hfn : H f = none) (hfr : f ∉ frs X.stack)
    (hbind : bindArgs (PySem.W.kla_fn "<lambda>" (X.env.qual ++ "<lambda>") params body scope (cloFrom X.env.cells scope.names []) pm (.ref c') ctv) ⟨[], []⟩ = pure [])
    (tk : Takes ((gvX X Ng qg sg g cdg s H).tr pn xe) W) (hgd : X.A.guards = some []) (hr : Room (k + 1) (X.A.deeper (envOfC qg sg s.heap.objs.size g cdg)))
    (hbody : ∀ (A : Around) (outer : List Env) (s : Shared) (H : Hp) (E : XK), (A.deeper (lamEnv X scope s.heap.objs.size f c')).guards = some [] → Room k (A.deeper (lamEnv X scope s.heap.objs.size f c')) → PE (lamCx X A outer s H E scope f c') body (t E))
    (hN : Ng[i]? = some a) (hv : Vis sg a) (hd : (a == ("__debug__" : Str)) = false) (hcd : (a == ("__classdict__" : Str)) = false) :
    PE ((gvX X Ng qg sg g cdg s H).tr pn xe) (.Call (.Name a p1) [] [] p2)
      (fun σZ HZ Q => σZ[i]? = some (some (.ref f)) ∧ HZ c' = some (CodeO c' (X.env.qual ++ "<lambda>")) ∧ t (fun cls d H' => W cls d σZ H') σ HZ Q) := by
  constructor
  rintro pinsZ sZ σZ HZ Q IZ ⟨at0, code, ht⟩
  have name := (pe_var (X := (gvX X Ng qg sg g cdg s H).tr pn xe) (pos := p1) (i := i) hN hv hd hcd).run pinsZ sZ σZ HZ (fun v H1 => v = .ref f ∧ H1 = HZ) IZ ⟨.ref f, at0, rfl, rfl⟩
  refine wpAny_Call_Name_kw (thn name fun u s1 ⟨v, H1, I1, r1, ev, eH⟩ => ?_)
  subst ev
  rw [eH] at I1
  obtain rfl : u = Value.ref f := r1
  have obj1 := I1.base.keep f _ hf hfn hfr (fun z => nomatch (show f ∈ ([] : List Addr) from z))
  refine PySem.W.callWith_F0 ⟨_, _, _, _, obj1⟩ ?_
  have grown : Un (frs X.stack) [] H HZ s.heap s1.heap := I1.base
  obtain ⟨⟨oc, vs, tc, hoc, hdc, hvc⟩, _, _⟩ := I1.hok c' _ code
  have ran : codeAny (model X.prog X.w) (X.A.deeper (envOfC qg sg s.heap.objs.size g cdg)) (.call (.ref f) ⟨[], []⟩) (CR (L2.CX X.prog X.w) (envOfC qg sg s.heap.objs.size g cdg :: X.stack) X.prog X.w HZ s1 Q (fun cls d H' => W cls d σZ H')) s1 := by
    apply PySem.W.kla_callFunE hr.depth obj1 rfl L.co L.gen rfl ⟨c', oc, vs, tc, rfl, hoc, hdc, hvc⟩
    rw [hbind]
    apply wpAny_pure
    refine wpAny_newFunctionEnv (fun y hy => (L.own y hy).2) (fun y hy => (nomatch hy)) (fun h₁ hns hsb => ⟨I1.nolimit.fresh _ hsb, ?_⟩) L.kind
    show codeAny _ _ (.expr body (lamEnv X scope s1.heap.objs.size f c')) _ _
    have kept : ∀ b o, s1.heap.get? b = some o → h₁.get? b = some o := fun b o e => hsb.extBut b o (Nat.ne_of_lt (Heap.lt_size e)) (Heap.get?_push_of_some _ e)
    have J := lam_start2 (A := X.A.deeper (envOfC qg sg s.heap.objs.size g cdg)) (outer := envOfC qg sg s.heap.objs.size g cdg :: X.stack) (E := fun cls d H' => W cls d σZ H') (f := f) (c' := c') (tk := s1.toks + ([] : List (Str × Value)).length) I L I1.env0 hr.hd grown hns kept
    apply PySem.W.kla_codeExpr
    refine wpAny_mono ((hbody (X.A.deeper (envOfC qg sg s.heap.objs.size g cdg)) _ s1 HZ _ hgd (hr.deeper _)).run [] _ _ HZ Q J ht) (fun v s' hq => ?_) fun _ _ z => z
    obtain ⟨w', H', J', rv, q⟩ := hq
    exact ⟨w', H', J'.os, J'.bare, J'.base, J'.hok, rv, q⟩
  refine wpAny_call (codeAny_mono ran fun r s' hq => ?_)
  match r, hq with
  | .error e, hq => exact tk e s' (XE.of_call (W := W) (σ := σZ) (H := HZ) (pins := pinsZ) I1 (fun _ _ _ h => h) hq)
  | .ok (.ret u), hq => exact I1.after hq
  | .ok .next, hq => exact hq.elim
  | .ok .brk, hq => exact hq.elim
  | .ok .cont, hq => exact hq.elim
end
structure Gives (X : Cx) (Ng : List Str) (x : Str) (sg : Scope) (g : Addr) (cdg : Value) (bg : List Stmt) (a : Str) (q : Str) (TT : (XK → Hp → VK → Prop) → Addr → Addr → Hp → VK → Prop) : Prop where
  run : ∀ (f c' : Addr) (s : Shared) (H : Hp) (Q : VK) (tl : XK → Hp → VK → Prop), (X.A.deeper (envOfC x sg s.heap.objs.size g cdg)).guards = some [] → Room 2 (X.A.deeper (envOfC x sg s.heap.objs.size g cdg)) →
    (∀ (W : WX) (pn : List (Addr × Obj)) (xe : Value → Shared → Prop) (p1 p2 : Pos), Takes ((gvX X Ng x sg g cdg s H).tr pn xe) W →
      PE ((gvX X Ng x sg g cdg s H).tr pn xe) (.Call (.Name a p1) [] [] p2) (fun σZ HZ Q => σZ[0]? = some (some (.ref f)) ∧ HZ c' = some (CodeO c' q) ∧ tl (fun cls d H' => W cls d σZ H') HZ Q)) →
    H c' = some (CodeO c' q) → H f = none → TT tl f c' H Q →
    ∃ t, PSs (gvX X Ng x sg g cdg s H).nox bg t ∧ t { nx := fun _ H' => Q .non H', rt := Q } (L2.start Ng [.ref f]) H
def tGive (T : List (Addr × Str)) (q : Str) (TT : (XK → Hp → VK → Prop) → Addr → Addr → Hp → VK → Prop) (t : XK → TE) : TE := fun σ H Q => Tabs T H ∧ ∀ f c' H1, ExtN H H1 → Tabs T H1 → H1 f = none → H1 c' = some (CodeO c' q) → TT (fun E H' Q' => t E σ H' Q') f c' H1 Q
structure GvD (K : PySem.W.Frag) (mg : Str → Option Value) (x a : Str) (st : Stmt) : Prop where
  ex : ∃ (g : Addr) (fd : FuncData), Fn K x x st g fd ∧ mg x = some (.ref g) ∧ PySem.W.keepIn K (.ref g) = true ∧ L2.Binds K fd [a] []
section
variable {X : Cx}
theorem pe_give0 {T : List (Addr × Str)} {TT : (XK → Hp → VK → Prop) → Addr → Addr → Hp → VK → Prop} {x a : Str} {g c P : Addr} {k j : Nat} {fd : FuncData} {Ng : List Str} {stg : Stmt} {params : Arguments} {body : Expr} {scope : Scope} {t : XK → TE} {p lpos pos : Pos}
    (F : Fn X.K x x stg g fd) (hm : X.mg x = some (.ref g)) (hk : PySem.W.keepIn X.K (.ref g) = true) (hb : L2.Binds X.K fd [a] []) (Sg : FnScope Ng [a] (C8.fnScope stg)) (hNg : Ng[0]? = some a) (hva : Vis (C8.fnScope stg) a)
    (hG : ∀ cdg, Gives X Ng x (C8.fnScope stg) g cdg (C8.fnBody stg) a (X.env.qual ++ "<lambda>") TT)
    (TB : TabB X.base X.mg c P) (hcode : X.env.code = .ref c) (hmT : (P, X.env.qual ++ "<lambda>") ∈ T) (hu : ∀ p ∈ T, p.1 = P → p.2 = X.env.qual ++ "<lambda>") (hgd : X.A.guards = some []) (hr : Room j X.A) (hj : k + 4 ≤ j) (hg : Gl X x) (L : LamS X.env.scope scope) (hdef : defaultsOf params X.env = ([], []))
    (hbind : ∀ (q : Str) (cl : List (Str × Addr)) (pm cv ctv : Value), bindArgs (PySem.W.kla_fn "<lambda>" q params body scope cl pm cv ctv) ⟨[], []⟩ = pure [])
    (hbody : ∀ (A : Around) (outer : List Env) (s : Shared) (H : Hp) (E : XK) (f c' : Addr), (A.deeper (lamEnv X scope s.heap.objs.size f c')).guards = some [] → Room k (A.deeper (lamEnv X scope s.heap.objs.size f c')) → PE (lamCx X A outer s H E scope f c') body (t E))
    (hdb : (x == ("__debug__" : Str)) = false := by decide) (hd : (a == ("__debug__" : Str)) = false := by decide) (hcd : (a == ("__classdict__" : Str)) = false := by decide) :
    PE X (.Call (.Name x p) [.Lambda params body scope lpos] [] pos) (tGive T (X.env.qual ++ "<lambda>") TT t) := by
  obtain ⟨oc, od, dV, kV, doc, pm, an, cdg, ct, osl, rfl, lk, hcg⟩ := F.ex
  constructor
  rintro pins s σ H Q I ⟨hT, h⟩
  refine wpAny_Call_Name_kw (ld_glob I hg hm ?_ hdb)
  refine PySem.W.callWith_K (h₀ := X.base) I.ok.mod.kin hk ?_ (by rfl) (by rfl)
  show wpAny _ _ (spliced ((false, eval (.Lambda params body scope lpos) X.env) :: backTo pos (starEach [] X.env))) _ _ s
  refine Calls.spliced_cons (lam_make2 I TB hcode hmT hu hT hdef (L.has I.ok) fun f c' pm' ctv H1 s' I1 eN T1 hf hfn hfr hco => ?_)
  refine Calls.spliced_nil ⟨I1.kIn, ?_⟩
  have h1 := h f c' H1 eN T1 hfn hco
  have ran : codeAny (model X.prog X.w) X.A (.call (.ref g) ⟨[.ref f], []⟩) (CR C8.CX0 X.stack X.prog X.w H1 s' Q C8.E0) s' := by
    refine run_ofS (k := k + 3) (N := Ng) (ps := [a]) (us := [.ref f]) (vs := [.ref f]) lk hcg Sg (hr.mono hj) I1.env0 (hb s' [.ref f] I1.kIn rfl) (.cons rfl .nil) rfl fun hr' => ?_
    obtain ⟨t', ht', hq'⟩ := (hG cdg).run f c' s' H1 Q (fun E H' Q' => t E σ H' Q') hgd (hr'.mono (by omega)) (fun W pn xe p1 p2 tk => pe_ask (i := 0) I1 L hf hfn hfr (hbind _ _ _ _ _) tk hgd (hr'.mono (by omega)) (fun A outer s H E hg2 hr2 => hbody A outer s H E f c' hg2 hr2) hNg hva hd hcd) hco hfn h1
    exact ⟨t', ht'.nox, hq'⟩
  refine wpAny_call (codeAny_mono ran fun r s2 hq => ?_)
  match r, hq with
  | .error e, hq => exact (show False from hq).elim
  | .ok (.ret u), hq => exact I1.after hq
  | .ok .next, hq => exact (show False from hq).elim
  | .ok .brk, hq => exact (show False from hq).elim
  | .ok .cont, hq => exact (show False from hq).elim
theorem pe_give {T : List (Addr × Str)} {TT : (XK → Hp → VK → Prop) → Addr → Addr → Hp → VK → Prop} {x a : Str} {c P : Addr} {k j : Nat} {Ng : List Str} {stg : Stmt} {params : Arguments} {body : Expr} {scope : Scope} {t : XK → TE} {p lpos pos : Pos}
    (D : GvD X.K X.mg x a stg) (Sg : FnScope Ng [a] (C8.fnScope stg)) (hNg : Ng[0]? = some a) (hva : Vis (C8.fnScope stg) a)
    (hG : ∀ g cdg, Gives X Ng x (C8.fnScope stg) g cdg (C8.fnBody stg) a (X.env.qual ++ "<lambda>") TT)
    (TB : TabB X.base X.mg c P) (hcode : X.env.code = .ref c) (hmT : (P, X.env.qual ++ "<lambda>") ∈ T) (hu : ∀ p ∈ T, p.1 = P → p.2 = X.env.qual ++ "<lambda>") (hgd : X.A.guards = some []) (hr : Room j X.A) (hj : k + 4 ≤ j) (hg : Gl X x) (L : LamS X.env.scope scope) (hdef : defaultsOf params X.env = ([], []))
    (hbind : ∀ (q : Str) (cl : List (Str × Addr)) (pm cv ctv : Value), bindArgs (PySem.W.kla_fn "<lambda>" q params body scope cl pm cv ctv) ⟨[], []⟩ = pure [])
    (hbody : ∀ (A : Around) (outer : List Env) (s : Shared) (H : Hp) (E : XK) (f c' : Addr), (A.deeper (lamEnv X scope s.heap.objs.size f c')).guards = some [] → Room k (A.deeper (lamEnv X scope s.heap.objs.size f c')) → PE (lamCx X A outer s H E scope f c') body (t E))
    (hdb : (x == ("__debug__" : Str)) = false := by decide) (hd : (a == ("__debug__" : Str)) = false := by decide) (hcd : (a == ("__classdict__" : Str)) = false := by decide) :
    PE X (.Call (.Name x p) [.Lambda params body scope lpos] [] pos) (tGive T (X.env.qual ++ "<lambda>") TT t) :=
  let ⟨_, _, F, hm, hk, hb⟩ := D.ex
  pe_give0 F hm hk hb Sg hNg hva (fun cdg => hG _ cdg) TB hcode hmT hu hgd hr hj hg L hdef hbind hbody hdb hd hcd
end
end Ev
namespace Ev
open PySem PySem.Spec PyProof.Rows L2
def SM (base : Heap) : Prop := ∃ o, base.get? sysModules = some o ∧ ∀ ws n, o.data ≠ .seq ws n
theorem tab_at {K : PySem.W.Frag} {x : Str} {f c P : Addr} {oc cc : Value} {od dd : Option Addr} {fd : FuncData} {osl sl : Array (Option Value)} {vs : Array Value} (h1 : PySem.W.nsIn K mainGlobals x = some (some (.ref f))) (h2 : K.lookup f = some ⟨oc, od, .func fd, osl⟩) (h3 : fd.code = .ref c)
    (h4 : K.lookup c = some ⟨cc, dd, .fields vs, sl⟩) (h5 : vs[11]? = some (.ref P)) : PySem.W.tabIn K x = some (c, P) := by
  unfold PySem.W.tabIn
  rw [h1]
  simp only [h2, h3, h4, h5]
theorem law_gT {P : Program} {w : World} {K : PySem.W.Frag} {mg mb : Str → Option Value} {CX : CXT} {k : Nat} {fa a : Addr} {cs : List (Addr × Addr)} {fd : FuncData} {x : Str} {sp : Sp} {s₁ : Shared} {vs : List Value} {ns : List Int}
    (KX : K.In s₁.heap) (hns : s₁.heap.Ns mainGlobals mg) (hb : s₁.heap.Ns builtinsNs mb) (hbb : ∀ y : Str, y ≠ "__name__" → mb y = bootBuiltins y) (hlim : s₁.heap.NoLimit) (hmm : ∃ mm, s₁.heap.Ns sysModules mm) (hg : s₁.gens = #[])
    (hT : ∀ p ∈ cs, s₁.heap.get? p.2 = some (PySem.W.tabObj #[])) (nT : ∀ p ∈ cs, K.lookup p.2 = none) (C : ∀ p ∈ cs, PySem.W.CodeHd s₁.heap p.1 p.2)
    (hbm : ∃ (bm : Addr) (ob : Obj), mg "__builtins__" = some (.ref bm) ∧ bm ≠ builtinsNs ∧ s₁.heap.get? bm = some ob ∧ ob.cls = .type "module" ∧ ob.dict = some builtinsNs ∧ ob.data = .plain)
    (ha : s₁.heap.get? a = some { cls := .type "list", data := .seq vs.toArray }) (hi : IntsAre vs ns) (hl : ns.length ≤ sizeLine) (hr : Room k callerA)
    (F : ∀ base : Heap, K.In base → base.Ns mainGlobals mg → (∀ p ∈ cs, LamX.TabB base mg p.1 p.2) → SM base → GOk P w K mg base CX k fa fd [x] sp) (hbind : ∀ (s : Shared) (u : Value), BindsTo s fd ⟨[u], []⟩ [(x, u)])
    (hsp : ∀ H : Hp, (∀ p ∈ cs, H p.2 = some (.tbl #[])) → SqL K H a (ns.map V.int) → sp [.ref a] H (fun v _ => v = .bl true) fun _ _ _ => False)
    (hCX : ∀ H e s', CX [] H s₁ (fun _ _ _ => False) e s' → False) :
    codeAny (model P w) callerA (.call (.ref fa) ⟨[.ref a], []⟩) (fun r s' => r = .ok (.ret (.bool true)) ∧ OldK s₁.heap s'.heap ∧ s'.os = s₁.os ∧ AllBare s'.gens) s₁ := by
  have rv := vals_ints hi
  have tabs : ∀ {b : Addr}, b ∈ cs.map (·.2) → s₁.heap.get? b = some (PySem.W.tabObj #[]) ∧ K.lookup b = none := fun {b} hb => by
    obtain ⟨p, hp, e⟩ := List.mem_map.mp hb
    exact e ▸ ⟨hT p hp, nT p hp⟩
  have na : a ∉ cs.map (·.2) := fun z => by
    have q := (tabs z).1
    rw [ha] at q
    have z' := congrArg Obj.data (Option.some.inj q)
    cases z'
  obtain ⟨H, hH, hO, hS, hok, hA, hK⟩ : ∃ H : Hp, (∀ b ∈ cs.map (·.2), H b = some (.tbl #[])) ∧ (∀ b, H b = none ∨ b ∈ cs.map (·.2) ∨ ∃ ob xs, H b = some (.frz ob (.lst xs))) ∧ SqL K H a (ns.map V.int) ∧ HOk P w H s₁.heap ∧ (∀ b, H b ≠ none → b = a ∨ b ∈ cs.map (·.2)) ∧ (∀ b, H b ≠ none → K.lookup b = none) := by
    cases hk : K.lookup a with
    | some o =>
      have eo : o = { cls := .type "list", data := .seq vs.toArray } := Option.some.inj ((KX a o hk).symm.trans ha)
      subst eo
      refine ⟨fun b => if b ∈ cs.map (·.2) then some (.tbl #[]) else none, fun b hb => if_pos hb, fun b => ?_, Or.inr ⟨_, vs.toArray, _, hk, rfl, rfl, rfl, ?_, ?_⟩, fun b u z => ?_, fun b z => ?_, fun b z => ?_⟩
      · by_cases m : b ∈ cs.map (·.2)
        · exact .inr (.inl m)
        · exact .inl (if_neg m)
      · rw [List.size_toArray, hi.length]
        exact hl
      · simpa using rv
      · by_cases m : b ∈ cs.map (·.2)
        · cases (if_pos m).symm.trans z
          exact (tabs m).1
        · cases (if_neg m).symm.trans z
      · by_cases m : b ∈ cs.map (·.2)
        · exact .inr m
        · exact (z (if_neg m)).elim
      · by_cases m : b ∈ cs.map (·.2)
        · exact (tabs m).2
        · exact (z (if_neg m)).elim
    | none =>
      have at_ : ∀ {b : Addr}, b ≠ a → b ∉ cs.map (·.2) → (if b = a then some (HO.frz { cls := .type "list", data := .seq vs.toArray } (.lst (ns.map V.int))) else if b ∈ cs.map (·.2) then some (.tbl #[]) else none) = none := fun {b} h1 h2 => (if_neg h1).trans (if_neg h2)
      have atT : ∀ {b : Addr}, b ∈ cs.map (·.2) → (if b = a then some (HO.frz { cls := .type "list", data := .seq vs.toArray } (.lst (ns.map V.int))) else if b ∈ cs.map (·.2) then some (.tbl #[]) else none) = some (.tbl #[]) := fun {b} h1 => (if_neg fun z : b = a => na (z ▸ h1)).trans (if_pos h1)
      refine ⟨fun b => if b = a then some (.frz { cls := .type "list", data := .seq vs.toArray } (.lst (ns.map V.int))) else if b ∈ cs.map (·.2) then some (.tbl #[]) else none, fun b hb => atT hb, fun b => ?_, Or.inl (Or.inr ⟨{ cls := .type "list", data := .seq vs.toArray }, if_pos rfl⟩), fun b u z => ?_, fun b z => ?_, fun b z => ?_⟩
      · by_cases e : b = a
        · exact .inr (.inr ⟨_, _, if_pos e⟩)
        · by_cases m : b ∈ cs.map (·.2)
          · exact .inr (.inl m)
          · exact .inl (at_ e m)
      · by_cases e : b = a
        · subst e
          cases (if_pos rfl).symm.trans z
          exact ⟨ha, (List.length_map (as := ns) V.int).symm ▸ hl, vs, _, rv, ha⟩
        · by_cases m : b ∈ cs.map (·.2)
          · cases (atT m).symm.trans z
            exact (tabs m).1
          · cases (at_ e m).symm.trans z
      · by_cases e : b = a
        · exact .inl e
        · by_cases m : b ∈ cs.map (·.2)
          · exact .inr m
          · exact (z (at_ e m)).elim
      · by_cases e : b = a
        · exact e ▸ hk
        · by_cases m : b ∈ cs.map (·.2)
          · exact (tabs m).2
          · exact (z (at_ e m)).elim
  have keep : ∀ {b : Addr} {o : Obj}, s₁.heap.get? b = some o → H b = none → (hidT s₁.heap H).get? b = some o := fun e n => hidT_get e n
  have plain : ∀ {b : Addr} {o : Obj}, s₁.heap.get? b = some o → (∀ ws n, o.data ≠ .seq ws n) → o.data ≠ .fields #[] → H b = none := fun {b o} e h1 h2 => by
    refine Classical.byContradiction fun z => ?_
    rcases hA b z with e' | e'
    · subst e'
      cases ha.symm.trans e
      exact h1 _ _ rfl
    · cases (tabs e').1.symm.trans e
      exact h2 rfl
  have nsK : ∀ {b : Addr} {m : Str → Option Value}, s₁.heap.Ns b m → (hidT s₁.heap H).Ns b m := fun ⟨o, es, ep, e, d, r⟩ => ⟨o, es, ep, keep e (plain e (fun ws n z => by rw [d] at z; cases z) (fun z => by rw [d] at z; cases z)), d, r⟩
  have kb : K.In (hidT s₁.heap H) := fun b o e => keep (KX b o e) (Classical.byContradiction fun z => by
    rw [hK b z] at e
    cases e)
  have mod : Mod K mg (hidT s₁.heap H) := ⟨kb, nsK hns, ⟨mb, nsK hb, hbb⟩, let ⟨mc, h1, h2⟩ := hlim; ⟨mc, nsK h1, h2⟩⟩
  have memT : ∀ p ∈ cs, p.2 ∈ cs.map (·.2) := fun p hp => List.mem_map.mpr ⟨p, hp, rfl⟩
  have TB : ∀ p ∈ cs, LamX.TabB (hidT s₁.heap H) mg p.1 p.2 := fun p hp => by
    obtain ⟨g0, ge, gp, gh, gd, _⟩ := hns
    have nG : mainGlobals ≠ p.2 := fun z => by
      rw [z, hT p hp] at gh
      cases gh
      cases gd
    refine ⟨?_, ?_, nG⟩
    · obtain ⟨o, us, file, tf, flags, tg, inF, text, tt, e1, r1, r2, r3, rest⟩ := C p hp
      refine ⟨o, us, file, tf, flags, tg, inF, text, tt, keep e1 (plain e1 (fun ws n z => ?_) fun z => ?_), r1, r2, r3, rest⟩
      · rw [r2] at z
        cases z
      · rw [r2] at z
        cases z
        simp at r3
    · obtain ⟨bm, ob, b1, b2, b3, b4, b5, b6⟩ := hbm
      refine ⟨bm, ob, b1, b2, fun z => ?_, fun z => ?_, keep b3 (plain b3 (fun ws n z => ?_) fun z => ?_), b4, b5, b6⟩
      · rw [z, gh] at b3
        cases b3
        rw [gd] at b6
        cases b6
      · rw [z, hT p hp] at b3
        cases b3
        cases b6
      · rw [b6] at z
        cases z
      · rw [b6] at z
        cases z
  have sm : SM (hidT s₁.heap H) := by
    obtain ⟨mm, hm⟩ := hmm
    obtain ⟨o, es, ep, e, d, _⟩ := nsK hm
    exact ⟨o, e, fun ws n z => by rw [d] at z; cases z⟩
  have e0 : Env0 P w K mg (hidT s₁.heap H) callerA [] s₁ H := ⟨rfl, mod, fun _ _ e => of_hidT e, Nat.le_of_eq (hidT_size _ _), trivial, fun b hb => (nomatch (show b ∈ ([] : List Addr) from hb)), hok, .of_eq hg⟩
  refine codeAny_mono ((F _ kb (nsK hns) TB sm).run callerA [] s₁ H ⟨[.ref a], []⟩ [.ref a] [.ref a] _ _ rfl hr e0 (hbind s₁ (.ref a)) (.cons rfl .nil) (hsp H (fun p hp => hH _ (memT p hp)) hS)) fun r s' h => ?_
  match r, h with
  | .error e, z => exact (hCX H e s' z).elim
  | .ok .next, z => exact z.elim
  | .ok .brk, z => exact z.elim
  | .ok .cont, z => exact z.elim
  | .ok (.ret u), ⟨v, H', os, bare, un, hok', r', (q : v = .bl true)⟩ =>
    subst q
    cases (show u = Value.bool true from r')
    have same : ∀ b o, b ∉ cs.map (·.2) → s₁.heap.get? b = some o → s'.heap.get? b = some o := fun b o nb e => by
      rcases hO b with z | z | ⟨ob, xs, z⟩
      · exact un.keep b o e z (fun y => (nomatch (show b ∈ ([] : List Addr) from y))) (by simp)
      · exact (nb z).elim
      · exact (hok' b _ (un.frzs b ob _ z)).1.trans ((hok b _ z).1.symm.trans e)
    have grown : ∀ p ∈ cs, ∃ more : Array Value, s'.heap.get? p.2 = some (PySem.W.tabObj more) := fun p hp => by
      obtain ⟨more, z⟩ := un.tbls p.2 #[] (hH _ (memT p hp))
      exact ⟨_, hok' p.2 _ z⟩
    refine ⟨rfl, ⟨fun b o e => ?_, fun b o e => ?_⟩, os, bare⟩
    · by_cases m : b ∈ cs.map (·.2)
      · obtain ⟨p, hp, ep⟩ := List.mem_map.mp m
        obtain ⟨more, hm⟩ := grown p hp
        subst ep
        cases (hT p hp).symm.trans e
        exact .inr (.inl ⟨((C p hp).tab (hT p hp)).isCodeTable, rfl, #[], more, rfl, by rw [Array.empty_append]; exact hm⟩)
      · exact .inl (same b o m e)
    · by_cases m : b ∈ cs.map (·.2)
      · obtain ⟨p, hp, ep⟩ := List.mem_map.mp m
        obtain ⟨more, hm⟩ := grown p hp
        exact ⟨_, ep ▸ hm⟩
      · exact ⟨o, same b o m e⟩
def LawT (l : PySem.W.OpenLaw) (w : World) (K : PySem.W.Frag) (k n : Nat) (x : Str) (mg : Str → Option Value) (fa : Addr) (names : List Str) : Prop :=
  ∃ (fd : FuncData) (cs : List (Str × Addr × Addr)) (sp : Sp), (∀ q ∈ cs, q.1 ∈ names ∧ PySem.W.tabIn K q.1 = some q.2 ∧ K.lookup q.2.2 = none) ∧ (∀ (s : Shared) (u : Value), BindsTo s fd ⟨[u], []⟩ [(x, u)]) ∧
    (∀ (H : Hp) (a : Addr) (ns : List Int), ns.length ≤ n → (∀ q ∈ cs, H q.2.2 = some (.tbl #[])) → SqL K H a (ns.map V.int) → sp [.ref a] H (fun v _ => v = .bl true) fun _ _ _ => False) ∧
    ∀ base : Heap, K.In base → base.Ns mainGlobals mg → (∀ q ∈ cs, LamX.TabB base mg q.2.1 q.2.2) → SM base → GOk l.prog w K mg base (L2.CX l.prog w) k fa fd [x] sp
theorem walk_gT {l : PySem.W.OpenLaw} {n k : Nat} {q : Program} {loose : List Str} {XP : (Str → Option Value) → Heap → Prop} {YP : World → Heap → Prop} {d : DefRec} {K : Params → PySem.W.Frag} {x : Str} (names : List Str)
    (hn : l.most = some n) (hn2 : n ≤ sizeLine) (hdf : d.params.defaults = []) (hr : Room k callerA) (himp : importsNone q = true) (hrec : ∀ y ∈ names, ((recsOf q).any fun e => e.name == y) = true) (hY : ∀ (w : World) (h : Heap), YP w h → (K w.params).In h)
    (F : ∀ (w : World) (mg : Str → Option Value) (fa : Addr) (h : Heap), (K w.params).In h → h.Ns mainGlobals mg → mg d.name = some (.ref fa) → LawT l w (K w.params) k n x mg fa names) :
    PySem.W.WalkO q loose XP YP l.row.toRowW d [] (fun f vs => PySem.call f vs) := by
  refine Att.attach_callB hn hdf fun w s₀ s₁ mg mb fa o pm cd doc a vs ns G Y ho hd hcd hmg hobj hints hlen hbits hg => ?_
  have KX := hY w _ Y
  obtain ⟨fd, cs, sp, hcs, b, hsp, hF⟩ := F w mg fa _ KX G.T.g hmg
  have tab : ∀ r ∈ cs, PySem.W.CodeHd s₁.heap r.2.1 r.2.2 ∧ s₁.heap.get? r.2.2 = some (PySem.W.tabObj #[]) := fun r hr => by
    obtain ⟨h1, h2, _⟩ := hcs r hr
    have z := hrec _ h1
    cases e : (recsOf q).find? (fun e => e.name == r.1) with
    | none =>
      rw [List.find?_eq_none] at e
      rw [List.any_eq_true] at z
      obtain ⟨y, hy, ey⟩ := z
      exact (e y hy ey).elim
    | some dr => exact PySem.W.tab_of G.T KX e h2
  refine law_gT (cs := cs.map (·.2)) KX G.T.g G.T.b G.T.builtins G.T.nolimit (let ⟨mm, e, _⟩ := (G.T.seer himp).mods; ⟨mm, e⟩) hg (fun p hp => ?_) (fun p hp => ?_) (fun p hp => ?_) G.T.bmain hobj hints (Nat.le_trans hlen hn2) hr (fun base h1 h2 h3 h4 => hF base h1 h2 (fun r hr => h3 _ (List.mem_map.mpr ⟨r, hr, rfl⟩)) h4) b (fun H h1 h2 => hsp H a ns hlen (fun r hr => h1 _ (List.mem_map.mpr ⟨r, hr, rfl⟩)) h2) fun H e s' z => ?_
  · obtain ⟨r, hr, e⟩ := List.mem_map.mp hp
    exact e ▸ (tab r hr).2
  · obtain ⟨r, hr, e⟩ := List.mem_map.mp hp
    exact e ▸ (hcs r hr).2.2
  · obtain ⟨r, hr, e⟩ := List.mem_map.mp hp
    exact e ▸ (tab r hr).1
  · obtain ⟨_, _, _, _, _, _, _, _, _, _, _, _, y⟩ := z
    exact y.elim
end Ev
namespace Pu
open PySem PySem.Spec PyProof.Rows L2
def mFnX (k : Nat) (b : MS) (args : List PV) : M PV := fun W n Q => b (fun _ => W) { nx := fun _ n' => Q .non n', rt := Q } (startP k args) n
def mInitX (k : Nat) (b : MS) (cn : Str) (fs : List (Str × PV)) (args : List PV) : M (List (Str × PV)) := fun W n Q =>
  b (fun _ => W) { nx := initEnd Q, rt := fun _ _ => False } (.obj cn fs :: startP (k - 1) args) n
theorem qfnX {CX : CXT} {P : Program} {w : World} {K : PySem.W.Frag} {mg : Str → Option Value} {base : Heap} {x qual : Str} {st : Stmt} {f : Addr} {fd : FuncData} {N ps : List Str} {k : Nat} {cm : Md} {b : MS} (hN : ps.length ≤ N.length)
    (F : Ev.Fn K x qual st f fd) (S : FnScope N ps (C8.fnScope st))
    (hb : ∀ (cdv : Value) (A : Around) (outer : List Env) (s : Shared) (H : Hp) (E : XK), fd.code = cdv → (A.deeper (envOfC qual (C8.fnScope st) s.heap.objs.size f cdv)).guards = some [] → Room k (A.deeper (envOfC qual (C8.fnScope st) s.heap.objs.size f cdv)) →
      ∃ t, PSs (cxOf CX P w K mg base N qual (C8.fnScope st) f cdv A outer s H E) (C8.fnBody st) t ∧ ∀ z : Z, z.K = K → z.cm = cm → (∃ wp, z.W = fun _ => wp) → Link z E → SimS z t b) :
    Ev.GOk P w K mg base CX (k + 1) f fd ps (spP K cm ps.length (mFnX N.length b)) := by
  refine Ev.gfnX F S (fun vs H Q E h => ?_) (fun cdv A outer s H vs Q E hcode hgd hr h => ?_)
  · obtain ⟨_, _, _, _, _, _, _, hl, _⟩ := h
    exact hl
  · obtain ⟨p, c, G, n, args, Wp, Qp, hl, ok, rl, hm, hq, hx⟩ := h
    obtain ⟨t, ht, hs⟩ := hb cdv A outer s H E hcode hgd hr
    refine ⟨t, ht, ?_⟩
    refine hs ⟨K, cm, p, c, H, G, (· = p), fun _ => Wp, G, p, p, p⟩ rfl rfl ⟨_, rfl⟩ (fun σ env G' H' n' cn fs C d ok' fr' er' hc rx hw => hx cn fs C d G' H' n' ok' fr'.st hc rx hw) (L2.start N vs) (startP N.length args) G H n _ _ ok ⟨Step.refl _ _ _, rfl, Same.refl _⟩ (envStart rl (by rw [hl]; exact hN)) hm ⟨fun σ env G' H' n' _ ok' fr' er' h' => ?_, fun v q G' H' n' _ ok' fr' r' h' => ?_, fun _ _ _ _ _ _ _ _ _ h' => h', fun _ _ _ _ _ _ _ _ _ h' => h'⟩
    · exact hq .non .non G' H' n' ok' fr'.st .non h'
    · exact hq v q G' H' n' ok' fr'.st r' h'
theorem qinitX {CX : CXT} {P : Program} {w : World} {K : PySem.W.Frag} {mg : Str → Option Value} {base : Heap} {x qual : Str} {st : Stmt} {f : Addr} {fd : FuncData} {N ps : List Str} {k : Nat} {cm : Md} {b : MS} (hN : ps.length ≤ N.length)
    (F : Ev.Fn K x qual st f fd) (S : FnScope N ps (C8.fnScope st))
    (hb : ∀ (cdv : Value) (A : Around) (outer : List Env) (s : Shared) (H : Hp) (E : XK), fd.code = cdv → (A.deeper (envOfC qual (C8.fnScope st) s.heap.objs.size f cdv)).guards = some [] → Room k (A.deeper (envOfC qual (C8.fnScope st) s.heap.objs.size f cdv)) →
      ∃ t, PSs (cxOf CX P w K mg base N qual (C8.fnScope st) f cdv A outer s H E) (C8.fnBody st) t ∧ ∀ z : Z, z.K = K → z.cm = cm → (∃ wp, z.W = fun _ => wp) → Link z E → SimS z t b) :
    Ev.GOk P w K mg base CX (k + 1) f fd ps (spI K cm ps.length (mInitX N.length b)) := by
  refine Ev.gfnX F S (fun vs H Q E h => ?_) (fun cdv A outer s H vs Q E hcode hgd hr h => ?_)
  · obtain ⟨_, _, _, _, _, _, _, _, us, _, _, _, _, _, rfl, hl, _⟩ := h
    exact hl
  · obtain ⟨p, c, G, n, cn, C, x, dx, us, vf, fs, args, Wp, Qp, rfl, hl, ok, hc, hx, gx, nxp, nxc, rf, rl, hm, hq, hxx⟩ := h
    obtain ⟨t, ht, hs⟩ := hb cdv A outer s H E hcode hgd hr
    refine ⟨t, ht, ?_⟩
    have es : L2.start N (V.ref x :: us) = some (.ref x) :: (us.map some ++ List.replicate (N.length - 1 - us.length) none) := by
      simp [L2.start]
      omega
    rw [es]
    have er := envStart (z := ⟨K, cm, p, c, H, G, fun b => b = p ∨ b = x, fun _ => Wp, G, x, C, dx⟩) (H := H) (k := N.length - 1) rl (by omega)
    refine hs ⟨K, cm, p, c, H, G, fun b => b = p ∨ b = x, fun _ => Wp, G, x, C, dx⟩ rfl rfl ⟨_, rfl⟩ (fun σ env G' H' n' cn fs C d ok' fr' er' hc rx hw => hxx cn fs C d G' H' n' ok' fr'.st hc rx hw) _ (.obj cn fs :: startP (N.length - 1) args) G H n _ _ ok ⟨Step.refl _ _ _, .inl rfl, Same.refl _⟩ ⟨fun i s h => ?_, fun i j s s' a nij hi hj os os' _ _ => ?_, by simp [er.len]⟩ hm ⟨fun σ env G' H' n' _ ok' fr' er' h' => ?_, fun _ _ _ _ _ _ _ _ _ h' => h'.elim, fun _ _ _ _ _ _ _ _ _ h' => h', fun _ _ _ _ _ _ _ _ _ h' => h'⟩
    · cases i with
      | zero =>
        cases h
        exact ⟨_, rfl, x, C, dx, vf, rfl, hc, hx, ⟨gx, nxp, nxc, .inr (.inr rfl)⟩, rf, rfl, rfl, rfl⟩
      | succ i => exact er.at_ i s h
    · have key : ∀ (l : Nat) (u : Slot), (Slot.obj cn fs :: startP (N.length - 1) args)[l]? = some u → u.isOwn = true → l = 0 := fun l u hl ou => by
        cases l with
        | zero => rfl
        | succ l =>
          have := startP_own (show (startP (N.length - 1) args)[l]? = some u from hl)
          rw [this] at ou
          cases ou
      exact nij ((key i s hi os).trans (key j s' hj os').symm)
    · have h' : initEnd Qp env n' := h'
      unfold initEnd at h'
      split at h'
      · rename_i fs' rest _
        obtain ⟨_, _, a, C', dx', vf', _, hc', hh, mine, rf', rfl, rfl, rfl⟩ := er'.at_ 0 _ rfl
        exact hq vf' fs' G' H' n' ok' fr'.st hh mine.g rf' h'
      · exact h'.elim
def mRai1 (cn f : Str) (r : PEnv → M (List PV)) : MS := fun W _ env n => r env (W env) n fun xs n1 => match xs with
  | [x] => W env cn [(f, x)] n1
  | _ => False
def mRai2 (cn f g : Str) (r : PEnv → M (List PV)) : MS := fun W _ env n => r env (W env) n fun xs n1 => match xs with
  | [x, y] => W env cn [(g, y), (f, x)] n1
  | _ => False
section
variable {z : Z}
theorem sim_rai1 {cn f : Str} {C : Addr} {E : XK} {ta : TA} {ma : PEnv → M (List PV)} (hl : Link z E) (hc : z.cm.cx cn = some C) (T : OexC z.K C) (hf : PySem.W.findIn z.K (.ref C) f = some none) (ha : SimA z ta ma) :
    SimS z (Ev.tRai C (Ev.spX1 z.K f) (fun cls d _ H => E cls d H) ta) (mRai1 cn f ma) := by
  intro σ env G H n D Dp ok fr er hm ed
  refine ha.bind ok fr er hm fun vs ps G1 H1 n1 ok1 fr1 er1 s1 r1 hm1 => ?_
  match ps, r1, hm1 with
  | [x], .cons (v := v) rx .nil, hm1 =>
    refine ⟨by simp, fun a na => ⟨a, C, v, rfl, T, hf, upd_same, fun dx nd nda => ⟨rfl, dx, [(f, v)], upd_same, ?_, ?_, ?_⟩⟩⟩
    · rw [upd_ne nda, upd_same]
    · rw [upd_ne nda] at nd
      exact nd
    · have nd1 : H1 dx = none := by
        rw [upd_ne nda] at nd
        exact nd
      rw [Ev.upd_end (H1 := H1) (d := dx) (o := .xd [(f, v)]) na nda (fun b h1 h2 => by rw [upd_ne h1, upd_ne h2, upd_ne h1])]
      obtain ⟨ok2, s2⟩ := ok1.new (o := .xd [(f, v)]) nd1
      exact hl σ env _ _ n1 cn [(f, x)] C (some dx) ok2 (fr1.stepP s2) (er1.step s2) hc (.some upd_same (.cons (rx.mono s2.same) .nil)) hm1
theorem sim_rai2 {cn f g : Str} {C : Addr} {E : XK} {ta : TA} {ma : PEnv → M (List PV)} (hl : Link z E) (hc : z.cm.cx cn = some C) (T : OexC z.K C) (hf : PySem.W.findIn z.K (.ref C) f = some none) (hg : PySem.W.findIn z.K (.ref C) g = some none) (ha : SimA z ta ma) :
    SimS z (Ev.tRai C (Ev.spX2 z.K f g) (fun cls d _ H => E cls d H) ta) (mRai2 cn f g ma) := by
  intro σ env G H n D Dp ok fr er hm ed
  refine ha.bind ok fr er hm fun vs ps G1 H1 n1 ok1 fr1 er1 s1 r1 hm1 => ?_
  match ps, r1, hm1 with
  | [x, y], .cons (v := v) rx (.cons (v := u) ry .nil), hm1 =>
    refine ⟨by simp, fun a na => ⟨a, C, v, u, rfl, T, hf, hg, upd_same, fun dx nd nda => ⟨rfl, dx, [(g, u), (f, v)], ?_, upd_same, ?_, ?_⟩⟩⟩
    · rw [upd_ne nda.symm, upd_same]
    · rw [upd_ne nda] at nd
      exact nd
    · have nd1 : H1 dx = none := by
        rw [upd_ne nda] at nd
        exact nd
      rw [Ev.upd_end (H1 := H1) (d := dx) (o := .xd [(g, u), (f, v)]) na nda (fun b h1 h2 => by rw [upd_ne h2, upd_ne h1, upd_ne h2, upd_ne h1])]
      obtain ⟨ok2, s2⟩ := ok1.new (o := .xd [(g, u), (f, v)]) nd1
      exact hl σ env _ _ n1 cn [(g, y), (f, x)] C (some dx) ok2 (fr1.stepP s2) (er1.step s2) hc (.some upd_same (.cons (ry.mono s2.same) (.cons (rx.mono s2.same) .nil))) hm1
end
def blank (k : Nat) : PEnv := List.replicate k .no
def mTryK (sub : Str → Str → Bool) (d : Str) (k j : Nat) (b : MS) : MS := fun W D env n =>
  b (fun _ cn fs n' => if sub cn d = true then D.nx ((blank k).set j (.val (.exc cn fs))) n' else W (blank k) cn fs n') D env n
def mTryO (sub : Str → Str → Bool) (d : Str) (k : Nat) (s b : MS) : MS := fun W D env n =>
  b (fun _ cn fs n' => if sub cn d = true then s (fun _ => W0) D (blank k) n' else W (blank k) cn fs n') D env n
abbrev Z.re (z : Z) (W : PEnv → XP) (Gx : Hp) : Z := { z with W := W, Gx := Gx }
section
variable {z : Z}
theorem blank_rel {G H : Hp} {k : Nat} : EnvRel z G H (List.replicate k none) (blank k) := by
  unfold blank
  refine ⟨fun i s h => ?_, fun i j s s' a _ hi _ os _ _ _ => ?_, by simp⟩
  · rw [List.getElem?_replicate] at h
    split at h
    · cases h
      exact ⟨none, by rw [List.getElem?_replicate, if_pos (by assumption)], trivial⟩
    · cases h
  · rw [List.getElem?_replicate] at hi
    split at hi
    · cases hi
      cases os
    · cases hi
theorem EnvRel.re {G H : Hp} {σ : L2.St} {env : PEnv} {W : PEnv → XP} {Gx : Hp} (e : EnvRel z G H σ env) : EnvRel (z.re W Gx) G H σ env := by
  refine ⟨fun i s h => ?_, e.df, e.len⟩
  obtain ⟨x, hx, r⟩ := e.at_ i s h
  refine ⟨x, hx, ?_⟩
  cases s with
  | no => trivial
  | val q => exact r
  | own ps => exact let ⟨a, vs, e, h, m, h0, r⟩ := r; ⟨a, vs, e, h, ⟨m.g, m.p, m.c, m.h⟩, h0, r⟩
  | obj c fs => exact let ⟨a, C, dx, vs, e, hc, h, m, r, me⟩ := r; ⟨a, C, dx, vs, e, hc, h, ⟨m.g, m.p, m.c, m.h⟩, r, me⟩
theorem EnvRel.un {G H : Hp} {σ : L2.St} {env : PEnv} {W : PEnv → XP} {Gx : Hp} (e : EnvRel (z.re W Gx) G H σ env) : EnvRel z G H σ env := by
  refine ⟨fun i s h => ?_, e.df, e.len⟩
  obtain ⟨x, hx, r⟩ := e.at_ i s h
  refine ⟨x, hx, ?_⟩
  cases s with
  | no => trivial
  | val q => exact r
  | own ps => exact let ⟨a, vs, e, h, m, h0, r⟩ := r; ⟨a, vs, e, h, ⟨m.g, m.p, m.c, m.h⟩, h0, r⟩
  | obj c fs => exact let ⟨a, C, dx, vs, e, hc, h, m, r, me⟩ := r; ⟨a, C, dx, vs, e, hc, h, ⟨m.g, m.p, m.c, m.h⟩, r, me⟩
theorem EndsRel.re {G : Hp} {D : Ends} {Dp : EndsP} {W : PEnv → XP} {Gx : Hp} (h : EndsRel z G D Dp) (sx : Same z.Gx G) : EndsRel (z.re W Gx) G D Dp :=
  ⟨fun σ env G' H' n' s ok fr er q => h.nx σ env G' H' n' s ok ⟨fr.st, fr.mp, sx.trans s⟩ er.un q, fun v q G' H' n' s ok fr r q' => h.rt v q G' H' n' s ok ⟨fr.st, fr.mp, sx.trans s⟩ r q',
   fun σ env G' H' n' s ok fr er q => h.bk σ env G' H' n' s ok ⟨fr.st, fr.mp, sx.trans s⟩ er.un q, fun σ env G' H' n' s ok fr er q => h.ct σ env G' H' n' s ok ⟨fr.st, fr.mp, sx.trans s⟩ er.un q⟩
theorem sim_tryK {E : XK} {dn : Str} {D : Addr} {i j k : Nat} {sub : Str → Str → Bool} {tb : WX → TS} {mb : MS} (hl : Link z E) (hd : ∀ cn C, z.cm.cx cn = some C → PySem.W.exmOne z.K (.ref C) (.ref D) = some (sub cn dn)) (hi : i < k) (hij : i ≠ j)
    (hb : ∀ (W : WX) (wp : XP) (Gx : Hp), Link (z.re (fun _ => wp) Gx) (fun cls d H => W cls d (List.replicate k none) H) → SimS (z.re (fun _ => wp) Gx) (tb W) mb) :
    SimS z (Ev.tTryK z.K (.ref D) i (fun _ _ _ => tAsg (tVar i) (gName j)) (fun cls d _ H => E cls d H) tb) (mTryK sub dn k j mb) := by
  intro σ env G H n D0 Dp ok fr er hm ed
  refine hb (Ev.wKeep z.K (.ref D) i (fun _ _ _ => tAsg (tVar i) (gName j)) (fun cls d _ H => E cls d H) D0) (fun cn fs n' => if sub cn dn = true then Dp.nx ((blank k).set j (.val (.exc cn fs))) n' else z.W (blank k) cn fs n') G ?_ σ env G H n D0 Dp ok ⟨fr.st, fr.mp, Same.refl _⟩ er.re hm (ed.re fr.sx)
  intro σ2 env2 G2 H2 n2 cn fs C d ok2 fr2 er2 hc rx hw
  have fz : Fr z G2 H2 := ⟨fr2.st, fr2.mp, fr.sx.trans fr2.sx⟩
  refine ⟨sub cn dn, hd cn C hc, fun yes a na => ?_, fun no => ?_⟩
  · have hw : (if sub cn dn = true then Dp.nx ((blank k).set j (.val (.exc cn fs))) n2 else z.W (blank k) cn fs n2) := hw
    rw [if_pos yes] at hw
    refine ⟨.ref a, by rw [List.getElem?_set_self (by simpa using hi)], fun na2 => ?_⟩
    obtain ⟨ok3, s3⟩ := ok2.new (o := Ev.ExcV a (.ref C) d) na
    have fz3 : Fr z (upd G2 a (Ev.ExcV a (.ref C) d)) (upd H2 a (Ev.ExcV a (.ref C) d)) := fz.stepP s3
    refine ed.nx _ _ _ _ n2 (fr2.sx.trans s3.same) ok3 fz3 ?_ hw
    have r0 : EnvRel z (upd G2 a (Ev.ExcV a (.ref C) d)) (upd H2 a (Ev.ExcV a (.ref C) d)) (List.replicate k none) (blank k) := blank_rel
    have r1 := (r0.setV (i := j) (v := .ref a) (q := .exc cn fs) (.exc hc upd_same (rx.mono s3.same)))
    have eσ : (((List.replicate k (none : Option V)).set i (some (.ref a))).set j (some (.ref a))).set i none = (List.replicate k (none : Option V)).set j (some (.ref a)) := by
      rw [List.set_comm _ _ hij, List.set_set, List.set_comm _ _ hij.symm]
      congr 1
      refine List.ext_getElem? fun l => ?_
      by_cases e : i = l
      · subst e
        rw [List.getElem?_set_self (by simpa using hi), List.getElem?_replicate, if_pos hi]
      · rw [List.getElem?_set_ne e]
    rw [eσ]
    exact r1
  · have hw : (if sub cn dn = true then Dp.nx ((blank k).set j (.val (.exc cn fs))) n2 else z.W (blank k) cn fs n2) := hw
    rw [if_neg (by rw [no]; decide)] at hw
    exact hl _ (blank k) G2 H2 n2 cn fs C d ok2 fz blank_rel hc rx hw
def LinkW (z : Z) (W : WX) : Prop := ∀ (σ : L2.St) (env : PEnv) (G H : Hp) (n : Nat) (cn : Str) (fs : List (Str × PV)) (C : Addr) (d : Option Addr), Ok z.cm z.p z.c G H n → Fr z G H → EnvRel z G H σ env →
  z.cm.cx cn = some C → z.repX G d fs → z.W env cn fs n → W (.ref C) d σ H
def mTryKS (sub : Str → Str → Bool) (d : Str) (i j : Nat) (b : MS) : MS := fun W D env n =>
  b (fun env2 cn fs n' => if sub cn d = true then i < env2.length ∧ D.nx ((env2.set j (.val (.exc cn fs))).set i .no) n' else W env2 cn fs n') D env n
theorem sim_tryKS {E : XK} {dn : Str} {D : Addr} {i j : Nat} {sub : Str → Str → Bool} {tb : WX → TS} {mb : MS} (hl : Link z E) (hd : ∀ cn C, z.cm.cx cn = some C → PySem.W.exmOne z.K (.ref C) (.ref D) = some (sub cn dn)) (hij : i ≠ j)
    (hb : ∀ (W : WX) (wp : PEnv → XP) (Gx : Hp), LinkW (z.re wp Gx) W → SimS (z.re wp Gx) (tb W) mb) :
    SimS z (Ev.tTryK z.K (.ref D) i (fun _ _ _ => tAsg (tVar i) (gName j)) (fun cls d _ H => E cls d H) tb) (mTryKS sub dn i j mb) := by
  intro σ env G H n D0 Dp ok fr er hm ed
  refine hb (Ev.wKeep z.K (.ref D) i (fun _ _ _ => tAsg (tVar i) (gName j)) (fun cls d _ H => E cls d H) D0) (fun env2 cn fs n' => if sub cn dn = true then i < env2.length ∧ Dp.nx ((env2.set j (.val (.exc cn fs))).set i .no) n' else z.W env2 cn fs n') G ?_ σ env G H n D0 Dp ok ⟨fr.st, fr.mp, Same.refl _⟩ er.re hm (ed.re fr.sx)
  intro σ2 env2 G2 H2 n2 cn fs C d ok2 fr2 er2 hc rx hw
  have fz : Fr z G2 H2 := ⟨fr2.st, fr2.mp, fr.sx.trans fr2.sx⟩
  have ez : EnvRel z G2 H2 σ2 env2 := er2.un
  refine ⟨sub cn dn, hd cn C hc, fun yes a na => ?_, fun no => ?_⟩
  · have hw : (if sub cn dn = true then i < env2.length ∧ Dp.nx ((env2.set j (.val (.exc cn fs))).set i .no) n2 else z.W env2 cn fs n2) := hw
    rw [if_pos yes] at hw
    have hil : i < σ2.length := by rw [ez.len]; exact hw.1
    refine ⟨.ref a, by rw [List.getElem?_set_self hil], fun na2 => ?_⟩
    obtain ⟨ok3, s3⟩ := ok2.new (o := Ev.ExcV a (.ref C) d) na
    have fz3 : Fr z (upd G2 a (Ev.ExcV a (.ref C) d)) (upd H2 a (Ev.ExcV a (.ref C) d)) := fz.stepP s3
    refine ed.nx _ _ _ _ n2 (fr2.sx.trans s3.same) ok3 fz3 ?_ hw.2
    have r1 := ((ez.step s3).setV (i := j) (v := .ref a) (q := .exc cn fs) (.exc hc upd_same (rx.mono s3.same)))
    have eσ : ((σ2.set i (some (.ref a))).set j (some (.ref a))).set i none = (σ2.set j (some (.ref a))).set i none := by
      rw [List.set_comm _ _ hij, List.set_set]
    rw [eσ]
    exact r1.wipe1
  · have hw : (if sub cn dn = true then i < env2.length ∧ Dp.nx ((env2.set j (.val (.exc cn fs))).set i .no) n2 else z.W env2 cn fs n2) := hw
    rw [if_neg (by rw [no]; decide)] at hw
    exact hl σ2 env2 G2 H2 n2 cn fs C d ok2 fz ez hc rx hw
theorem sim_tryO {E : XK} {dn : Str} {D : Addr} {k : Nat} {sub : Str → Str → Bool} {t : TS} {tb : WX → TS} {ms mb : MS} (hl : Link z E) (hd : ∀ cn C, z.cm.cx cn = some C → PySem.W.exmOne z.K (.ref C) (.ref D) = some (sub cn dn))
    (hb : ∀ (W : WX) (wp : XP) (Gx : Hp), Link (z.re (fun _ => wp) Gx) (fun cls d H => W cls d (List.replicate k none) H) → SimS (z.re (fun _ => wp) Gx) (tb W) mb) (ht : SimS z.nox t ms) :
    SimS z (Ev.tTryO z.K (.ref D) t (fun cls d _ H => E cls d H) tb) (mTryO sub dn k ms mb) := by
  intro σ env G H n D0 Dp ok fr er hm ed
  refine hb (wOnly z.K (.ref D) (fun _ _ _ => t) (fun cls d _ H => E cls d H) D0) (fun cn fs n' => if sub cn dn = true then ms (fun _ => W0) Dp (blank k) n' else z.W (blank k) cn fs n') G ?_ σ env G H n D0 Dp ok ⟨fr.st, fr.mp, Same.refl _⟩ er.re hm (ed.re fr.sx)
  intro σ2 env2 G2 H2 n2 cn fs C d ok2 fr2 er2 hc rx hw
  have fz : Fr z G2 H2 := ⟨fr2.st, fr2.mp, fr.sx.trans fr2.sx⟩
  have hw : (if sub cn dn = true then ms (fun _ => W0) Dp (blank k) n2 else z.W (blank k) cn fs n2) := hw
  refine ⟨sub cn dn, hd cn C hc, fun yes a na => ?_, fun no => ?_⟩
  · rw [if_pos yes] at hw
    have e : EndsRel z.nox G2 D0 Dp := (ed.mono fr2.sx).re (W := fun _ => W0) (Gx := z.Gx) fz.sx
    exact ht _ (blank k) G2 H2 n2 D0 Dp ok2 fz.nox blank_rel hw e
  · rw [if_neg (by rw [no]; decide)] at hw
    exact hl _ (blank k) G2 H2 n2 cn fs C d ok2 fz blank_rel hc rx hw
end
end Pu
namespace Pu
open PySem PySem.Spec PyProof.Rows L2 LamX
def mIsVC (sub : Str → Str → Bool) (d : Str) (a : PEnv → M PV) : PEnv → M PV := fun env W n Q => a env W n fun x n1 => match x with
  | .exc c _ => Q (.bl (sub c d)) n1
  | _ => False
def mIsVT (a : PEnv → M PV) : PEnv → M PV := fun env W n Q => a env W n fun x n1 => match x with
  | .exc _ _ => Q (.bl true) n1
  | _ => False
def mXFld (f : Str) (a : PEnv → M PV) : PEnv → M PV := fun env W n Q => a env W n fun x n1 => match x with
  | .exc _ fs => match fs.lookup f with
    | some y => Q y n1
    | none => False
  | _ => False
section
variable {z : Z}
theorem repX_xd {G H : Hp} {d : Option Addr} {fs : List (Str × PV)} (s : Same G H) (r : z.repX G d fs) : ∀ dd, d = some dd → ∃ vs, H dd = some (.xd vs) := fun dd e => by
  cases r with
  | none => cases e
  | some h _ =>
    cases e
    exact ⟨_, s _ _ h⟩
theorem sim_isVC {sub : Str → Str → Bool} {d : Str} {D : Addr} {ta : TE} {ma : PEnv → M PV} (hx : ∀ c C, z.cm.cx c = some C → ExcC z.K C) (hk : ∀ c C, z.cm.cx c = some C → PySem.W.kitOne z.K (.ref C) (.ref D) = some (sub c d)) (ha : SimE z ta ma) :
    SimE z (tCB (Ev.rIsV z.K) (tCons ta (tCons (tC (.ref D)) tNil))) (mIsVC sub d ma) := by
  intro σ env G H n Qp Q ok fr er hm hq
  refine ha.bind ok fr er hm fun x px G1 H1 n1 ok1 fr1 er1 s1 r1 hm1 => ?_
  cases r1 <;> try exact hm1.elim
  rename_i a C dd c ps hc hg rx
  exact ⟨a, C, dd, .ref D, .ref D, sub c d, rfl, .own _, ok1.sub _ _ hg, repX_xd ok1.sub rx, hx c C hc, hk c C hc, (hq.step s1).here ok1 (.bl _) hm1⟩
theorem sim_isVT {T : String} {ta : TE} {ma : PEnv → M PV} (hx : ∀ c C, z.cm.cx c = some C → ExcC z.K C) (hk : ∀ c C, z.cm.cx c = some C → PySem.W.kitOne z.K (.ref C) (.type T) = some true) (ha : SimE z ta ma) :
    SimE z (tCB (Ev.rIsV z.K) (tCons ta (tCons (tC (.ty T)) tNil))) (mIsVT ma) := by
  intro σ env G H n Qp Q ok fr er hm hq
  refine ha.bind ok fr er hm fun x px G1 H1 n1 ok1 fr1 er1 s1 r1 hm1 => ?_
  cases r1 <;> try exact hm1.elim
  rename_i a C dd c ps hc hg rx
  exact ⟨a, C, dd, .ty T, .type T, true, rfl, .ty _, ok1.sub _ _ hg, repX_xd ok1.sub rx, hx c C hc, hk c C hc, (hq.step s1).here ok1 (.bl _) hm1⟩
theorem sim_xfld {f : Str} {ta : TE} {ma : PEnv → M PV} (hx : ∀ c C, z.cm.cx c = some C → ExcC z.K C) (hk : ∀ c C, z.cm.cx c = some C → PySem.W.findIn z.K (.ref C) f = some none) (ha : SimE z ta ma) : SimE z (Ev.tXV z.K ta f) (mXFld f ma) := by
  intro σ env G H n Qp Q ok fr er hm hq
  refine ha.bind ok fr er hm fun x px G1 H1 n1 ok1 fr1 er1 s1 r1 hm1 => ?_
  cases r1 <;> try exact hm1.elim
  rename_i a C dd c ps hc hg rx
  simp only at hm1
  cases rx with
  | none => simp at hm1
  | some hd rf =>
    rename_i d vs
    rcases rf.look (f := f) with ⟨e, _⟩ | ⟨x, y, e1, e2, ry⟩
    · rw [e] at hm1
      exact hm1.elim
    · rw [e1] at hm1
      exact ⟨a, C, d, vs, y, rfl, ok1.sub _ _ hg, ok1.sub _ _ hd, hx c C hc, hk c C hc, e2, (hq.step s1).here ok1 ry hm1⟩
theorem sim_peekN {i : Nat} {t : TE} {m : PEnv → M PV} (h : SimE z.nox t m) (h2 : SimE z t m) : SimE z t (mPeek i m) := by
  intro σ env G H n Qp Q ok fr er hm hq
  unfold mPeek at hm
  split at hm
  · rename_i xs he
    exact peek_core (z := z.nox) (i := i) (xs := xs) rfl h ok fr.nox er.nox he hm fun v q G' H' n' ok' st' r' h' => hq v q G H' n' ok' st' (atom_rep h'.1 r') h'.2
  · exact h2 σ env G H n Qp Q ok fr er hm hq
theorem sim_peekTN {i : Nat} {t : TT} {m : PEnv → M Bool} (h : SimT z.nox t m) (h2 : SimT z t m) : SimT z t (mPeekT i m) := by
  intro σ env G H n Qp Q ok fr er hm hq
  unfold mPeekT at hm
  split at hm
  · rename_i xs he
    exact peek_core (z := z.nox) (i := i) (xs := xs) rfl h ok fr.nox er.nox he hm fun v q G' H' n' ok' st' r' h' => hq v q G H' n' ok' st' r' h'
  · exact h2 σ env G H n Qp Q ok fr er hm hq
end
def noOwn (env : PEnv) : PEnv := env.map fun s => match s with
  | .val q => .val q
  | _ => .no
def mGive (mh : Addr → M PV → Nat → (PV → Nat → Prop) → Prop) (body : PEnv → M PV) : PEnv → M PV := fun env _ n Q => ∀ f : Addr, mh f (fun W' n' Q' => body (noOwn env) W' n' Q') n Q
def mAsk (f : Addr) (act : M PV) : PEnv → M PV := fun env W n Q => match env[(0 : Nat)]? with
  | some (.val (.ext (.ref g))) => g = f ∧ act W n Q
  | _ => False
def mGv (k : Nat) (b : Addr → M PV → MS) : Addr → M PV → Nat → (PV → Nat → Prop) → Prop := fun f act n Q => b f act (fun _ => W0) { nx := fun _ n' => Q .non n', rt := Q } (startP k [.ext (.ref f)]) n
def ActR (K : PySem.W.Frag) (cm : Md) (p c : Addr) (G H : Hp) (tl : XK → Hp → VK → Prop) (act : M PV) : Prop := ∀ (E : XK) (W' : XP) (G' H' : Hp) (n' : Nat) (Q' : VK) (Qp' : PV → Nat → Prop), Ok cm p c G' H' n' → Step (· = p) G H G' H' → act W' n' Qp' →
  (∀ v q G2 H2 n2, Ok cm p c G2 H2 n2 → Step (· = p) G' H' G2 H2 → Rep K cm p G2 v q → Qp' q n2 → Q' v H2) → (∀ cn fs C d G2 H2 n2, Ok cm p c G2 H2 n2 → Step (· = p) G' H' G2 H2 → cm.cx cn = some C → RepX K cm p G2 d fs → W' cn fs n2 → E (.ref C) d H2) → tl E H' Q'
def TTh (K : PySem.W.Frag) (cm : Md) (mh : Addr → M PV → Nat → (PV → Nat → Prop) → Prop) : (XK → Hp → VK → Prop) → Addr → Addr → Hp → VK → Prop := fun tl f _ H Q => ∃ (p c : Addr) (G : Hp) (n : Nat) (act : M PV) (Qp : PV → Nat → Prop), Ok cm p c G H n ∧ ActR K cm p c G H tl act ∧ mh f act n Qp ∧
  ∀ v q G' H' n', Ok cm p c G' H' n' → Step (· = p) G H G' H' → Rep K cm p G' v q → Qp q n' → Q v H'
section
variable {z : Z}
theorem EnvRel.noOwn {z' : Z} {G H : Hp} {σ : L2.St} {env : PEnv} (eK : z'.K = z.K) (ec : z'.cm = z.cm) (ep : z'.p = z.p) (e : EnvRel z G H σ env) : EnvRel z' G H σ (noOwn env) := by
  unfold Pu.noOwn
  have at_ : ∀ (i : Nat) (s : Slot), (env.map fun s => match s with
      | .val q => .val q
      | _ => .no)[i]? = some s → s.isOwn = false ∧ ∃ x, σ[i]? = some x ∧ SlotRel z' G H x s := fun i s h => by
    rw [List.getElem?_map] at h
    obtain ⟨s0, h0, rfl⟩ := Option.map_eq_some_iff.mp h
    obtain ⟨x, hx, r⟩ := e.at_ i s0 h0
    cases s0 with
    | val q =>
      obtain ⟨v, ev, rv⟩ := r
      refine ⟨rfl, x, hx, v, ev, ?_⟩
      show Rep z'.K z'.cm z'.p G v q
      rw [eK, ec, ep]
      exact rv
    | no => exact ⟨rfl, x, hx, trivial⟩
    | own ps => exact ⟨rfl, x, hx, trivial⟩
    | obj c fs => exact ⟨rfl, x, hx, trivial⟩
  refine ⟨fun i s h => (at_ i s h).2, fun i j s s' a _ hi _ os _ _ _ => ?_, by rw [List.length_map]; exact e.len⟩
  rw [(at_ i s hi).1] at os
  cases os
theorem Pen.ext {H H' : Hp} {p c : Addr} {n : Int} (h : Ev.Pen H p c n) (e : ExtN H H') : Ev.Pen H' p c n := by
  obtain ⟨t, g, ns, h1, h2, r⟩ := h
  exact ⟨t, g, ns, e _ _ h1 (fun ps z => by cases z), e _ _ h2 (fun ps z => by cases z), r⟩
theorem sim_give {q : Str} {mh : Addr → M PV → Nat → (PV → Nat → Prop) → Prop} {t : XK → TE} {mb : PEnv → M PV} (hb : ∀ (E : XK) (z' : Z), z'.K = z.K → z'.cm = z.cm → (∃ wp, z'.W = fun _ => wp) → Link z' E → SimE z' (t E) mb) :
    SimE z (Ev.tGive z.cm.T q (TTh z.K z.cm mh) t) (mGive mh mb) := by
  intro σ env G H n Qp Q ok fr er hm hq
  refine ⟨ok.tb, fun f c' H1 eN T1 hf hco => ?_⟩
  have ok1 : Ok z.cm z.p z.c G H1 n := ⟨fun b o e => eN b o (ok.sub _ _ e) (fun ps h => ok.gt b ps (by rw [e, h])), Pen.ext ok.pen eN, ok.gp, ok.gc, T1, ok.gt⟩
  have s1 : Step (· = z.p) G H G H1 := ⟨Same.refl _, fun b o e _ nt => eN b o e nt, fun _ _ e _ => e, fun b h => by
    obtain ⟨o, e, nt⟩ := h
    exact ⟨o, eN b o e nt, nt⟩⟩
  refine ⟨z.p, z.c, G, n, _, Qp, ok1, ?_, hm f, fun v q G' H' n' ok' st' r' hq' => hq v q G' H' n' ok' (s1.trans st' fun _ x => x) r' hq'⟩
  intro E W' G' H' n' Q' Qp' ok' st' ha hv hx
  have st2 := s1.trans st' fun _ x => x
  refine hb E ⟨z.K, z.cm, z.p, z.c, H', G', (· = z.p), fun _ => W', G', z.p, z.p, z.p⟩ rfl rfl ⟨_, rfl⟩ (fun σ2 env2 G2 H2 n2 cn fs C d ok2 fr2 er2 hc rx hw => hx cn fs C d G2 H2 n2 ok2 fr2.st hc rx hw) σ (Pu.noOwn env) G' H' n' Qp' Q' ok' ⟨Step.refl _ _ _, rfl, Same.refl _⟩ (EnvRel.noOwn (z := z) rfl rfl rfl (er.step st2)) ha hv
def Acts (z : Z) (f c' : Addr) (q : Str) (tl : XK → Hp → VK → Prop) (act : M PV) : Prop := ∀ (wp : PEnv → XP) (Gx : Hp) (W : WX), LinkW (z.re wp Gx) W → SimE (z.re wp Gx) (fun σZ HZ Q => σZ[(0 : Nat)]? = some (some (.ref f)) ∧ HZ c' = some (CodeO c' q) ∧ tl (fun cls d H' => W cls d σZ H') HZ Q) (mAsk f act)
theorem acts_of {K : PySem.W.Frag} {cm : Md} {p c f c' : Addr} {G H : Hp} {n : Nat} {q : Str} {tl : XK → Hp → VK → Prop} {act : M PV} (ok : Ok cm p c G H n) (hc' : H c' = some (CodeO c' q)) (a : ActR K cm p c G H tl act) : Acts ⟨K, cm, p, c, H, G, (· = p), fun _ => W0, G, p, p, p⟩ f c' q tl act := by
  intro wp Gx W hl σ env G2 H2 n2 Qp Q ok2 fr2 er2 hm hq
  unfold mAsk at hm
  split at hm
  · rename_i g he
    obtain ⟨rfl, hm⟩ := hm
    obtain ⟨x, hx, v, rfl, r⟩ := er2.at_ 0 _ he
    cases r
    have ncp : ¬ c' = p := fun z => by
      obtain ⟨_, _, _, e, _⟩ := ok.pen
      rw [z, e] at hc'
      cases hc'
    refine ⟨hx, fr2.st.keep _ _ hc' ncp nt_ext, ?_⟩
    exact a (fun cls d H' => W cls d σ H') (wp env) G2 H2 n2 Q Qp ok2 fr2.st hm (fun v q G3 H3 n3 ok3 s3 r3 h3 => hq v q G3 H3 n3 ok3 s3 r3 h3) fun cn fs C d G3 H3 n3 ok3 s3 hc rx hw => hl σ env G3 H3 n3 cn fs C d ok3 (fr2.stepP s3) (er2.step s3) hc rx hw
  · exact hm.elim
end
theorem gives_of {X : Cx} {Ng : List Str} {x a q : Str} {sg : Scope} {g : Addr} {cdg : Value} {bg : List Stmt} {K : PySem.W.Frag} {cm : Md} {b : Addr → M PV → MS} (hN : 1 ≤ Ng.length)
    (hb : ∀ (f c' : Addr) (s : Shared) (H : Hp) (tl : XK → Hp → VK → Prop), (X.A.deeper (envOfC x sg s.heap.objs.size g cdg)).guards = some [] → Room 2 (X.A.deeper (envOfC x sg s.heap.objs.size g cdg)) →
      (∀ (W : WX) (pn : List (Addr × Obj)) (xe : Value → Shared → Prop) (p1 p2 : Pos), Takes ((Ev.gvX X Ng x sg g cdg s H).tr pn xe) W →
        PE ((Ev.gvX X Ng x sg g cdg s H).tr pn xe) (.Call (.Name a p1) [] [] p2) (fun σZ HZ Q => σZ[(0 : Nat)]? = some (some (.ref f)) ∧ HZ c' = some (CodeO c' q) ∧ tl (fun cls d H' => W cls d σZ H') HZ Q)) →
      ∃ t, PSs (Ev.gvX X Ng x sg g cdg s H).nox bg t ∧ ∀ (z : Z) (act : M PV), z.K = K → z.cm = cm → z.W = (fun _ => W0) → Acts z f c' q tl act → SimS z t (b f act)) :
    Ev.Gives X Ng x sg g cdg bg a q (TTh K cm (mGv Ng.length b)) := by
  constructor
  intro f c' s H Q tl hgd hr hask hc' hf h
  obtain ⟨p, c, G, n, act, Qp, ok, ha, hm, hq⟩ := h
  obtain ⟨t, ht, hs⟩ := hb f c' s H tl hgd hr hask
  refine ⟨t, ht, ?_⟩
  refine hs ⟨K, cm, p, c, H, G, (· = p), fun _ => W0, G, p, p, p⟩ act rfl rfl rfl (acts_of ok hc' ha) (L2.start Ng [.ref f]) (startP Ng.length [.ext (.ref f)]) G H n _ _ ok ⟨Step.refl _ _ _, rfl, Same.refl _⟩ (envStart (.cons (.ext _) .nil) (by simpa using hN)) hm ⟨fun σ env G' H' n' _ ok' fr' er' h' => hq .non .non G' H' n' ok' fr'.st .non h', fun v q G' H' n' _ ok' fr' r' h' => hq v q G' H' n' ok' fr'.st r' h', fun _ _ _ _ _ _ _ _ _ h' => h', fun _ _ _ _ _ _ _ _ _ h' => h'⟩
section
variable {z : Z}
theorem EnvRel.ownN {G H G' H' : Hp} {σ : L2.St} {env : PEnv} {i : Nat} {a : Addr} {s : Pu.Slot} (e : EnvRel z G H σ env) (hs : σ[i]? = some (some (.ref a))) (he : env[i]? = some s) (os : s.isOwn = true)
    (st : Step (fun b => b = z.p ∨ b = a) G H G' H') : EnvRel z G' H' σ (env.set i .no) := by
  refine ⟨fun j u hj => ?_, fun j k u u' b njk hj hk ou ou' aj ak => ?_, by rw [List.length_set, e.len]⟩
  · rcases get_set hj with ⟨rfl, rfl, hl⟩ | ⟨ne, hj⟩
    · exact ⟨_, hs, trivial⟩
    · obtain ⟨y, hy, r⟩ := e.at_ j u hj
      refine ⟨y, hy, ?_⟩
      have na : ∀ b, u.isOwn = true → y = some (.ref b) → b ≠ a := fun b ou yb q => by
        subst q
        exact e.df j i u s b ne hj he ou os (by rw [hy, yb]) hs
      have mi : ∀ {b o}, H b = some o → NT o → Mine z G b → Mine z G' b := fun {b o} hb nt m => by
        refine ⟨?_, m.p, m.c, m.h⟩
        cases q : G' b with
        | none => rfl
        | some v =>
          have := st.new b v q ⟨o, hb, nt⟩
          rw [m.g] at this
          cases this
      cases u with
      | no => trivial
      | val q => exact let ⟨v, e, r⟩ := r; ⟨v, e, r.mono st.same⟩
      | own ps =>
        obtain ⟨b, vs, rfl, hb, mb, h0, rb⟩ := r
        refine ⟨b, vs, rfl, st.keep _ _ hb (fun q => ?_) nt_lst, mi hb nt_lst mb, h0, rb.mono st.same⟩
        rcases q with q | q
        · exact mb.p q
        · exact na b rfl rfl q
      | obj c fs =>
        obtain ⟨b, C, dx, vs, rfl, hc, hb, mb, rb, me⟩ := r
        refine ⟨b, C, dx, vs, rfl, hc, st.keep _ _ hb (fun q => ?_) nt_ins, mi hb nt_ins mb, rb.mono st.same, me⟩
        rcases q with q | q
        · exact mb.p q
        · exact na b rfl rfl q
  · have key : ∀ {j : Nat} {u : Pu.Slot}, (env.set i .no)[j]? = some u → u.isOwn = true → ∃ w : Pu.Slot, env[j]? = some w ∧ w.isOwn = true := fun {j u} hj ou => by
      rcases get_set hj with ⟨rfl, rfl, hl⟩ | ⟨ne, hj⟩
      · cases ou
      · exact ⟨u, hj, ou⟩
    obtain ⟨w, hw, ow⟩ := key hj ou
    obtain ⟨w', hw', ow'⟩ := key hk ou'
    exact e.df j k w w' b njk hw hw' ow ow' aj ak
theorem sim_supX {cn : Str} {C : Addr} {k : Nat} {m : Str → List (Str × PV) → List PV → M (List (Str × PV))} {E : XK} {ta : TA} {ma : PEnv → M (List PV)} (hW : ∃ wp, z.W = fun _ => wp) (hl : Link z E) (hc : z.cm cn = some C) (ha : SimA z ta ma) : SimS z (Ev.tSup C (spI z.K z.cm k m) [] E ta) (mSup cn k m ma) := by
  intro σ env G H n D Dp ok fr er hm ed
  unfold mSup at hm
  split at hm
  · rename_i c fs he
    obtain ⟨rfl, hm⟩ := hm
    obtain ⟨_, hx, a, C', dx, vs, rfl, hc', hh, mine, rf, me⟩ := er.at_ 0 _ he
    rw [hc] at hc'
    cases hc'
    refine ⟨a, dx, vs, hx, hh, ?_⟩
    refine ha.bind ok fr er hm fun us args G1 H1 n1 ok1 fr1 er1 s1 r1 hm1 => ?_
    obtain ⟨_, hx1, a1, C1, dx1, vs1, e1, hc1, hh1, mine1, rf1, me1⟩ := er1.at_ 0 _ he
    rw [hx] at hx1
    cases Option.some.inj hx1
    cases e1
    rw [hc] at hc1
    cases hc1
    rw [List.append_nil]
    refine ⟨z.p, z.c, G1, n1, c, C, a, dx1, us, vs1, fs, args, z.W env, _, rfl, by rw [r1.len]; exact hm1.1, ok1, hc, hh1, mine1.g, mine1.p, mine1.c, rf1, r1, hm1.2, fun vf' fs' G' H' n' ok' st' hx' gx' rf' hq' => ?_, fun cn fs2 C2 d G' H' n' ok' st' hc2 rx hw => ?_⟩
    · refine ed.nx σ _ G' H' n' (s1.same.trans st'.same) ok' (fr1.own mine1 st') ?_ hq'
      exact er1.own hx he rfl rfl st' ⟨a, C, dx1, vf', rfl, hc, hx', ⟨gx', mine1.p, mine1.c, mine1.h⟩, rf', me1⟩
    · obtain ⟨wp, hW⟩ := hW
      refine hl σ (env.set 0 .no) G' H' n' cn fs2 C2 d ok' (fr1.own mine1 st') (er1.ownN hx he rfl st') hc2 rx ?_
      rw [hW] at hw ⊢
      exact hw
  · exact hm.elim
end
theorem qinitSX {P : Program} {w : World} {K : PySem.W.Frag} {mg : Str → Option Value} {base : Heap} {x qual : Str} {st : Stmt} {f cc D f2 : Addr} {fd fd2 : FuncData} {N ps ps2 : List Str} {k k2 k3 : Nat} {cm : Md} {cn0 : Str}
    {pre post : List Stmt} {p0 p1 apos pos pos' : Pos} {e : Expr} {es : List Expr} {ar : Arg} {m2 : Str → List (Str × PV) → List PV → M (List (Str × PV))} {b1 b2 : MS} {ma : PEnv → M (List PV)} (hN : ps.length ≤ N.length)
    (F : Ev.FnS P K x qual st f cc D fd) (S : Ev.ScS N ps (C8.fnScope st)) (SP : Ev.Sup P K mg D "__init__" f2) (hcn : cm cn0 = some D) (hp : ((C8.fnArgs st).posonlyargs ++ (C8.fnArgs st).args).head? = some ar) (hn : N[0]? = some ar.arg) (hpa : (C8.fnScope st).names.lookup ar.arg = some .local)
    (hbd : C8.fnBody st = pre ++ (.Expr (.Call (.Attribute (.Call (.Name "super" p0) [] [] p1) "__init__" apos) (e :: es) [] pos) pos' :: post))
    (F2 : Ev.GOk P w K mg base (L2.CX P w) k2 f2 fd2 ps2 (spI K cm k3 m2)) (hk2 : k2 ≤ k) (hb2 : Binds K fd2 ps2 [])
    (hb : ∀ (cda : Addr) (A : Around) (outer : List Env) (s : Shared) (H : Hp) (E : XK), (A.deeper (PySem.W.ksEnv qual (C8.fnScope st) s.heap.objs.size f (.ref cda) cc)).guards = some [] → Room k (A.deeper (PySem.W.ksEnv qual (C8.fnScope st) s.heap.objs.size f (.ref cda) cc)) →
      ∃ t1 ta t2, PSs (Ev.cxS (L2.CX P w) P w K mg base N qual (C8.fnScope st) f cda cc A outer s H E) pre t1 ∧ PA (Ev.cxS (L2.CX P w) P w K mg base N qual (C8.fnScope st) f cda cc A outer s H E) (e :: es) ta ∧ PSs (Ev.cxS (L2.CX P w) P w K mg base N qual (C8.fnScope st) f cda cc A outer s H E) post t2 ∧
        ∀ z : Z, z.K = K → z.cm = cm → (∃ wp, z.W = fun _ => wp) → Link z E → SimS z t1 b1 ∧ SimA z ta ma ∧ SimS z t2 b2)
    (hst : ∀ env : Env, starEach (e :: es) env = (false, eval e env) :: starEach es env) (hpl : ∀ env : Env, (backTo pos (starEach es env)).any (·.1) = false)
    (pl : Env → Sem Bool) (hev : ∀ env : Env, eval (.Call (.Attribute (.Call (.Name "super" p0) [] [] p1) "__init__" apos) (e :: es) [] pos) env = (do
      let ov ← attributeBase (.Call (.Name "super" p0) [] [] p1) "__init__" env (eval (.Call (.Name "super" p0) [] [] p1) env)
      standAt apos.atName
      let (f, first) ← holding [ov] (getMethod ov "__init__" (pl env))
      callWith pos f first (backTo pos (starEach (e :: es) env)) [])) :
    Ev.GOk P w K mg base (L2.CX P w) (k + 1) f fd ps (spI K cm ps.length (mInitX N.length (mSeq b1 (mSeq (mSup cn0 k3 m2 ma) b2)))) := by
  refine Ev.gfnS (dvs := []) F S SP hp hn hpa (by decide +kernel) hbd (fun vs H Q E h => ?_) F2 hk2 hb2 .nil (fun cda A outer s H vs Q E hgd hr h => ?_) hst hpl pl hev
  · obtain ⟨_, _, _, _, _, _, _, _, us, _, _, _, _, _, rfl, hl, _⟩ := h
    exact hl
  · obtain ⟨p, c, G, n, cn, C, x, dx, us, vf, fs, args, Wp, Qp, rfl, hl, ok, hc, hx, gx, nxp, nxc, rf, rl, hm, hq, hxx⟩ := h
    obtain ⟨t1, ta, t2, q1, qa, q2, hs⟩ := hb cda A outer s H E hgd hr
    refine ⟨t1, ta, t2, E, q1, qa, q2, Ev.passE (takes_of rfl rfl rfl rfl), ?_⟩
    have es : L2.start N (V.ref x :: us) = some (.ref x) :: (us.map some ++ List.replicate (N.length - 1 - us.length) none) := by
      simp [L2.start]
      omega
    rw [es]
    have er := envStart (z := ⟨K, cm, p, c, H, G, fun b => b = p ∨ b = x, fun _ => Wp, G, x, C, dx⟩) (H := H) (k := N.length - 1) rl (by omega)
    have lk : Link ⟨K, cm, p, c, H, G, fun b => b = p ∨ b = x, fun _ => Wp, G, x, C, dx⟩ E := fun σ env G' H' n' cn fs C d ok' fr' er' hc rx hw => hxx cn fs C d G' H' n' ok' fr'.st hc rx hw
    obtain ⟨s1, s2, s3⟩ := hs ⟨K, cm, p, c, H, G, fun b => b = p ∨ b = x, fun _ => Wp, G, x, C, dx⟩ rfl rfl ⟨_, rfl⟩ lk
    refine (sim_seq s1 (sim_seq (sim_supX ⟨_, rfl⟩ lk hcn s2) s3)) _ (.obj cn fs :: startP (N.length - 1) args) G H n _ _ ok ⟨Step.refl _ _ _, .inl rfl, Same.refl _⟩ ⟨fun i s h => ?_, fun i j s s' a nij hi hj os os' _ _ => ?_, by simp [er.len]⟩ hm ⟨fun σ env G' H' n' _ ok' fr' er' h' => ?_, fun _ _ _ _ _ _ _ _ _ h' => h'.elim, fun _ _ _ _ _ _ _ _ _ h' => h', fun _ _ _ _ _ _ _ _ _ h' => h'⟩
    · cases i with
      | zero =>
        cases h
        exact ⟨_, rfl, x, C, dx, vf, rfl, hc, hx, ⟨gx, nxp, nxc, .inr (.inr rfl)⟩, rf, rfl, rfl, rfl⟩
      | succ i => exact er.at_ i s h
    · have key : ∀ (l : Nat) (u : Pu.Slot), (Pu.Slot.obj cn fs :: startP (N.length - 1) args)[l]? = some u → u.isOwn = true → l = 0 := fun l u hl ou => by
        cases l with
        | zero => rfl
        | succ l =>
          have := startP_own (show (startP (N.length - 1) args)[l]? = some u from hl)
          rw [this] at ou
          cases ou
      exact nij ((key i s hi os).trans (key j s' hj os').symm)
    · have h' : initEnd Qp env n' := h'
      unfold initEnd at h'
      split at h'
      · rename_i fs' rest _
        obtain ⟨_, _, a, C', dx', vf', _, hc', hh, mine, rf', rfl, rfl, rfl⟩ := er'.at_ 0 _ rfl
        exact hq vf' fs' G' H' n' ok' fr'.st hh mine.g rf' h'
      · exact h'.elim
theorem _root_.Ev.takesE0 {X : Cx} : Takes X (fun cls d _ H => E0 cls d H) := fun _ _ x => by
  obtain ⟨_, _, _, _, _, _, _, _, _, _, _, _, _, _, _, _, z⟩ := x
  exact z.elim
end Pu
namespace Pu
open PySem PySem.Spec PyProof.Rows L2
def mFmt (a : PEnv → M PV) : PEnv → M PV := fun env W n Q => a env W n fun x n1 => match x with
  | .str y => y.length ≤ 1000000 ∧ Q (.str y) n1
  | .int i => i.natAbs.log2 < 1920 ∧ Q (.str (toString i)) n1
  | _ => False
def mJs : List (PEnv → M PV) → Str → PEnv → XP → Nat → (Str → Nat → Prop) → Prop
  | [], acc, _, _, n, Q => Q acc n
  | m :: ms, acc, env, W, n, Q => m env W n fun x n1 => match x with
    | .str y => (acc ++ y).length ≤ 1000000 ∧ mJs ms (acc ++ y) env W n1 Q
    | _ => False
def mJoined (ms : List (PEnv → M PV)) : PEnv → M PV := fun env W n Q => mJs ms Str.empty env W n fun out n1 => Q (.str out) n1
inductive SJ (z : Z) : List TE → List (PEnv → M PV) → Prop where
  | nil : SJ z [] []
  | cons {t : TE} {m : PEnv → M PV} {ts : List TE} {ms : List (PEnv → M PV)} (h : SimE z t m) (r : SJ z ts ms) : SJ z (t :: ts) (m :: ms)
section
variable {z : Z}
theorem sim_fmt {te : TE} {m : PEnv → M PV} (h : SimE z te m) : SimE z (tFmt te) (mFmt m) := by
  intro σ env G H n Qp Q ok fr er hm hq
  refine h.bind ok fr er hm fun x px G1 H1 n1 ok1 fr1 er1 s1 r1 hm1 => ?_
  cases r1 <;> try exact hm1.elim
  · exact .inr ⟨_, rfl, hm1.1, (hq.step s1).here ok1 (.str _) hm1.2⟩
  · exact .inl ⟨_, rfl, line_of hm1.1, (hq.step s1).here ok1 (.str _) hm1.2⟩
theorem sj_run {ts : List TE} {ms : List (PEnv → M PV)} (h : SJ z ts ms) : ∀ (acc : Str) (σ : L2.St) (env : PEnv) (G H : Hp) (n : Nat) (Qp : Str → Nat → Prop) (Q : Str → Hp → Prop), Ok z.cm z.p z.c G H n → Fr z G H → EnvRel z G H σ env → mJs ms acc env (z.W env) n Qp →
    (∀ out G' H' n', Ok z.cm z.p z.c G' H' n' → Step (· = z.p) G H G' H' → Qp out n' → Q out H') → tJs ts acc σ H Q := by
  induction h with
  | nil => exact fun acc σ env G H n Qp Q ok fr er hm hq => hq acc G H n ok (Step.refl _ _ _) hm
  | cons h r ih =>
    intro acc σ env G H n Qp Q ok fr er hm hq
    refine Sim.bind (z := z) (R := z.rep) h ok fr er hm fun x px G1 H1 n1 ok1 fr1 er1 s1 r1 hm1 => ?_
    cases r1 <;> try exact hm1.elim
    exact ⟨_, rfl, line_of hm1.1, ih _ σ env G1 H1 n1 Qp Q ok1 fr1 er1 hm1.2 fun out G' H' n' ok' st' h' => hq out G' H' n' ok' (s1.trans st' fun _ x => x) h'⟩
theorem sim_joined {ts : List TE} {ms : List (PEnv → M PV)} (h : SJ z ts ms) : SimE z (fun σ H Q => tJs ts Str.empty σ H fun out H1 => Q (.str out) H1) (mJoined ms) :=
  fun σ env G H n Qp Q ok fr er hm hq => sj_run h _ σ env G H n _ _ ok fr er hm fun out G' H' n' ok' st' h' => hq (.str out) (.str out) G' H' n' ok' st' (.str _) h'
end
def mSetIx (i : Nat) (ix e : PEnv → M PV) : MS := fun W D env n => e env (W env) n fun v n1 => match env[i]? with
  | some (.own xs) => ix env (W env) n1 fun k n2 => match k with
    | .int k => match ixN xs.length k with
      | some j => D.nx (env.set i (.own (xs.set j v))) n2
      | none => False
    | _ => False
  | _ => False
def mOwnList (i : Nat) (r : PEnv → M (List PV)) : MS := fun W D env n => r env (W env) n fun ys n1 => match ys with
  | [.lst xs] => D.nx (env.set i (.own xs)) n1
  | [.tup xs] => D.nx (env.set i (.own xs)) n1
  | _ => False
def mParOwn (i j : Nat) (ma : PEnv → M (List PV)) (mb : PEnv → M PV) : MS := fun W D env n => ma env (W env) n fun ys n1 => match ys with
  | [.lst xs] => mb env (W env) n1 fun y n2 => D.nx ((env.set i (.own xs)).set j (.val y)) n2
  | [.tup xs] => mb env (W env) n1 fun y n2 => D.nx ((env.set i (.own xs)).set j (.val y)) n2
  | _ => False
theorem repL_set {K : PySem.W.Frag} {cm : Md} {p : Addr} {G : Hp} {v : V} {q : PV} (r : Rep K cm p G v q) : ∀ {vs : List V} {ps : List PV} {j : Nat}, RepL K cm p G vs ps → RepL K cm p G (vs.set j v) (ps.set j q)
  | _, _, _, .nil => .nil
  | _, _, 0, .cons _ t => .cons r t
  | _, _, _ + 1, .cons h t => .cons h (repL_set r t)
section
variable {z : Z}
theorem sim_setIx {i : Nat} {te ti : TE} {me mi : PEnv → M PV} (he : SimE z te me) (hi : SimE z ti mi) : SimS z (tAsg te (gSub (tVar i) ti rSetL)) (mSetIx i mi me) := by
  intro σ env G H n D Dp ok fr er hm ed
  refine he.bind ok fr er hm fun v q G1 H1 n1 ok1 fr1 er1 s1 r1 hm1 => ?_
  split at hm1
  · rename_i ps hown
    obtain ⟨_, hx, a, vs, rfl, hh, mine, h0, rl⟩ := er1.at_ i _ hown
    refine ⟨_, hx, ?_⟩
    refine hi.bind ok1 fr1 er1 hm1 fun k kq G2 H2 n2 ok2 fr2 er2 s2 r2 hm2 => ?_
    obtain ⟨_, hx2, a2, vs2, e2, hh2, mine2, h02, rl2⟩ := er2.at_ i _ hown
    rw [hx] at hx2
    cases Option.some.inj hx2
    cases e2
    cases r2 <;> try exact hm2.elim
    rename_i kk
    simp only at hm2
    split at hm2
    · rename_i j hj
      refine ⟨a, vs2, kk, j, rfl, rfl, hh2, by rw [rl2.len]; exact hj, ?_⟩
      refine ed.nx _ _ G2 _ n2 (s1.same.trans s2.same) (ok2.set mine2 hh2) (fr2.set mine2) ?_ hm2
      exact er2.store hx hown rfl rfl mine2 ⟨a, _, rfl, upd_same, mine2, h02, repL_set (r1.mono s2.same) rl2⟩
    · exact hm2.elim
  · exact hm1.elim
theorem sim_ownList {i : Nat} {ta : TA} {m : PEnv → M (List PV)} (h : SimA z ta m) : SimS z (tAsg (tCB (fun xs H Q => ∃ p ys, xs = [.ref p] ∧ (SqL z.K H p ys ∨ SqT z.K H p ys) ∧ ∀ l, H l = none → Q (.ref l) (upd H l (.lst ys))) ta) (gName i)) (mOwnList i m) := by
  intro σ env G H n D Dp ok fr er hm ed
  refine h.bind ok fr er hm fun xs ps G1 H1 n1 ok1 fr1 er1 s1 r1 hm1 => ?_
  have fin : ∀ {a : Addr} {vs : List V} {qs : List PV}, z.repL G1 vs qs → Dp.nx (env.set i (.own qs)) n1 → ∀ l, H1 l = none → D.nx (σ.set i (some (.ref l))) (upd H1 l (.lst vs)) := fun {a vs qs} rl hk q hq1 => by
    obtain ⟨ok2, s2⟩ := ok1.newO (o := .lst vs) hq1
    have mine := ok1.mine fr1 hq1
    refine ed.nx _ _ G1 _ n1 s1.same ok2 (fr1.stepP s2) ?_ hk
    refine (er1.step s2).set ⟨q, vs, rfl, upd_same, mine, fr1.h0 hq1, rl⟩ fun _ j s' b nj hj os' hb eb => ?_
    cases Option.some.inj eb
    obtain ⟨x, hx, rx⟩ := er1.at_ j s' hj
    rw [hx] at hb
    cases Option.some.inj hb
    cases s' with
    | no => cases os'
    | val _ => cases os'
    | own ps =>
      obtain ⟨b, vs, e, hb, _⟩ := rx
      cases e
      rw [hq1] at hb
      cases hb
    | obj c fs =>
      obtain ⟨b, C, dx, vs, e, _, hb, _⟩ := rx
      cases e
      rw [hq1] at hb
      cases hb
  split at hm1
  · cases r1 with
    | cons r t =>
      cases t
      cases r with
      | lst hs rl => exact ⟨_, _, rfl, .inl (SqL.of (ok1.sub _ _ hs)), fin (a := 0) rl hm1⟩
  · cases r1 with
    | cons r t =>
      cases t
      cases r with
      | tup hs rl => exact ⟨_, _, rfl, .inr (Ev.Same.seqT ok1.sub hs), fin (a := 0) rl hm1⟩
  · exact hm1.elim
theorem sim_parOwn {i j : Nat} {ta : TA} {tb : TE} {ma : PEnv → M (List PV)} {mb : PEnv → M PV} (ha : SimA z ta ma) (hb : SimE z tb mb) :
    SimS z (tPar i j (tCons (tCB (fun xs H Q => ∃ p ys, xs = [.ref p] ∧ (SqL z.K H p ys ∨ SqT z.K H p ys) ∧ ∀ l, H l = none → Q (.ref l) (upd H l (.lst ys))) ta) (tCons tb tNil))) (mParOwn i j ma mb) := by
  intro σ env G H n D Dp ok fr er hm ed
  refine ha.bind ok fr er hm fun xs ps G1 H1 n1 ok1 fr1 er1 s1 r1 hm1 => ?_
  have fin : ∀ {vs : List V} {qs : List PV}, z.repL G1 vs qs → (mb env (z.W env) n1 fun y n2 => Dp.nx ((env.set i (.own qs)).set j (.val y)) n2) → ∀ l, H1 l = none →
      (tCons tb tNil) σ (upd H1 l (.lst vs)) (fun ws H2 => ∃ x y, V.ref l :: ws = [x, y] ∧ D.nx ((σ.set i (some x)).set j (some y)) H2) := fun {vs qs} rl hk q hq1 => by
    obtain ⟨ok2, s2⟩ := ok1.newO (o := .lst vs) hq1
    have mine := ok1.mine fr1 hq1
    refine hb.bind ok2 (fr1.stepP s2) (er1.step s2) hk fun y py G3 H3 n3 ok3 fr3 er3 s3 r3 hm3 => ?_
    refine ⟨_, _, rfl, ?_⟩
    have g3 : G3 q = none := by
      cases e : G3 q with
      | none => rfl
      | some o =>
        have := s3.new q o e ⟨_, upd_same, nt_lst⟩
        rw [mine.g] at this
        cases this
    have mine3 : Mine z G3 q := ⟨g3, mine.p, mine.c, mine.h⟩
    refine ed.nx _ _ G3 H3 n3 ((s1.same.trans s2.same).trans s3.same) ok3 fr3 (EnvRel.setV ?_ r3) hm3
    refine er3.set ⟨q, vs, rfl, s3.keep _ _ upd_same mine.p nt_lst, mine3, fr1.h0 hq1, (rl.mono s2.same).mono s3.same⟩ fun _ j s' b nj hj os' hb eb => ?_
    cases Option.some.inj eb
    obtain ⟨x, hx, rx⟩ := er1.at_ j s' hj
    rw [hx] at hb
    cases Option.some.inj hb
    cases s' with
    | no => cases os'
    | val _ => cases os'
    | own ps =>
      obtain ⟨b, vs, e, hb, _⟩ := rx
      cases e
      rw [hq1] at hb
      cases hb
    | obj c fs =>
      obtain ⟨b, C, dx, vs, e, _, hb, _⟩ := rx
      cases e
      rw [hq1] at hb
      cases hb
  split at hm1
  · cases r1 with
    | cons r t =>
      cases t
      cases r with
      | lst hs rl => exact ⟨_, _, rfl, .inl (SqL.of (ok1.sub _ _ hs)), fin rl hm1⟩
  · cases r1 with
    | cons r t =>
      cases t
      cases r with
      | tup hs rl => exact ⟨_, _, rfl, .inr (Ev.Same.seqT ok1.sub hs), fin rl hm1⟩
  · exact hm1.elim
end
end Pu
namespace Ev
open PySem PySem.Spec PyProof.Rows L2
theorem ix_seqK {X : Cx} {K : PySem.W.Frag} (hK : X.K = K := by rfl) : IxR X (rIx K) := hK ▸ ix_seq
end Ev
namespace Pu
open PySem PySem.Spec PyProof.Rows L2
def pIxA : PV → PV → M PV := fun x y _ n Q => match x, y with
  | .lst xs, .int i => match atI xs i with
    | some v => Q v n
    | none => False
  | .tup xs, .int i => match atI xs i with
    | some v => Q v n
    | none => False
  | _, _ => False
theorem simR_ixA {z : Z} : SimR z (rIx z.K) pIxA := by
  intro σ env G H n Qp Q x y px py ok fr er rx ry hm hq
  cases rx <;> try exact hm.elim
  · exact .inl (simR_ixL σ env G H n Qp Q _ y _ py ok fr er (.lst (by assumption) (by assumption)) ry (by cases ry <;> first | exact hm | exact hm.elim) hq)
  · exact .inr (.inl (simR_ixT σ env G H n Qp Q _ y _ py ok fr er (.tup (by assumption) (by assumption)) ry (by cases ry <;> first | exact hm | exact hm.elim) hq))
end Pu
namespace Ev
open PySem PySem.Spec PyProof.Rows L2
def kD : Key → PyData
  | .inl i => .int i
  | .inr x => .str x
mutual
inductive Dq (K : PySem.W.Frag) (H : Hp) : V → PyData → Prop
  | non : Dq K H .non .none
  | bl (b : Bool) : Dq K H (.bl b) (.bool b)
  | int (i : Int) : Dq K H (.int i) (.int i)
  | str (x : Str) : Dq K H (.str x) (.str x)
  | lst {a : Addr} {xs : List V} {ds : List PyData} : SqL K H a xs → DqAll K H xs ds → Dq K H (.ref a) (.list ds)
  | tup {a : Addr} {xs : List V} {ds : List PyData} : SqT K H a xs → DqAll K H xs ds → Dq K H (.ref a) (.tuple ds)
  | dK {a : Addr} {kvs : List (Key × V)} {ds : List (PyData × PyData)} : H a = some (.dK kvs) → DqK K H kvs ds → Dq K H (.ref a) (.dict ds)
inductive DqAll (K : PySem.W.Frag) (H : Hp) : List V → List PyData → Prop
  | nil : DqAll K H [] []
  | cons {v : V} {vs : List V} {d : PyData} {ds : List PyData} : Dq K H v d → DqAll K H vs ds → DqAll K H (v :: vs) (d :: ds)
inductive DqK (K : PySem.W.Frag) (H : Hp) : List (Key × V) → List (PyData × PyData) → Prop
  | nil : DqK K H [] []
  | cons {k : Key} {v : V} {vs : List (Key × V)} {d : PyData} {ds : List (PyData × PyData)} : Dq K H v d → DqK K H vs ds → DqK K H ((k, v) :: vs) ((kD k, d) :: ds)
end
section
variable {X : Cx} {pins : List (Addr × Obj)} {σ : L2.St} {H : Hp} {s : Shared}
theorem sm_ne (I : Inv X pins σ H s) (sm : SM X.base) {a : Addr} {o : Obj} {ws : Array Value} {n : Nat} (h : s.heap.get? a = some o) (hd : o.data = .seq ws n) : a ≠ sysModules := fun e => by
  obtain ⟨o2, h2, h3⟩ := sm
  subst e
  rw [(I.bs _ _ h2).1] at h
  cases h
  exact h3 _ _ hd
mutual
theorem Dq.reads (I : Inv X pins σ H s) (sm : SM X.base) : ∀ (d : PyData) (v : V) (u : Value), Dq X.K H v d → RelV v u → ∃ as, Reads s.heap u d as ∧ sysModules ∉ as
  | .none, _, _, h, r => by
    cases h
    cases r
    exact ⟨_, Reads.none, by simp⟩
  | .bool b, _, _, h, r => by
    cases h
    cases r
    exact ⟨_, Reads.bool b, by simp⟩
  | .int i, _, _, h, r => by
    cases h
    obtain ⟨t, rfl⟩ := r
    exact ⟨_, Reads.int i t, by simp⟩
  | .str x, _, _, h, r => by
    cases h
    obtain ⟨t, rfl⟩ := r
    exact ⟨_, Reads.str x t, by simp⟩
  | .list ds, _, _, h, r => by
    cases h with
    | lst hs ha =>
      cases r
      obtain ⟨its, rv, ⟨o, n, ho, hc, _, hd⟩, _⟩ := I.list hs
      obtain ⟨as, hr, hn⟩ := Dq.readsAll I sm ds _ its ha rv
      refine ⟨_, Reads.list ho hc hd hr, fun h => ?_⟩
      rcases List.mem_cons.mp h with h | h
      · exact sm_ne I sm ho hd h.symm
      · exact hn h
  | .tuple ds, _, _, h, r => by
    cases h with
    | tup hs ha =>
      cases r
      obtain ⟨its, rv, ⟨o, ho, hc, n, hd⟩, _⟩ := I.tuple hs
      obtain ⟨as, hr, hn⟩ := Dq.readsAll I sm ds _ its ha rv
      exact ⟨_, Reads.tuple ho hc hd hr, hn⟩
  | .dict ds, _, _, h, r => by
    cases h with
    | dK hs ha =>
      rename_i a kvs
      cases r
      obtain ⟨_, hz, vs, rel, o, es, ep, ho, hx, hd, _, hp, _⟩ := dk_of I.hok hs
      obtain ⟨as, bs, h1, h2, n1, n2⟩ := Dq.readsK I sm ds _ vs es.toList ha rel hp
      refine ⟨_, Reads.dict ho hx.1 hd h1 h2, fun h => ?_⟩
      rcases List.mem_append.mp h with h | h
      · rcases List.mem_cons.mp h with h | h
        · subst h
          exact absurd hz (by decide)
        · exact n1 h
      · exact n2 h
theorem Dq.readsAll (I : Inv X pins σ H s) (sm : SM X.base) : ∀ (ds : List PyData) (vs : List V) (us : List Value), DqAll X.K H vs ds → Vals vs us → ∃ as, ReadsAll s.heap us ds as ∧ sysModules ∉ as
  | [], _, _, h, r => by
    cases h
    cases r
    exact ⟨_, ReadsAll.nil, by simp⟩
  | d :: ds, _, _, h, r => by
    cases h with
    | cons h1 h2 =>
      cases r with
      | cons r1 r2 =>
        obtain ⟨as, q1, n1⟩ := Dq.reads I sm d _ _ h1 r1
        obtain ⟨bs, q2, n2⟩ := Dq.readsAll I sm ds _ _ h2 r2
        exact ⟨_, ReadsAll.cons q1 q2, fun h => (List.mem_append.mp h).elim n1 n2⟩
theorem Dq.readsK (I : Inv X pins σ H s) (sm : SM X.base) : ∀ (ds : List (PyData × PyData)) (kvs : List (Key × V)) (vs : List (Key × Value)) (es : List DictEntry), DqK X.K H kvs ds → KV kvs vs → Pairs (mixKind X.prog X.w) es vs →
    ∃ as bs, ReadsAll s.heap (es.map (·.key)) (ds.map (·.1)) as ∧ ReadsAll s.heap (es.map (·.val)) (ds.map (·.2)) bs ∧ sysModules ∉ as ∧ sysModules ∉ bs
  | [], _, _, _, h, r, p => by
    cases h
    cases r
    cases p
    exact ⟨_, _, ReadsAll.nil, ReadsAll.nil, by simp, by simp⟩
  | (kd, d) :: ds, _, _, _, h, r, p => by
    cases h with
    | @cons k v vs0 _ _ h1 h2 =>
      cases r with
      | @cons _ q _ qs r1 r2 =>
        cases p with
        | @cons e _ es _ p1 p2 p3 =>
          obtain ⟨k', u⟩ := q
          obtain ⟨e1, r1⟩ := r1
          cases e1
          obtain ⟨as, q1, n1⟩ := Dq.reads I sm d _ _ h1 r1
          obtain ⟨as2, bs2, a2, b2, n2, n3⟩ := Dq.readsK I sm ds _ _ es h2 r2 p3
          have hk : ∃ cs, Reads s.heap e.key (kD k) cs ∧ sysModules ∉ cs := by
            rcases keyIs_shape p1 with ⟨i, t, h3, h4⟩ | ⟨x, t, h3, h4⟩
            · have h3 : k = Sum.inl i := h3
              subst h3
              rw [h4]
              exact ⟨_, Reads.int i t, by simp⟩
            · have h3 : k = Sum.inr x := h3
              subst h3
              rw [h4]
              exact ⟨_, Reads.str x t, by simp⟩
          obtain ⟨cs, k1, k2⟩ := hk
          refine ⟨_, _, ReadsAll.cons k1 a2, ReadsAll.cons (?_ : Reads s.heap e.val d _) b2, fun h => (List.mem_append.mp h).elim k2 n2, fun h => (List.mem_append.mp h).elim n1 n3⟩
          rw [p2]
          exact q1
end
end
structure ShowsD (d : PyData) : Prop where
  sh : d.showable = true
  dp : d.depth ≤ 64
  ln : d.shown.length ≤ 16777216
theorem Shows.d {d : PyData} (h : Shows d) : ShowsD d := ⟨h.sh, h.dp, Nat.le_trans (shown_le d h.sh h.nd) h.ct⟩
section
variable {X : Cx}
def rReprD (K : PySem.W.Frag) : List V → Hp → VK → Prop := fun vs H Q => ∃ (x : V) (d : PyData), vs = [x] ∧ Dq K H x d ∧ ShowsD d ∧ Q (.str d.shown) H
theorem call_reprD (sm : SM X.base) (hgd : X.A.guards = some []) (hu : X.A.units + 64 < cLine) (hu2 : X.A.units + 200 < cLine) : CallR X (.builtin "repr") (rReprD X.K) := by
  intro pins s σ H vs us Q I r h
  obtain ⟨x, d, rfl, hd, S, q⟩ := h
  cases r with
  | cons rx rn =>
    cases rn
    rename_i u
    have hz : d.shown.length ≤ sizeLine := by
      have b := S.ln
      rw [sizeLine_eq]
      omega
    obtain ⟨as, hr, hn⟩ := Dq.reads I sm d x u hd rx
    cases hd with
    | non =>
      cases rx
      exact P.repr_of_none ⟨.str _, H, I.tok _, ⟨_, rfl⟩, q⟩
    | bl b =>
      cases rx
      exact P.repr_of_bool ⟨.str _, H, I.tok _, ⟨_, rfl⟩, q⟩
    | int i =>
      obtain ⟨t, rfl⟩ := rx
      exact P.repr_of_int (of_decide_eq_true S.sh) ⟨.str _, H, I.tok _, ⟨_, rfl⟩, q⟩
    | str z =>
      obtain ⟨t, rfl⟩ := rx
      exact P.repr_of_str ⟨.str _, H, I.tok _, ⟨_, rfl⟩, q⟩ hz
    | lst a b =>
      cases rx
      exact repr_of_reads' hr S.sh (fun _ => hn) hgd (by have := S.dp; omega) (fun _ _ e => e) (fun h' t tk hk => ⟨.str _, H, I.kept hk, ⟨_, rfl⟩, q⟩) hz
    | tup a b =>
      cases rx
      exact repr_of_reads' hr S.sh (fun _ => hn) hgd (by have := S.dp; omega) (fun _ _ e => e) (fun h' t tk hk => ⟨.str _, H, I.kept hk, ⟨_, rfl⟩, q⟩) hz
    | dK a b =>
      cases rx
      exact repr_of_reads' hr S.sh (fun _ => hn) hgd (by have := S.dp; omega) (fun _ _ e => e) (fun h' t tk hk => ⟨.str _, H, I.kept hk, ⟨_, rfl⟩, q⟩) hz
theorem call_reprDK {K : PySem.W.Frag} (sm : SM X.base) (hgd : X.A.guards = some []) (hu : X.A.units + 64 < cLine) (hu2 : X.A.units + 200 < cLine) (hK : X.K = K := by rfl) : CallR X (.builtin "repr") (rReprD K) := hK ▸ call_reprD sm hgd hu hu2
end
end Ev
namespace Pu
open PySem PySem.Spec PyProof.Rows L2
def putP (kvs : List (Key × PV)) (k : Key) (v : PV) : List (Key × PV) :=
  if (kvs.any fun kv => decide (kv.1 = k)) = true then kvs.map (fun kv => if kv.1 = k then (kv.1, v) else kv) else kvs ++ [(k, v)]
def mergeP (kvs more : List (Key × PV)) : List (Key × PV) := more.foldl (fun acc kv => putP acc kv.1 kv.2) kvs
def mPairs : List (Key × (PEnv → M PV)) → PEnv → M (List (Key × PV))
  | [] => fun _ _ n Q => Q [] n
  | (k, m) :: r => fun env W n Q => m env W n fun x n1 => mPairs r env W n1 fun xs n2 => Q ((k, x) :: xs) n2
def mDct (ms : List (Key × (PEnv → M PV))) : PEnv → M PV := fun env W n Q => mPairs ms env W n fun xs n1 => xs.length ≤ 15 ∧ Q (.dct (mergeP [] xs)) n1
mutual
def PV.dataD : PV → Option PyData
  | .non => some .none
  | .bl b => some (.bool b)
  | .int i => some (.int i)
  | .str s => some (.str s)
  | .lst xs => (datasD xs).map .list
  | .tup xs => (datasD xs).map .tuple
  | .dct xs => (datasK xs).map .dict
  | _ => none
def datasD : List PV → Option (List PyData)
  | [] => some []
  | x :: xs => match x.dataD, datasD xs with
    | some d, some ds => some (d :: ds)
    | _, _ => none
def datasK : List (Key × PV) → Option (List (PyData × PyData))
  | [] => some []
  | (k, x) :: xs => match x.dataD, datasK xs with
    | some d, some ds => some ((Ev.kD k, d) :: ds)
    | _, _ => none
end
mutual
theorem dq_of {K : PySem.W.Frag} {cm : Md} {p : Addr} {G H : Hp} (s : Same G H) : ∀ {v : V} {q : PV} {d : PyData}, Rep K cm p G v q → q.dataD = some d → Ev.Dq K H v d
  | _, _, _, .non, e => by cases e; exact .non
  | _, _, _, .bl b, e => by cases e; exact .bl b
  | _, _, _, .int b, e => by cases e; exact .int b
  | _, _, _, .str b, e => by cases e; exact .str b
  | _, .lst xs, _, .lst h r, e => by
    simp only [PV.dataD] at e
    obtain ⟨ds, hd, rfl⟩ := Option.map_eq_some_iff.mp e
    exact .lst (SqL.of (s _ _ h)) (dqa_of s r hd)
  | _, .tup xs, _, .tup h r, e => by
    simp only [PV.dataD] at e
    obtain ⟨ds, hd, rfl⟩ := Option.map_eq_some_iff.mp e
    exact .tup (Ev.Same.seqT s h) (dqa_of s r hd)
  | _, .dct xs, _, .dct h r, e => by
    simp only [PV.dataD] at e
    obtain ⟨ds, hd, rfl⟩ := Option.map_eq_some_iff.mp e
    exact .dK (s _ _ h) (dqk_of s r hd)
  | _, _, _, .ins _ _ _, e => by simp [PV.dataD] at e
  | _, _, _, .exc _ _ _, e => by simp [PV.dataD] at e
  | _, _, _, .pen, e => by simp [PV.dataD] at e
  | _, _, _, .ext _, e => by simp [PV.dataD] at e
theorem dqa_of {K : PySem.W.Frag} {cm : Md} {p : Addr} {G H : Hp} (s : Same G H) : ∀ {v : List V} {q : List PV} {d : List PyData}, RepL K cm p G v q → datasD q = some d → Ev.DqAll K H v d
  | _, _, _, .nil, e => by cases e; exact .nil
  | _, x :: xs, _, .cons r t, e => by
    simp only [datasD] at e
    split at e
    · rename_i d ds hd hds
      cases e
      exact .cons (dq_of s r hd) (dqa_of s t hds)
    · cases e
theorem dqk_of {K : PySem.W.Frag} {cm : Md} {p : Addr} {G H : Hp} (s : Same G H) : ∀ {v : List (Key × V)} {q : List (Key × PV)} {d : List (PyData × PyData)}, RepK K cm p G v q → datasK q = some d → Ev.DqK K H v d
  | _, _, _, .nil, e => by cases e; exact .nil
  | _, (k, x) :: xs, _, .cons r t, e => by
    simp only [datasK] at e
    split at e
    · rename_i d ds hd hds
      cases e
      exact .cons (dq_of s r hd) (dqk_of s t hds)
    · cases e
end
def pReprD : List PV → M PV := fun xs _ n Q => match xs with
  | [x] => match x.dataD with
    | some d => Ev.ShowsD d ∧ Q (.str d.shown) n
    | none => False
  | _ => False
section
variable {K : PySem.W.Frag} {cm : Md} {p : Addr} {G : Hp}
theorem RepK.any (k : Key) : ∀ {v : List (Key × V)} {q : List (Key × PV)}, RepK K cm p G v q → (v.any fun kv => decide (kv.1 = k)) = q.any fun kv => decide (kv.1 = k)
  | _, _, .nil => rfl
  | _, _, .cons _ r => by rw [List.any_cons, List.any_cons, RepK.any k r]
theorem RepK.mapP {k : Key} {x : V} {y : PV} (h : Rep K cm p G x y) : ∀ {v : List (Key × V)} {q : List (Key × PV)}, RepK K cm p G v q → RepK K cm p G (v.map fun kv => if kv.1 = k then (kv.1, x) else kv) (q.map fun kv => if kv.1 = k then (kv.1, y) else kv)
  | _, _, .nil => .nil
  | _, _, .cons (k := j) r t => by
    rw [List.map_cons, List.map_cons]
    by_cases e : j = k
    · rw [if_pos e, if_pos e]
      exact .cons h (RepK.mapP h t)
    · rw [if_neg e, if_neg e]
      exact .cons r (RepK.mapP h t)
theorem RepK.append : ∀ {v v2 : List (Key × V)} {q q2 : List (Key × PV)}, RepK K cm p G v q → RepK K cm p G v2 q2 → RepK K cm p G (v ++ v2) (q ++ q2)
  | _, _, _, _, .nil, s => s
  | _, _, _, _, .cons r t, s => .cons r (RepK.append t s)
theorem RepK.put {k : Key} {x : V} {y : PV} {v : List (Key × V)} {q : List (Key × PV)} (h : Rep K cm p G x y) (r : RepK K cm p G v q) : RepK K cm p G (putK v k x) (putP q k y) := by
  unfold putK putP
  rw [r.any k]
  split
  · exact r.mapP h
  · exact r.append (.cons h .nil)
theorem RepK.merge : ∀ {m : List (Key × V)} {n : List (Key × PV)} {v : List (Key × V)} {q : List (Key × PV)}, RepK K cm p G m n → RepK K cm p G v q → RepK K cm p G (mergeK v m) (mergeP q n)
  | _, _, _, _, .nil, s => s
  | _, _, v, q, .cons (k := k) (v := x) (q := y) r t, s => RepK.merge (v := putK v k x) (q := putP q k y) t (s.put r)
theorem RepK.len : ∀ {v : List (Key × V)} {q : List (Key × PV)}, RepK K cm p G v q → v.length = q.length
  | _, _, .nil => rfl
  | _, _, .cons _ r => by rw [List.length_cons, List.length_cons, RepK.len r]
end
section
variable {z : Z}
theorem simC_reprD : SimC z (Ev.rReprD z.K) pReprD := by
  intro σ env G H n Qp Q xs ps ok fr er rl hm hq
  unfold pReprD at hm
  split at hm
  · split at hm
    · rename_i d hd
      cases rl with
      | cons r t =>
        cases t
        exact ⟨_, d, rfl, dq_of ok.sub r hd, hm.1, hq.here ok (.str _) hm.2⟩
    · exact hm.elim
  · exact hm.elim
def PrR (z : Z) (G : Hp) (ps : List (V × V)) (qs : List (Key × PV)) : Prop := ∃ kvs : List (Key × V), ps = kvs.map (fun kv => (kV kv.1, kv.2)) ∧ RepK z.K z.cm z.p G kvs qs
theorem sim_pnil : Sim z (PrR z) (tPairs []) (mPairs []) := fun σ env G H n Qp Q ok fr er hm hq => hq.here ok ⟨[], rfl, .nil⟩ hm
theorem sim_pcons {k : Key} {tv : TE} {trs : List (TE × TE)} {m : PEnv → M PV} {ms : List (Key × (PEnv → M PV))} (hv : SimE z tv m) (hr : Sim z (PrR z) (tPairs trs) (mPairs ms)) : Sim z (PrR z) (tPairs ((tC (kV k), tv) :: trs)) (mPairs ((k, m) :: ms)) := by
  intro σ env G H n Qp Q ok fr er hm hq
  show tv σ H fun y H2 => tPairs trs σ H2 fun ps H3 => Q ((kV k, y) :: ps) H3
  refine hv.bind ok fr er hm fun y py G1 H1 n1 ok1 fr1 er1 s1 r1 hm1 => ?_
  refine hr.bind ok1 fr1 er1 hm1 fun ps qs G2 H2 n2 ok2 fr2 er2 s2 r2 hm2 => ?_
  obtain ⟨kvs, rfl, r2⟩ := r2
  exact ((hq.step s1).step s2).here ok2 ⟨(k, y) :: kvs, rfl, .cons (r1.mono s2.same) r2⟩ hm2
theorem sim_pconsI {k : Int} {tv : TE} {trs : List (TE × TE)} {m : PEnv → M PV} {ms : List (Key × (PEnv → M PV))} (hv : SimE z tv m) (hr : Sim z (PrR z) (tPairs trs) (mPairs ms)) : Sim z (PrR z) (tPairs ((tC (.int k), tv) :: trs)) (mPairs ((.inl k, m) :: ms)) := sim_pcons (k := .inl k) hv hr
theorem sim_pconsS {k : Str} {tv : TE} {trs : List (TE × TE)} {m : PEnv → M PV} {ms : List (Key × (PEnv → M PV))} (hv : SimE z tv m) (hr : Sim z (PrR z) (tPairs trs) (mPairs ms)) : Sim z (PrR z) (tPairs ((tC (.str k), tv) :: trs)) (mPairs ((.inr k, m) :: ms)) := sim_pcons (k := .inr k) hv hr
theorem sim_dnew : SimE z tDNewK (mC (.dct [])) := by
  intro σ env G H n Qp Q ok fr er hm hq p hp
  obtain ⟨ok2, s2⟩ := ok.new (o := .dK []) hp nt_dK
  exact (hq.step s2).here ok2 (.dct upd_same .nil) hm
theorem sim_disp {trs : List (TE × TE)} {ms : List (Key × (PEnv → M PV))} (h : Sim z (PrR z) (tPairs trs) (mPairs ms)) : SimE z (tDisp trs) (mDct ms) := by
  intro σ env G H n Qp Q ok fr er hm hq p hp
  obtain ⟨ok2, s2⟩ := ok.newO (o := .dK []) hp
  have np := Ev.Pen.ne ok.pen hp
  have nc := Ev.Pen.neC ok.pen hp
  refine h.bind ok2 (fr.stepP s2) (er.step s2) hm fun ps qs G1 H1 n1 ok1 fr1 er1 s1 r1 hm1 => ?_
  obtain ⟨kvs, rfl, r1⟩ := r1
  have hh : H1 p = some (.dK []) := s1.keep p _ upd_same np nt_dK
  have g1 : G1 p = none := by
    cases e : G1 p with
    | none => rfl
    | some o =>
      have := s1.new p o e ⟨_, upd_same, nt_dK⟩
      rw [ok.free hp] at this
      cases this
  refine ⟨hh, kvs, rfl, by rw [r1.len]; exact hm1.1, ?_⟩
  have mine : Mine z G1 p := ⟨g1, np, nc, .inl (fr.h0 hp)⟩
  have ok3 := Ok.set (z := z) (o := .dK (mergeK [] kvs)) ok1 mine hh
  have sg : Same G1 (upd G1 p (.dK (mergeK [] kvs))) := fun b o e => Ev.get_new e g1
  have ok4 : Ok z.cm z.p z.c (upd G1 p (.dK (mergeK [] kvs))) (upd H1 p (.dK (mergeK [] kvs))) n1 := ⟨fun b o e => by
    by_cases q : b = p
    · subst q
      rw [upd_same] at e ⊢
      exact e
    · rw [upd_ne q] at e ⊢
      exact ok1.sub _ _ e, ok3.pen, (upd_ne np.symm).trans ok1.gp, (upd_ne nc.symm).trans ok1.gc, ok3.tb, gt_upd ok1.gt nt_dK⟩
  have sa := s2.trans s1 fun _ q => q
  refine hq (.ref p) (.dct (mergeP [] qs)) _ _ n1 ok4 ⟨sa.same.trans sg, fun b o e nb nt => ?_, fun b o e nb => ?_, fun b hb => ?_⟩ (.dct upd_same ((RepK.merge (r1.mono sg) .nil))) hm1.2
  · refine Ev.get_ne (fun q => ?_) (sa.keep b o e nb nt)
    rw [q, hp] at e
    cases e
  · by_cases q : b = p
    · subst q
      exact (nb.no hp).elim
    · rw [upd_ne q] at e
      exact sa.new b o e nb
  · exact (sa.al b hb).upd nt_dK
end
theorem merge0 : mergeP [] [] = [] := rfl
theorem merge1 {k : Key} {v : PV} : mergeP [] [(k, v)] = [(k, v)] := by simp [mergeP, putP]
end Pu
namespace Ev
open PySem PySem.Spec PyProof.Rows L2
section
variable {X : Cx}
def rMulS : R2 := fun x y H Q => ∃ (a : Str) (n : Int), x = .str a ∧ y = .int n ∧ MulOk a n ∧ Q (.str (Txt.mul a n)) H
theorem op_mulS : OpR X (binaryOp .Mult) rMulS := by
  intro pins s σ H x y v u Q I rx ry h
  obtain ⟨a, n, rfl, rfl, ok, q⟩ := h
  obtain ⟨t, rfl⟩ := rx
  obtain ⟨t2, rfl⟩ := ry
  exact SB.mul ok fun t' k => ⟨.str _, H, I.tok _, ⟨_, rfl⟩, q⟩
end
end Ev
namespace Pu
open PySem PySem.Spec PyProof.Rows L2
def pMulS : PV → PV → M PV := fun x y _ n Q => match x, y with
  | .str a, .int i => MulOk a i ∧ Q (.str (Txt.mul a i)) n
  | _, _ => False
def pIntS : List PV → M PV := fun xs _ n Q => match xs with
  | [.str a] => match PySem.intText? a with
    | some i => a.length ≤ 640 ∧ Q (.int i) n
    | none => False
  | _ => False
section
variable {z : Z}
theorem simR_mulS : SimR z Ev.rMulS pMulS := by
  intro σ env G H n Qp Q x y px py ok fr er rx ry hm hq
  cases rx <;> try exact hm.elim
  cases ry <;> try exact hm.elim
  exact ⟨_, _, rfl, rfl, hm.1, hq.here ok (.str _) hm.2⟩
theorem simC_intS : SimC z (fun xs H Q => ∃ a n, xs = [.str a] ∧ PySem.intText? a = some n ∧ a.length ≤ 640 ∧ Q (.int n) H) pIntS := by
  intro σ env G H n Qp Q xs ps ok fr er rl hm hq
  unfold pIntS at hm
  split at hm
  · cases rl with
    | cons r t =>
      cases t
      cases r
      split at hm
      · rename_i i hi
        exact ⟨_, i, rfl, hi, hm.1, hq.here ok (.int _) hm.2⟩
      · exact hm.elim
  · exact hm.elim
end
end Pu
namespace Ev
open PySem PySem.Spec PyProof.Rows L2
section
variable (P : Program) (w : World) (K : PySem.W.Frag) (mg : Str → Option Value) (base : Heap)
structure GI (k : Nat) (C : Addr) (sp : Sp) : Prop where
  ex : ∃ (f : Addr) (fd : FuncData) (ps : List Str), Meth K C "__call__" f ∧ PySem.W.fnIn K f = true ∧ GOk P w K mg base (L2.CX P w) k f fd ps sp ∧ Binds K fd ps []
end
section
variable {X : Cx} {k j n : Nat} {E : XK} {sp : Sp} {pos : Pos} {e o : Expr} {es : List Expr} {ta : TE} {t : TA}
def tInstD (D : Addr → Sp → Prop) (E : XK) (ta : TE) (t : TA) : TE := fun σ H Q => ta σ H fun x H1 => ∃ a, x = V.ref a ∧ t σ H1 fun vs H2 => ∃ C sp dx fs, D C sp ∧ H2 a = some (.ins C dx fs) ∧ sp (x :: vs) H2 Q E
theorem run_oD {f : Addr} {fd : FuncData} {ps : List Str} {pins : List (Addr × Obj)} {σ : L2.St} {H : Hp} {s : Shared} {Q : VK} {a dx C : Addr} {fs : List (Str × V)} {us : List Value} {vs : List V} (hm : Meth X.K C "__call__" f) (hfi : PySem.W.fnIn X.K f = true)
    (F : GOk X.prog X.w X.K X.mg X.base (L2.CX X.prog X.w) k f fd ps sp) (hgd : X.A.guards = some []) (hr : Room k X.A)
    (hb : Binds X.K fd ps []) (hx : Passes (L2.CX X.prog X.w) X E) (I : Inv X pins σ H s) (ha : H a = some (.ins C dx fs)) (r : Vals vs us) (h : sp (.ref a :: vs) H Q E) :
    wpAny (model X.prog X.w) X.A (call (.ref a) us) (EP X pins σ Q) X.xe s := by
  obtain ⟨ox, od, J, hd⟩ := inst_at I ha
  have r2 : Vals (.ref a :: vs) (.ref a :: us) := .cons rfl r
  have hl : (.ref a :: us : List Value).length = ps.length := r2.length.symm.trans (F.len _ _ _ _ h)
  have hb2 := hb s (.ref a :: us) I.kIn (by rw [List.append_nil]; exact hl)
  rw [List.append_nil] at hb2
  refine wpAny_call (PySem.W.kco_code (a := ⟨us, []⟩) I.kIn J hd hm.at_ hm.fn hfi (codeAny_mono (F.run X.A X.stack s H ⟨.ref a :: us, []⟩ (.ref a :: us) (.ref a :: vs) Q E hgd hr I.env0 hb2 r2 h) fun res s' hq => ?_))
  match res, hq with
  | .error e, hq => exact hx pins σ H s e s' I hq
  | .ok (.ret u), hq => exact I.after hq
  | .ok .next, hq => exact hq.elim
  | .ok .brk, hq => exact hq.elim
  | .ok .cont, hq => exact hq.elim
theorem pe_oD {D : Addr → Sp → Prop} (c : ∀ C sp, D C sp → GI X.prog X.w X.K X.mg X.base k C sp) (hgd : X.A.guards = some []) (hr : Room j X.A) (hk : k ≤ j) (hx : Passes (L2.CX X.prog X.w) X E) (ho : PE X o ta) (ha : PA X (e :: es) t)
    (ht : eval (.Call o (e :: es) [] pos) X.env = (do callWith pos (← eval o X.env) [] (backTo pos (starEach (e :: es) X.env)) (backToKw pos (keywordEach [] X.env))) := by rfl)
    (he : starEach (e :: es) X.env = (false, eval e X.env) :: starEach es X.env := by rfl) (hpl : (backTo pos (starEach es X.env)).any (·.1) = false := by rfl) : PE X (.Call o (e :: es) [] pos) (tInstD D E ta t) := by
  refine ⟨fun pins s σ H Q I h => ?_⟩
  refine Call_ (thn (ho.run pins s σ H _ I h) fun u s1 ⟨y, H1, I1, ry, a, ey, q⟩ => ?_) ht
  subst ey
  obtain rfl : u = Value.ref a := ry
  refine StX.callO_with (thn (ha.run pos pins s1 σ H1 _ I1 q) fun us s2 ⟨vs, H2, I2, r, C, sp, dx, fs, hD, hi, q2⟩ => ?_) he hpl
  obtain ⟨_, _, _, hm, hfi, F, b⟩ := (c C sp hD).ex
  obtain ⟨ox, od, J, hd⟩ := inst_at I2 hi
  exact ⟨⟨C, ox, od, J, hd⟩, run_oD hm hfi F hgd (hr.mono hk) b hx I2 hi r q2⟩
def tInstDK (D : Addr → Sp → Prop) (l : Nat) (gV : List V → List V → List V) (E : XK) (ta : TE) (tk : TA) : TE := fun σ H Q => ta σ H fun x H1 => ∃ a, x = V.ref a ∧ tk σ H1 fun zs H3 => zs.length = l ∧ ∃ C sp dx fs, D C sp ∧ H3 a = some (.ins C dx fs) ∧ sp (gV [x] zs) H3 Q E
theorem pe_oDK {D : Addr → Sp → Prop} {ks : List Str} {kws : List Keyword} {tk : TA} {gV : List V → List V → List V} (c : ∀ C sp, D C sp → GO X.prog X.w X.K X.mg X.base k C sp 0 ks gV) (hgd : X.A.guards = some []) (hr : Room j X.A) (hk : k ≤ j) (hx : Passes (L2.CX X.prog X.w) X E) (ho : PE X o ta) (hkw : PK X kws tk)
    (hall : (backToKw pos (keywordEach kws X.env)).all (·.1.isSome) = true := by rfl) (hks : (backToKw pos (keywordEach kws X.env)).filterMap (·.1) = ks := by rfl)
    (ht : eval (.Call o [] kws pos) X.env = (do callWith pos (← eval o X.env) [] (backTo pos (starEach [] X.env)) (backToKw pos (keywordEach kws X.env))) := by rfl)
    (hpl : ((backTo pos (starEach [] X.env)).any (·.1) || (backToKw pos (keywordEach kws X.env)).any (·.1.isNone)) = false := by rfl) : PE X (.Call o [] kws pos) (tInstDK D ks.length gV E ta tk) := by
  refine ⟨fun pins s σ H Q I h => ?_⟩
  rw [ht]
  refine wpAny_bind (thn (ho.run pins s σ H _ I h) fun u s1 ⟨y, H1, I1, ry, a, ey, q⟩ => ?_)
  subst ey
  obtain rfl : u = Value.ref a := ry
  refine inst_kw hpl (PySem.evalArgs_kw_nil hall (thn (hkw.run pos pins s1 σ H1 _ I1 q) fun ws s2 ⟨zs, H2, I2, rz, l2, C, sp, dx, fs, hD, hi, q2⟩ => ?_))
  obtain ⟨_, _, _, _, hm, hfi, F, b⟩ := (c C sp hD).ex
  obtain ⟨ox, od, J, hd⟩ := inst_at I2 hi
  rw [hks]
  exact ⟨⟨C, ox, od, J, hd⟩, run_o (us := []) (vs := []) hm hfi F hgd (hr.mono hk) b hx I2 hi .nil rz rfl l2 q2⟩
theorem op_isNB : OpR X (compareOp .IsNot) (fun x y H Q => ∃ b c, x = .bl b ∧ y = .bl c ∧ Q (.bl (!decide (b = c))) H) := by
  intro pins s σ H x y v u Q I rx ry h
  obtain ⟨b, c, rfl, rfl, q⟩ := h
  cases rx
  cases ry
  cases b <;> cases c <;> exact wpAny_pure ⟨.bl _, H, I, rfl, q⟩
theorem op_isBB : OpR X (compareOp .Is) (fun x y H Q => ∃ b c, x = .bl b ∧ y = .bl c ∧ Q (.bl (decide (b = c))) H) := by
  intro pins s σ H x y v u Q I rx ry h
  obtain ⟨b, c, rfl, rfl, q⟩ := h
  cases rx
  cases ry
  cases b <;> cases c <;> exact wpAny_pure ⟨.bl _, H, I, rfl, q⟩
end
end Ev
namespace Pu
open PySem PySem.Spec PyProof.Rows L2
def mInstD (ms : Ms) (k : Nat) (a : PEnv → M PV) (r : PEnv → M (List PV)) : PEnv → M PV := fun env W n Q => a env W n fun x n1 => match x with
  | .ins c fs => match ms.lookup c with
    | some m => r env W n1 fun args n2 => args.length + 1 = k ∧ m (.ins c fs :: args) W n2 Q
    | none => False
  | _ => False
section
variable {z : Z} {ms : Ms} {D : Addr → Sp → Prop} {E : XK}
theorem sim_instD {k : Nat} {ta : TE} {tr : TA} {ma : PEnv → M PV} {mr : PEnv → M (List PV)} (hl : Link z E) (hD : ∀ c m C, ms.lookup c = some m → z.cm c = some C → D C (spP z.K z.cm k m)) (ha : SimE z ta ma) (hr : SimA z tr mr) : SimE z (Ev.tInstD D E ta tr) (mInstD ms k ma mr) := by
  intro σ env G H n Qp Q ok fr er hm hq
  refine ha.bind ok fr er hm fun x px G1 H1 n1 ok1 fr1 er1 s1 r1 hm1 => ?_
  cases r1 <;> try exact hm1.elim
  rename_i a C dx c vs ps hc hg rf
  simp only at hm1
  split at hm1
  · rename_i m hlk
    refine ⟨a, rfl, ?_⟩
    refine hr.bind ok1 fr1 er1 hm1 fun us args G2 H2 n2 ok2 fr2 er2 s2 r2 hm2 => ?_
    have rr : z.repL G2 (.ref a :: us) (.ins c ps :: args) := .cons (.ins hc (s2.same _ _ hg) (rf.mono s2.same)) r2
    refine ⟨C, _, dx, vs, hD c m C hlk hc, ok2.sub _ _ (s2.same _ _ hg), ?_⟩
    refine ⟨z.p, z.c, G2, n2, _, z.W env, Qp, rr.len.trans (by rw [List.length_cons]; exact hm2.1), ok2, rr, hm2.2, fun v q G' H' n' ok' st' r' hq' => ((hq.step s1).step s2) v q G' H' n' ok' st' r' hq', fun cn fs C d G' H' n' ok' st' hc rx hw => ?_⟩
    exact hl σ env G' H' n' cn fs C d ok' (fr2.stepP st') (er2.step st') hc rx hw
  · exact hm1.elim
def mInstDK (ms : Ms) (l k : Nat) (gP : List PV → List PV → List PV) (a : PEnv → M PV) (s : PEnv → M (List PV)) : PEnv → M PV := fun env W n Q => a env W n fun x n1 => match x with
  | .ins c fs => match ms.lookup c with
    | some m => s env W n1 fun qs n2 => qs.length = l ∧ (gP [] qs).length + 1 = k ∧ m (.ins c fs :: gP [] qs) W n2 Q
    | none => False
  | _ => False
def pIsB : PV → PV → M PV := fun x y _ n Q => match x, y with
  | .bl b, .bl c => Q (.bl (decide (b = c))) n
  | _, _ => False
def pNotB : PV → PV → M PV := fun x y _ n Q => match x, y with
  | .bl b, .bl c => Q (.bl (!decide (b = c))) n
  | _, _ => False
theorem simR_isB : SimR z (fun x y H Q => ∃ b c, x = .bl b ∧ y = .bl c ∧ Q (.bl (decide (b = c))) H) pIsB := by
  intro σ env G H n Qp Q x y px py ok fr er rx ry hm hq
  cases rx <;> try exact hm.elim
  cases ry <;> try exact hm.elim
  exact ⟨_, _, rfl, rfl, hq.here ok (.bl _) hm⟩
theorem simR_notB : SimR z (fun x y H Q => ∃ b c, x = .bl b ∧ y = .bl c ∧ Q (.bl (!decide (b = c))) H) pNotB := by
  intro σ env G H n Qp Q x y px py ok fr er rx ry hm hq
  cases rx <;> try exact hm.elim
  cases ry <;> try exact hm.elim
  exact ⟨_, _, rfl, rfl, hq.here ok (.bl _) hm⟩
theorem sim_instDK {l k : Nat} {gP : List PV → List PV → List PV} {gV : List V → List V → List V} {ta : TE} {tk : TA} {ma : PEnv → M PV} {mk : PEnv → M (List PV)} (hl : Link z E) (hD : ∀ c m C, ms.lookup c = some m → z.cm c = some C → D C (spP z.K z.cm k m))
    (hg : ∀ G x vs ps zs qs, ps.length = 0 → qs.length = l → z.repL G vs ps → z.repL G zs qs → ∃ us, gV (.ref x :: vs) zs = .ref x :: us ∧ z.repL G us (gP ps qs)) (ha : SimE z ta ma) (hk : SimA z tk mk) : SimE z (Ev.tInstDK D l gV E ta tk) (mInstDK ms l k gP ma mk) := by
  intro σ env G H n Qp Q ok fr er hm hq
  refine ha.bind ok fr er hm fun x px G1 H1 n1 ok1 fr1 er1 s1 r1 hm1 => ?_
  cases r1 <;> try exact hm1.elim
  rename_i a C dx c vs ps hc hg' rf
  simp only at hm1
  split at hm1
  · rename_i m hlk
    refine ⟨a, rfl, ?_⟩
    refine hk.bind ok1 fr1 er1 hm1 fun zs qs G2 H2 n2 ok2 fr2 er2 s2 r2 hm2 => ?_
    obtain ⟨us, eu, ru⟩ := hg G2 a [] [] zs qs rfl hm2.1 .nil r2
    have rr : z.repL G2 (.ref a :: us) (.ins c ps :: gP [] qs) := .cons (.ins hc (s2.same _ _ hg') (rf.mono s2.same)) ru
    refine ⟨r2.len.trans hm2.1, C, _, dx, vs, hD c m C hlk hc, ok2.sub _ _ (s2.same _ _ hg'), ?_⟩
    rw [eu]
    refine ⟨z.p, z.c, G2, n2, _, z.W env, Qp, rr.len.trans (by rw [List.length_cons]; exact hm2.2.1), ok2, rr, hm2.2.2, fun v q G' H' n' ok' st' r' hq' => ((hq.step s1).step s2) v q G' H' n' ok' st' r' hq', fun cn fs C d G' H' n' ok' st' hc rx hw => ?_⟩
    exact hl σ env G' H' n' cn fs C d ok' (fr2.stepP st') (er2.step st') hc rx hw
  · exact hm1.elim
end
end Pu
namespace Pu
open PySem L2
def seqB (b : Bool) : PV → Option (List PV)
  | .lst xs => if b = true then some xs else none
  | .tup xs => if b = true then none else some xs
  | _ => none
def zipP : List PV → List PV → List PV
  | x :: xs, y :: ys => .tup [x, y] :: zipP xs ys
  | _, _ => []
theorem zipP_len : ∀ (xs ys : List PV), (zipP xs ys).length = min xs.length ys.length
  | [], _ => by simp [zipP]
  | _ :: _, [] => by simp [zipP]
  | x :: xs, y :: ys => by simp only [zipP, List.length_cons, zipP_len xs ys]; omega
theorem zipP_get : ∀ {xs ys : List PV} {i : Nat} {q : PV}, (zipP xs ys)[i]? = some q → ∃ x y, xs[i]? = some x ∧ ys[i]? = some y ∧ q = .tup [x, y]
  | [], _, _, _, h => by simp [zipP] at h
  | _ :: _, [], _, _, h => by simp [zipP] at h
  | x :: xs, y :: ys, 0, q, h => by
    simp [zipP] at h
    exact ⟨x, y, rfl, rfl, h.symm⟩
  | x :: xs, y :: ys, i + 1, q, h => by
    simp only [zipP, List.getElem?_cons_succ] at h ⊢
    exact zipP_get h
def mZip (b1 b2 : Bool) (r : PEnv → M (List PV)) : PEnv → M (List PV) := fun env W n Q => r env W n fun vs n1 => match vs with
  | [x, y] => match seqB b1 x, seqB b2 y with
    | some xs, some ys => Q (zipP xs ys) n1
    | _, _ => False
  | _ => False
theorem rep_seqB {z : Z} {b : Bool} {G : Hp} {v : V} {q : PV} {xs : List PV} (r : z.rep G v q) (h : seqB b q = some xs) :
    ∃ a vs, v = .ref a ∧ (∀ G2 H2, Same G G2 → Same G2 H2 → Ev.SqB b z.K H2 a vs) ∧ z.repL G vs xs := by
  cases r <;> cases b <;> simp [seqB] at h
  · subst h
    rename_i a vs ps hs rl
    exact ⟨_, _, rfl, fun G2 H2 s1 s2 => SqL.of ((s1.trans s2) _ _ hs), rl⟩
  · subst h
    rename_i a vs ps hs rl
    exact ⟨_, _, rfl, fun G2 H2 s1 s2 => Ev.Same.seqT (s1.trans s2) hs, rl⟩
theorem sim_iZip {z : Z} {b1 b2 : Bool} {ta : TA} {m : PEnv → M (List PV)} (h : SimA z ta m) : SimI z (Ev.iZipB b1 b2 z.K ta) (mZip b1 b2 m) := by
  intro σ env G H n Qp Q ok fr er hm hq
  refine h.bind ok fr er hm fun xs px G1 H1 n1 ok1 fr1 er1 s1 r1 hm1 => ?_
  split at hm1
  · rename_i x y
    split at hm1
    · rename_i qs ws e1 e2
      match xs, r1 with
      | [v, w], .cons rx (.cons ry .nil) =>
        obtain ⟨a, vs, rfl, hs, rl⟩ := rep_seqB rx e1
        obtain ⟨b, us, rfl, hs2, rl2⟩ := rep_seqB ry e2
        refine ⟨a, b, vs, us, rfl, hs _ _ (Same.refl _) ok1.sub, hs2 _ _ (Same.refl _) ok1.sub, (hq.step s1).here (v := Ev.ItzB b1 b2 z.K a b) (q := zipP qs ws) ok1 (fun G2 H2 n2 i sg ok2 => ?_) hm1⟩
        have k1 := hs _ _ sg ok2.sub
        have k2 := hs2 _ _ sg ok2.sub
        refine ⟨fun hl => ⟨vs, us, k1, k2, ?_⟩, fun q hq2 => ?_⟩
        · rw [zipP_len] at hl
          rw [rl.len, rl2.len]
          omega
        · obtain ⟨p1, p2, g1, g2, rfl⟩ := zipP_get hq2
          obtain ⟨y1, f1, ry1⟩ := rl.get g1
          obtain ⟨y2, f2, ry2⟩ := rl2.get g2
          refine ⟨⟨vs, us, y1, y2, k1, k2, f1, f2⟩, fun u H3 hx => ?_⟩
          obtain ⟨T, u1, u2, rfl, hn, rfl, a1, a2⟩ := hx
          have b1 := a1 _ k1
          have b2 := a2 _ k2
          rw [f1] at b1
          rw [f2] at b2
          cases b1
          cases b2
          obtain ⟨ok3, s3⟩ := ok2.new (o := .tup [y1, y2]) hn
          exact ⟨_, ok3, s3, .tup (SqT.of upd_same) (.cons ((ry1.mono sg).mono s3.same) (.cons ((ry2.mono sg).mono s3.same) .nil))⟩
    · exact hm1.elim
  · exact hm1.elim
end Pu
namespace Ev
open PySem PySem.Spec PyProof.Rows L2
section
variable {prog : Program} {w : World} {A : Around} {E : Value → Shared → Prop} {s : Shared}
theorem draws_si {b : Bool} {it l : Addr} {items : Array Value} (hh : A.handled = none) (hne : l ≠ it) : Draws prog w A it [it, l] items.size (fun i x => items[i]? = some x) (fun i h => SI b h it l i ∧ SS b h l items) where
  live := fun i h st => let ⟨o, ho, _⟩ := st.1.obj; ⟨o, ho⟩
  frame := fun i h h' st k => ⟨st.1.to fun o q => k it (by simp) o q, st.2.to fun o q => k l (by simp) o q⟩
  item := fun i s Q E hi st hQ => by
    refine si_item st.1 st.2 (x := items[i]) (by simp [hi]) fun h' n sb => ?_
    exact hQ _ h' s.toks (by simp [hi]) ⟨n, st.2.to fun o q => (sb.2 l hne).trans q⟩ sb
  done := fun s Q E st hE => si_end hh st.1 st.2 (by simp) hE
theorem en_new (b : Bool) (l : Addr) (xs : Array Value) :
    Meets (Builtin.«enumerate.__new__» ⟨[.type "enumerate", .ref l], []⟩) (fun _ R s => SS b s.heap l xs ∧
      R (.ok (.ret (.ref (s.heap.push (itO b l)).objs.size)))
        { s with heap := (s.heap.push (itO b l)).push { cls := .type "enumerate", data := .fields #[.none, .bool false, .ref s.heap.objs.size, rawInt 0, .none, .none] } }) :=
  .of_wp fun prog w A R s h => by
    obtain ⟨hp, g, d, tk, os⟩ := s
    obtain ⟨hl, h⟩ := h
    have hsub := sub_enumerate
    cases b
    · have y1 : Heap.IsTuple (Shared.heap ⟨hp, g, d, tk, os⟩) l xs := hl
      wp_walk
      refine wpAny_stack_any fun st => wpAny_pure ?_
      split
      · rename_i c _ _ _ _ _
        cases (c == Value.type "enumerate")
        · wp_walk using wpAny_pyIter_tuple y1
          exact ⟨_, rfl, h⟩
        · wp_walk using wpAny_pyIter_tuple y1
          exact ⟨_, rfl, h⟩
      · wp_walk using wpAny_pyIter_tuple y1
        exact ⟨_, rfl, h⟩
    · have y1 : Heap.IsList (Shared.heap ⟨hp, g, d, tk, os⟩) l xs := hl
      wp_walk
      refine wpAny_stack_any fun st => wpAny_pure ?_
      split
      · rename_i c _ _ _ _ _
        cases (c == Value.type "enumerate")
        · wp_walk using wpAny_pyIter_list y1
          exact ⟨_, rfl, h⟩
        · wp_walk using wpAny_pyIter_list y1
          exact ⟨_, rfl, h⟩
      · wp_walk using wpAny_pyIter_list y1
        exact ⟨_, rfl, h⟩
theorem call_en {b : Bool} {l : Addr} {items : Array Value} {Q : Value → Shared → Prop} (hL : SS b s.heap l items)
    (h : ∀ h', IsEnum h' (s.heap.objs.size + 1) s.heap.objs.size 0 .none → SI b h' s.heap.objs.size l 0 → SS b h' l items → l ≠ s.heap.objs.size →
      (∀ c o, s.heap.get? c = some o → h'.get? c = some o) → Q (.ref (s.heap.objs.size + 1)) { s with heap := h' }) :
    wpAny (model prog w) A (call (.type "enumerate") [.ref l]) Q E s := by
  refine callType_new F.called_enumerate (by decide) (F.typeCall_enumerate_1 _) (F.newCall_enumerate_1 _) (fun obj => F.args_object_init_2 obj _) F.entry_enumerate_new
    (en_new b l items) ⟨hL, ?_⟩
  have hz : (s.heap.push (itO b l)).objs.size = s.heap.objs.size + 1 := Heap.size_push ..
  show _ ∧ _
  rw [hz]
  have he : IsEnum ((s.heap.push (itO b l)).push
      { cls := .type "enumerate", data := .fields #[.none, .bool false, .ref s.heap.objs.size, rawInt 0, .none, .none] }) (s.heap.objs.size + 1) s.heap.objs.size 0 .none := by
    have := Heap.get?_push_size (s.heap.push (itO b l))
      (o := { cls := .type "enumerate", data := .fields #[.none, .bool false, .ref s.heap.objs.size, rawInt 0, .none, .none] }) rfl
    rw [hz] at this; exact this
  have kp : ∀ c o, s.heap.get? c = some o → ((s.heap.push (itO b l)).push { cls := .type "enumerate", data := .fields #[.none, .bool false, .ref s.heap.objs.size, rawInt 0, .none, .none] }).get? c = some o := fun c o x => Heap.get?_push_of_some _ (Heap.get?_push_of_some _ x)
  exact ⟨⟨_, he, rfl⟩, h _ he (itO_is (Heap.get?_push_of_some _ (Heap.get?_push_size _ (by cases b <;> rfl)))) (hL.to fun o q => kp l o q) (Nat.ne_of_lt hL.lt) kp⟩
end
def IteB (b : Bool) (K : PySem.W.Frag) (a : Addr) : It :=
  ⟨fun i H => ∃ (xs : List V) (x : V), SqB b K H a xs ∧ xs[i]? = some x, fun i H v H' => ∃ T x, v = .ref T ∧ H T = none ∧ H' = upd H T (.tup [.int (i : Nat), x]) ∧ ∀ xs, SqB b K H a xs → xs[i]? = some x, fun i H => ∃ xs : List V, SqB b K H a xs ∧ xs.length ≤ i⟩
theorem turn_enB {P : Program} {w : World} {K : PySem.W.Frag} {elts : List Expr} {kk : Nat} {tpos : Pos} {b : Bool} (a e it : Addr) :
    Turn P w K (.Tuple elts kk tpos) (IteB b K a) [e, it] e (fun i h => (∃ old, IsEnum h e it ((i : Nat) : Int) old) ∧ SI b h it a i ∧ e ≠ it ∧ a ≠ it ∧ a ≠ e) where
  mem := by simp
  obj := fun i h st c hb => by
    obtain ⟨⟨old, he⟩, hi, _⟩ := st
    obtain ⟨o, ho, hd⟩ := hi.obj
    have e' : c = e ∨ c = it := by simpa using hb
    rcases e' with z | z
    · rw [z]; exact ⟨_, he, fun v q => nomatch q⟩
    · rw [z]; exact ⟨o, ho, fun v q => by rw [hd] at q; cases q⟩
  keep := fun i h h' st k => let ⟨⟨old, he⟩, hi, hne⟩ := st; ⟨⟨old, k e (by simp) _ he⟩, hi.to fun o q => k it (by simp) o q, hne⟩
  item := by
    intro X hP hw hK hc i pins s σ H E I hf st hg
    subst hP hw hK
    obtain ⟨⟨old, he⟩, hit, hne, hai, hae⟩ := st
    obtain ⟨xs, x, hq, hx⟩ := hg
    obtain ⟨its, rv, p⟩ := sqb_ss I hq
    obtain ⟨u, hu, ru⟩ := rv.get hx
    have hel : e < s.heap.objs.size := Heap.lt_size he
    have hil : it < s.heap.objs.size := by obtain ⟨_, q, _⟩ := hit.obj; exact Heap.lt_size q
    have hlt : i < its.toArray.size := by
      have := (List.getElem?_eq_some_iff.mp hu).1
      simpa using this
    refine wpAny_pyNext_enum_itemD (draws_si (I.ok.hd hc) hai) he ⟨hit, p⟩ hlt hne (by simp only [List.mem_cons, List.not_mem_nil, or_false, not_or]; exact ⟨hne, Ne.symm hae⟩) fun y h' tk hy ho hit' hT hsz hk => ?_
    have hyu : y = u := by
      have q : its[i]? = some y := by simpa using hy
      rw [hu] at q
      exact (Option.some.inj q).symm
    subst hyu
    refine ⟨_, rfl, wpAny_letOwnedTupleGo_enum (s := { s with heap := h', toks := tk + 1 }) ho fun h'' he' sb => ?_⟩
    have hT2 : h''.get? s.heap.objs.size = some { cls := .type "tuple", data := .seq #[.int i tk, y] } := (sb.2 _ (Nat.ne_of_gt hel)).trans hT
    have new : ObjOk X.prog X.w (upd H s.heap.objs.size (.tup [.int (i : Nat), x])) h'' s.heap.objs.size (.tup [.int (i : Nat), x]) :=
      ⟨by show 2 ≤ sizeLine; decide, [.int i tk, y], .cons ⟨_, rfl⟩ (.cons ru .nil), ⟨_, hT2, rfl, _, rfl⟩⟩
    have I1 : Inv X pins σ (upd H s.heap.objs.size (.tup [.int (i : Nat), x])) { s with heap := h'', toks := tk + 1 } :=
      I.turnedNew (ch := [e, it]) (fun c o hb q => (sb.2 c (fun z => hb (by simp [z]))).trans (hk c o (fun z => hb (by simp [z])) (fun z => hb (by simp [z])) q)) hf (Nat.le_refl _) new
    refine ⟨.ref s.heap.objs.size, _, I1, rfl, ⟨_, x, rfl, I.hok.fresh (Nat.le_refl _), rfl, fun ys hy => by rw [sqb_inj I hy hq]; exact hx⟩, ⟨⟨y, ?_⟩, hit'.1.to fun o q => (sb.2 it (Ne.symm hne)).trans q, hne, hai, hae⟩, fun c hb => ?_⟩
    · have e1 : ((i + 1 : Nat) : Int) = (i : Int) + 1 := by omega
      rw [e1]; exact he'
    · have hb' : c < s.heap.objs.size := by
        have e' : c = e ∨ c = it := by simpa using hb
        rcases e' with z | z
        · rw [z]; exact hel
        · rw [z]; exact hil
      rw [upd_ne (Nat.ne_of_lt hb')]
      exact (hf c hb).1
  done := by
    intro X hP hw hK hc i pins s σ H E I hf st hg
    subst hP hw hK
    obtain ⟨⟨old, he⟩, hit, hne, hai, hae⟩ := st
    obtain ⟨xs, hq, hx⟩ := hg
    obtain ⟨its, rv, p⟩ := sqb_ss I hq
    obtain ⟨f0, f1, f2, f3, f4, f5⟩ := hf it (by simp)
    have hl := rv.length
    have hT : s.TypeIs (.ref e) "enumerate" := ⟨_, he, rfl⟩
    unfold pyNext
    refine wpAny_bind (wpAny_attempt (wpAny_callSpecial?_slot (name := Str.ofString "__next__") hT F.slot_enumerate_next
      (wpAny_call_entry F.slot_enumerate_next hT F.entry_enumerate_next ?_ (F.args_enumerate_next_1 _))))
    show wpAny _ _ (field (.ref e) 2 >>= _) _ _ _
    refine wpAny_bind (wpAny_field he rfl (x := .ref it) rfl ?_)
    refine wpAny_bind (si_end (I.ok.hd hc) hit p (by simp; omega) fun h' x he' hx' => ?_)
    obtain ⟨o, ho, hc'⟩ := hx'
    refine wpAny_bind (wpAny_isInstance (T := "StopIteration") (b := true) ⟨o, ho, hc'⟩ isSubtype_stop ?_)
    exact wpAny_pure ⟨rfl, I.turned (t' := s.toks) (fun c o hb q => he' c o hb q) f0 f1 f3 f4 f5⟩
  self := fun A i s Q E st h => let ⟨⟨_, he⟩, _⟩ := st; wpAny_pyIter_enum he h
def iEnumB (b : Bool) (K : PySem.W.Frag) (ta : TA) : TI := fun σ H R => ta σ H fun vs H1 => ∃ a xs, vs = [.ref a] ∧ SqB b K H1 a xs ∧ R (IteB b K a) H1
theorem pi_enumB (b : Bool) {X : Cx} {e : Expr} {ta : TA} {p pos tpos : Pos} {elts : List Expr} {kk : Nat} (hg : Gl X "enumerate") (hm : X.mg "enumerate" = none) (ha : PA X [e] ta) (hs : starEach [e] X.env = [(false, eval e X.env)] := by rfl) :
    PI X (.Tuple elts kk tpos) (.Call (.Name "enumerate" p) [e] [] pos) (iEnumB b X.K ta) := by
  refine ⟨fun pins s σ H R I h => ?_⟩
  refine Call_ (ld_blt I hg hm PyProof.Rows.boot_enumerate (PyProof.Rows.callWith_type1 (thn (ha.run pos pins s σ H _ I h) fun us s1 ⟨vs, H1, I1, r1, q1⟩ => ?_) hs rfl))
  obtain ⟨a, xs, ex, hq, q⟩ := q1
  subst ex
  cases r1 with
  | cons r rr =>
    cases rr
    cases r
    obtain ⟨its, rv, p'⟩ := sqb_ss I1 hq
    refine call_en p' fun h' he hit hss hai hk => wpAny_pyIter_enum he ?_
    have I2 : Inv X pins σ H1 { s1 with heap := h' } := I1.kept (t' := s1.toks) hk
    refine ⟨s1.heap.objs.size + 1, [s1.heap.objs.size + 1, s1.heap.objs.size], _, _, H1, rfl, I2, turn_enB a (s1.heap.objs.size + 1) s1.heap.objs.size, ⟨⟨.none, he⟩, hit, Nat.succ_ne_self _, hai, Nat.ne_of_lt (Nat.lt_succ_of_lt p'.lt)⟩, fun c hb => ?_, q⟩
    have e' : c = s1.heap.objs.size + 1 ∨ c = s1.heap.objs.size := by simpa using hb
    have hle : s1.heap.objs.size ≤ c := by
      rcases e' with z | z
      · rw [z]; exact Nat.le_add_right _ _
      · rw [z]; exact Nat.le_refl _
    exact I1.fpOk hle (I1.hok.fresh hle)
end Ev
namespace Pu
open PySem L2
def enP : Nat → List PV → List PV
  | _, [] => []
  | k, x :: xs => .tup [.int k, x] :: enP (k + 1) xs
theorem enP_len : ∀ {k : Nat} {xs : List PV}, (enP k xs).length = xs.length
  | _, [] => rfl
  | k, _ :: xs => by rw [enP, List.length_cons, List.length_cons, enP_len]
theorem enP_get : ∀ {k : Nat} {xs : List PV} {i : Nat} {q : PV}, (enP k xs)[i]? = some q → ∃ x, xs[i]? = some x ∧ q = .tup [.int ((k + i : Nat) : Int), x]
  | _, [], _, _, h => by simp [enP] at h
  | k, x :: xs, 0, q, h => by
    simp [enP] at h
    exact ⟨x, rfl, h.symm⟩
  | k, x :: xs, i + 1, q, h => by
    simp only [enP, List.getElem?_cons_succ] at h ⊢
    obtain ⟨y, hy, e⟩ := enP_get h
    exact ⟨y, hy, by rw [e, show k + 1 + i = k + (i + 1) by omega]⟩
def mEnum (b : Bool) (r : PEnv → M (List PV)) : PEnv → M (List PV) := fun env W n Q => r env W n fun vs n1 => match vs with
  | [x] => match seqB b x with
    | some xs => Q (enP 0 xs) n1
    | _ => False
  | _ => False
theorem sim_iEnum {z : Z} {b : Bool} {ta : TA} {m : PEnv → M (List PV)} (h : SimA z ta m) : SimI z (Ev.iEnumB b z.K ta) (mEnum b m) := by
  intro σ env G H n Qp Q ok fr er hm hq
  refine h.bind ok fr er hm fun xs px G1 H1 n1 ok1 fr1 er1 s1 r1 hm1 => ?_
  split at hm1
  · rename_i x
    split at hm1
    · rename_i qs e1
      match xs, r1 with
      | [v], .cons rx .nil =>
        obtain ⟨a, vs, rfl, hs, rl⟩ := rep_seqB rx e1
        refine ⟨a, vs, rfl, hs _ _ (Same.refl _) ok1.sub, (hq.step s1).here (v := Ev.IteB b z.K a) (q := enP 0 qs) ok1 (fun G2 H2 n2 i sg ok2 => ?_) hm1⟩
        have k1 := hs _ _ sg ok2.sub
        refine ⟨fun hl => ⟨vs, k1, ?_⟩, fun q hq2 => ?_⟩
        · rw [enP_len] at hl
          rw [rl.len]
          exact hl
        · obtain ⟨p1, g1, rfl⟩ := enP_get hq2
          obtain ⟨y1, f1, ry1⟩ := rl.get g1
          refine ⟨⟨vs, y1, k1, f1⟩, fun u H3 hx => ?_⟩
          obtain ⟨T, u1, rfl, hn, rfl, a1⟩ := hx
          have b1 := a1 _ k1
          rw [f1] at b1
          cases b1
          obtain ⟨ok3, s3⟩ := ok2.new (o := .tup [.int ((i : Nat) : Int), y1]) hn
          rw [Nat.zero_add]
          exact ⟨_, ok3, s3, .tup (SqT.of upd_same) (.cons (.int _) (.cons ((ry1.mono sg).mono s3.same) .nil))⟩
    · exact hm1.elim
  · exact hm1.elim
def PV.items : PV → Option (List PV)
  | .lst xs => some xs
  | .tup xs => some xs
  | _ => none
def mStar (a : PEnv → M PV) (r : PEnv → M (List PV)) : PEnv → M (List PV) := fun env W n Q => a env W n fun x n1 => match x.items with
  | some xs => r env W n1 fun ys n2 => Q (xs ++ ys) n2
  | none => False
theorem sim_star {z : Z} {te : TE} {tr : TA} {ma : PEnv → M PV} {mr : PEnv → M (List PV)} (ha : SimE z te ma) (hr : SimA z tr mr) : SimA z (StX.tStar z.K te tr) (mStar ma mr) := by
  intro σ env G H n Qp Q ok fr er hm hq
  refine ha.bind ok fr er hm fun x px G1 H1 n1 ok1 fr1 er1 s1 r1 hm1 => ?_
  cases r1 <;> simp only [PV.items] at hm1 <;> try exact hm1.elim
  · rename_i a vs ps hs rl
    refine ⟨a, vs, rfl, .inr (SqL.of (ok1.sub _ _ hs)), ?_⟩
    refine hr.bind ok1 fr1 er1 hm1 fun y py G2 H2 n2 ok2 fr2 er2 s2 r2 hm2 => ?_
    exact ((hq.step s1).step s2).here ok2 ((rl.mono s2.same).append r2) hm2
  · rename_i a vs ps hs rl
    refine ⟨a, vs, rfl, .inl (Ev.Same.seqT ok1.sub hs), ?_⟩
    refine hr.bind ok1 fr1 er1 hm1 fun y py G2 H2 n2 ok2 fr2 er2 s2 r2 hm2 => ?_
    exact ((hq.step s1).step s2).here ok2 ((rl.mono s2.same).append r2) hm2
def pRepT : PV → PV → M PV := fun x y _ n Q => match x, y with
  | .tup xs, .int k => (xs ≠ [] ∧ 2 ≤ k ∧ k ≤ 1000 ∧ xs.length ≤ 1000) ∧ Q (.tup (List.replicate k.toNat xs).flatten) n
  | _, _ => False
theorem simR_repT {z : Z} : SimR z (rRepT z.K) pRepT := by
  intro σ env G H n Qp Q x y px py ok fr er rx ry hm hq
  cases rx <;> try exact hm.elim
  cases ry <;> try exact hm.elim
  rename_i a vs ps hs rl k
  obtain ⟨⟨h0, h1, h2, h3⟩, hm2⟩ := hm
  refine ⟨_, k, vs, rfl, rfl, Ev.Same.seqT ok.sub hs, fun e => h0 (by have := rl.len; rw [e] at this; exact List.eq_nil_of_length_eq_zero this.symm), h1, by omega, by rw [rl.len]; exact h3, fun p hp => ?_⟩
  obtain ⟨ok2, s2⟩ := ok.new (o := .tup (List.replicate k.toNat vs).flatten) hp
  exact (hq.step s2).here ok2 (.tup (SqT.of upd_same) ((rep_flat rl k.toNat).mono s2.same)) hm2
end Pu
namespace Ev
open PySem PySem.Spec PyProof.Rows L2
def veB : List Value := [.type "ValueError", .type "Exception", .type "BaseException", .type "object"]
structure XC0 (K : PySem.W.Frag) (mg : Str → Option Value) (x : Str) (C : Addr) : Prop where
  ox : OexC K C
  ei : PySem.W.excIn K C veB "ValueError.__new__" = true
  at_ : mg x = some (.ref C)
section
variable {X : Cx} {W : WX} {x : Str} {C : Addr} {p pos pos' : Pos}
theorem pmk_own0 (c : XC0 X.K X.mg x C) (hg : Gl X x) (hdb : (x == ("__debug__" : Str)) = false := by decide) :
    PMk X (.Call (.Name x p) [] [] pos) (fun _ H Q => Q (.ref C) none H) := by
  intro pins s σ H Q I h
  refine wpAny_Call_Name_kw (ld_glob I hg c.at_ ?_ hdb)
  refine PySem.W.callWith_K0 I.kIn c.ox.kC ?_
  show wpAny _ _ (call (.ref C) []) _ _ _
  obtain ⟨bm, N, nm, qn, bs, hdct, sn, sub, ab, col, dd, k0, k1, k2, k3, k5, mN, hC, hN, hni, T⟩ := exc_obj I.kIn c.ei
  obtain ⟨hp, g, d, t, os⟩ := s
  refine wpAny_call_exc_subT PySem.F.excBase_ValueError T hC hN hni (fun h' e hm => ?_) (by show 0 ≤ sizeLine; omega)
  exact mk_of I hm (raises_own c.ox.exC c.ox.tyC) h (I.hok.gone hm.new)
def tRai0 (C : Addr) (W : WX) : TS := fun _ σ H => W (.ref C) none σ H
theorem ps_rai0 (c : XC0 X.K X.mg x C) (hc : X.calm = true) (tk : Takes X W) (hg : Gl X x) (hdb : (x == ("__debug__" : Str)) = false := by decide) :
    PS X (.Raise (some (.Call (.Name x p) [] [] pos)) none pos') (tRai0 C W) :=
  ps_raise hc tk (pmk_own0 c hg hdb)
end
end Ev
namespace Pu
open PySem L2
def mRai0 (cn : Str) : MS := fun W _ env n => W env cn [] n
theorem sim_rai0 {z : Z} {cn : Str} {C : Addr} {E : XK} (hl : Link z E) (hc : z.cm.cx cn = some C) :
    SimS z (Ev.tRai0 C (fun cls d _ H => E cls d H)) (mRai0 cn) := by
  intro σ env G H n D Dp ok fr er hm ed
  exact hl σ env G H n cn [] C none ok fr er hc .none hm
end Pu
namespace Ev
open PySem PySem.Spec PyProof.Rows L2
section
variable {X : Cx}
def rSumT (K : PySem.W.Frag) : List V → Hp → VK → Prop := fun vs H Q => ∃ (a : Addr) (ns : List Int), vs = [V.ref a] ∧ SqT K H a (ns.map V.int) ∧ Q (.int ns.sum) H
theorem cr_sumT (hc : X.calm = true) {K : PySem.W.Frag} (hK : X.K = K := by rfl) : CallR X (.builtin "sum") (rSumT K) := by
  subst hK
  intro pins s σ H vs us Q I r h
  obtain ⟨a, ns, rfl, hs, q⟩ := h
  obtain ⟨its, rv, hl, _⟩ := I.tuple hs
  rw [Vals.ref1 r]
  obtain ⟨xs, e⟩ := rv.ints.allInts.items
  have hn : PySem.numsOf (intItems xs).toList = ns := by rw [← e]; exact rv.ints.numsOf
  rw [nums_intItems] at hn
  rw [e] at hl
  refine PySem.W.ktm_sumG (I.ok.hd hc) hl fun h' tk t' hk => ?_
  refine ⟨.int _, H, I.kept hk, ⟨_, rfl⟩, ?_⟩
  rw [preSum_eq, List.take_of_length_le (by simp), hn]
  exact q
end
end Ev
namespace Pu
open PySem L2
def pSumT : List PV → M PV := fun xs _ n Q => match xs with
  | [.tup ys] => match toInts ys with
    | some ns => Q (.int ns.sum) n
    | none => False
  | _ => False
theorem simC_sumT {z : Z} : SimC z (Ev.rSumT z.K) pSumT := by
  intro σ env G H n Qp Q xs ps ok fr er rl hm hq
  unfold pSumT at hm
  split at hm
  · cases rl with
    | cons r t =>
      cases t
      cases r with
      | tup hs rl =>
        split at hm
        · rename_i ns hn
          have e := ints_of rl hn
          subst e
          exact ⟨_, ns, rfl, Ev.Same.seqT ok.sub hs, hq.here ok (.int _) hm⟩
        · exact hm.elim
  · exact hm.elim
end Pu
namespace Pu
open PySem PySem.Spec PyProof.Rows L2
def sgns (s : Str) : List PV := s.cps.toList.map fun c => .str ⟨#[c]⟩
def mStrI (m : PEnv → M PV) : PEnv → M (List PV) := fun env W n Q => m env W n fun x n1 => match x with
  | .str s => Q (sgns s) n1
  | _ => False
theorem sgns_len {s : Str} : (sgns s).length = s.cps.size := by
  unfold sgns
  rw [List.length_map, Array.length_toList]
theorem sim_iStr {z : Z} {tl : TE} {m : PEnv → M PV} (h : SimE z tl m) : SimI z (iStr tl) (mStrI m) := by
  intro σ env G H n Qp Q ok fr er hm hq
  refine h.bind ok fr er hm fun x px G1 H1 n1 ok1 fr1 er1 s1 r1 hm1 => ?_
  cases r1 <;> try exact hm1.elim
  rename_i s
  refine ⟨s, rfl, (hq.step s1).here (v := Its s) (q := sgns s) ok1 (fun G2 H2 n2 i sg ok2 => ?_) hm1⟩
  refine ⟨fun hl => by rw [sgns_len] at hl; exact hl, fun q hq => ?_⟩
  have hl : i < s.cps.size := by
    have := (List.getElem?_eq_some_iff.mp hq).1
    rw [sgns_len] at this
    exact this
  refine ⟨hl, fun x H3 hx => ?_⟩
  obtain ⟨rfl, c, hc, rfl⟩ := hx
  unfold sgns at hq
  rw [List.getElem?_map, Array.getElem?_toList, hc] at hq
  cases hq
  exact ⟨G2, ok2, Step.refl _ _ _, .str _⟩
def pInSign (g : Bool → Bool) : PV → PV → M PV := fun x y _ n Q => match x, y with
  | .str s, .str z => match s.cps.toList with
    | [c] => Q (.bl (g (decide (c ∈ z.cps.toList)))) n
    | _ => False
  | _, _ => False
theorem one_of {s : Str} {c : Nat} (h : s.cps.toList = [c]) : s = ⟨#[c]⟩ := by
  obtain ⟨a⟩ := s
  cases a
  simp only at h
  subst h
  rfl
theorem simR_inSign {z : Z} : SimR z (fun x y H Q => ∃ (c : Nat) (z : Str), x = .str ⟨#[c]⟩ ∧ y = .str z ∧ Q (.bl (decide (c ∈ z.cps.toList))) H) (pInSign id) := by
  intro σ env G H n Qp Q x y px py ok fr er rx ry hm hq
  cases rx <;> try exact hm.elim
  cases ry <;> try exact hm.elim
  rename_i s t
  unfold pInSign at hm
  simp only at hm
  split at hm
  · rename_i c hc
    have := one_of hc
    subst this
    exact ⟨c, t, rfl, rfl, hq.here ok (.bl _) hm⟩
  · exact hm.elim
theorem simR_notInSign {z : Z} : SimR z (fun x y H Q => ∃ (c : Nat) (z : Str), x = .str ⟨#[c]⟩ ∧ y = .str z ∧ Q (.bl (!decide (c ∈ z.cps.toList))) H) (pInSign not) := by
  intro σ env G H n Qp Q x y px py ok fr er rx ry hm hq
  cases rx <;> try exact hm.elim
  cases ry <;> try exact hm.elim
  rename_i s t
  unfold pInSign at hm
  simp only at hm
  split at hm
  · rename_i c hc
    have := one_of hc
    subst this
    exact ⟨c, t, rfl, rfl, hq.here ok (.bl _) hm⟩
  · exact hm.elim
def PV.flt : PV → Option V
  | .non => some .non
  | .bl b => some (.bl b)
  | .int i => some (.int i)
  | .str s => some (.str s)
  | _ => none
def flts : List PV → Option (List V)
  | [] => some []
  | x :: xs => match x.flt, flts xs with
    | some v, some vs => some (v :: vs)
    | _, _ => none
theorem flt_of {z : Z} {G : Hp} {v w : V} {q : PV} (r : z.rep G v q) (h : q.flt = some w) : v = w ∧ flatV v = true := by
  cases r <;> simp [PV.flt] at h <;> subst h <;> exact ⟨rfl, rfl⟩
theorem flts_of {z : Z} {G : Hp} : ∀ {vs ws : List V} {qs : List PV}, z.repL G vs qs → flts qs = some ws → vs = ws ∧ vs.all flatV = true
  | _, _, _, .nil, h => by cases h; exact ⟨rfl, rfl⟩
  | _, _, _, .cons (q := q) (ps := ps) r t, h => by
    unfold flts at h
    split at h
    · rename_i v vs h1 h2
      cases h
      obtain ⟨e1, f1⟩ := flt_of r h1
      obtain ⟨e2, f2⟩ := flts_of t h2
      subst e1 e2
      refine ⟨rfl, ?_⟩
      rw [List.all_cons, f1, f2]
      rfl
    · cases h
def pIn (neg : Bool) : PV → PV → M PV := fun x y _ n Q => match x.flt, y.items with
  | some v, some ys => match flts ys with
    | some vs => Q (.bl (if neg then !inV v vs else inV v vs)) n
    | none => False
  | _, _ => False
theorem simR_in {z : Z} {neg : Bool} : SimR z (rIn z.K neg) (pIn neg) := by
  intro σ env G H n Qp Q x y px py ok fr er rx ry hm hq
  unfold pIn at hm
  split at hm
  · rename_i v ys h1 h2
    split at hm
    · rename_i vs h3
      obtain ⟨e1, f1⟩ := flt_of rx h1
      subst e1
      cases ry <;> simp [PV.items] at h2
      · subst h2
        rename_i a us qs hs rl
        obtain ⟨e2, f2⟩ := flts_of rl h3
        subst e2
        exact ⟨a, us, rfl, .inl (SqL.of (ok.sub _ _ hs)), f1, f2, hq.here ok (.bl _) hm⟩
      · subst h2
        rename_i a us qs hs rl
        obtain ⟨e2, f2⟩ := flts_of rl h3
        subst e2
        exact ⟨a, us, rfl, .inr (Ev.Same.seqT ok.sub hs), f1, f2, hq.here ok (.bl _) hm⟩
    · exact hm.elim
  · exact hm.elim
def strsP : List PV → Option (List Str)
  | [] => some []
  | .str s :: xs => (strsP xs).map (s :: ·)
  | _ => none
theorem strs_of {z : Z} {G : Hp} : ∀ {vs : List V} {ps : List PV} {ss : List Str}, z.repL G vs ps → strsP ps = some ss → vs = ss.map V.str
  | _, _, _, .nil, h => by cases h; rfl
  | _, _, _, .cons r t, h => by
    cases r <;> simp only [strsP] at h <;> try cases h
    obtain ⟨ss, h2, rfl⟩ := Option.map_eq_some_iff.mp h
    rw [strs_of t h2]
    rfl
theorem strs_rep {z : Z} {G : Hp} : ∀ ss : List Str, z.repL G (ss.map V.str) (ss.map PV.str)
  | [] => .nil
  | s :: ss => .cons (.str s) (strs_rep ss)
def pJoin : PV → PV → M PV := fun x y _ n Q => match x, y.items with
  | .str a, some ys => match strsP ys with
    | some ss => (ss.map (·.length)).sum + ss.length * a.length ≤ 16777216 ∧ Q (.str (Txt.join a ss)) n
    | none => False
  | _, _ => False
def pSplit : PV → PV → M PV := fun x y _ n Q => match x, y with
  | .str a, .str b => (b.length == 0) = false ∧ a.length ≤ 1000000 ∧ Q (.lst ((Txt.split a b).map PV.str)) n
  | _, _ => False
def mM1 (po : PV → PV → M PV) (a b : PEnv → M PV) : PEnv → M PV := fun env W n Q => a env W n fun x n1 => match x with
  | .str s => b env W n1 fun y n2 => po (.str s) y W n2 Q
  | _ => False
section
variable {z : Z} {to te : TE} {mo me : PEnv → M PV}
theorem sim_join (ho : SimE z to mo) (he : SimE z te me) : SimE z (tM1 (fun x xs H Q => ∃ a p, ∃ ys : List Str, x = .str a ∧ xs = [.ref p] ∧ (SqL z.K H p (ys.map V.str) ∨ SqT z.K H p (ys.map V.str)) ∧
      (ys.map (·.length)).sum + ys.length * a.length ≤ 16777216 ∧ Q (.str (Txt.join a ys)) H) to te) (mM1 pJoin mo me) := by
  intro σ env G H n Qp Q ok fr er hm hq
  refine ho.bind ok fr er hm fun x px G1 H1 n1 ok1 fr1 er1 s1 r1 hm1 => ?_
  cases r1 <;> try exact hm1.elim
  rename_i a
  refine ⟨⟨a, rfl⟩, ?_⟩
  refine he.bind ok1 fr1 er1 hm1 fun y py G2 H2 n2 ok2 fr2 er2 s2 r2 hm2 => ?_
  unfold pJoin at hm2
  split at hm2
  · rename_i b ys e1 e2
    cases e1
    split at hm2
    · rename_i ss hs
      have q2 := ((hq.step s1).step s2).here ok2 (v := .str (Txt.join a ss)) (q := .str (Txt.join a ss)) (.str _) hm2.2
      cases r2 <;> simp [PV.items] at e2
      · subst e2
        rename_i p us qs h1 rl
        have := strs_of rl hs
        subst this
        exact ⟨a, p, ss, rfl, rfl, .inl (SqL.of (ok2.sub _ _ h1)), hm2.1, q2⟩
      · subst e2
        rename_i p us qs h1 rl
        have := strs_of rl hs
        subst this
        exact ⟨a, p, ss, rfl, rfl, .inr (Ev.Same.seqT ok2.sub h1), hm2.1, q2⟩
    · exact hm2.elim
  · exact hm2.elim
theorem sim_split (ho : SimE z to mo) (he : SimE z te me) : SimE z (tM1 (fun x xs H Q => ∃ a b, x = .str a ∧ xs = [.str b] ∧ (b.length == 0) = false ∧ a.length + 2 ≤ sizeLine ∧ rNewStrs (Txt.split a b) H Q) to te) (mM1 pSplit mo me) := by
  intro σ env G H n Qp Q ok fr er hm hq
  refine ho.bind ok fr er hm fun x px G1 H1 n1 ok1 fr1 er1 s1 r1 hm1 => ?_
  cases r1 <;> try exact hm1.elim
  rename_i a
  refine ⟨⟨a, rfl⟩, ?_⟩
  refine he.bind ok1 fr1 er1 hm1 fun y py G2 H2 n2 ok2 fr2 er2 s2 r2 hm2 => ?_
  cases r2 <;> try exact hm2.elim
  rename_i b
  refine ⟨a, b, rfl, rfl, hm2.1, by rw [sizeLine_eq]; have := hm2.2.1; omega, fun p hp => ?_⟩
  obtain ⟨ok3, s3⟩ := ok2.new (o := .lst ((Txt.split a b).map V.str)) hp
  exact (((hq.step s1).step s2).step s3).here ok3 (.lst upd_same (strs_rep _)) hm2.2.2
end
def pIxU : PV → PV → M PV := fun x y W n Q => match x with
  | .str s => pIxS (.str s) y W n Q
  | x => pIxA x y W n Q
theorem simR_ixU {z : Z} : SimR z (rIx z.K) pIxU := by
  intro σ env G H n Qp Q x y px py ok fr er rx ry hm hq
  unfold pIxU at hm
  split at hm
  · exact .inr (.inr (simR_ixS σ env G H n Qp Q x y _ py ok fr er rx ry hm hq))
  · exact simR_ixA σ env G H n Qp Q x y _ py ok fr er rx ry hm hq
def pLenU : List PV → M PV := fun xs W n Q => match xs with
  | [.str s] => pLenS [.str s] W n Q
  | xs => pLen xs W n Q
theorem simC_lenU {z : Z} : SimC z (fun xs H Q => (∃ p ys, xs = [.ref p] ∧ (SqL z.K H p ys ∨ SqT z.K H p ys) ∧ Q (.int ys.length) H) ∨ (∃ s, xs = [.str s] ∧ s.length ≤ sizeLine ∧ Q (.int s.length) H)) pLenU := by
  intro σ env G H n Qp Q xs ps ok fr er rl hm hq
  unfold pLenU at hm
  split at hm
  · exact .inr (simC_lenS σ env G H n Qp Q xs _ ok fr er rl hm hq)
  · exact .inl (simC_len σ env G H n Qp Q xs _ ok fr er rl hm hq)
end Pu
namespace Ev
open PySem L2
theorem call_len_any {X : Cx} {K : PySem.W.Frag} (hK : X.K = K := by rfl) : CallR X (.builtin "len") (fun xs H Q => (∃ p ys, xs = [.ref p] ∧ (SqL K H p ys ∨ SqT K H p ys) ∧ Q (.int ys.length) H) ∨ (∃ s, xs = [.str s] ∧ s.length ≤ sizeLine ∧ Q (.int s.length) H)) := hK ▸ CallR.or call_len_seq call_len_str
end Ev
namespace Ev
open PySem PySem.Spec PyProof.Rows L2
section
variable (P : Program) (w : World) (K : PySem.W.Frag) (mg : Str → Option Value) (base : Heap)
structure GSC (k : Nat) (x : Str) (C : Addr) (m : Str) (sp : Sp) (n : Nat) (ks : List Str) (gV : List V → List V → List V) : Prop where
  ex : ∃ (p f : Addr) (fd : FuncData) (ps : List Str) (mc : Value) (g : List Value → List Value → List Value), mg x = some (.ref C) ∧ ClX.CRead K C mc ∧ PySem.W.findCls K (.ref C) mc m = some (.get (.builtin "staticmethod.__get__") (.ref p) .none (.ref C)) ∧
    (∃ rest, PySem.W.recIn K p "staticmethod" = some (.ref f :: rest)) ∧ PySem.W.keepIn K (.ref f) = true ∧ GOk P w K mg base (L2.CX P w) k f fd ps sp ∧ KBn K fd ps n ks g gV
end
section
variable {X : Cx} {k j n : Nat} {C : Addr} {x m : Str} {sp : Sp} {E : XK} {p pos apos : Pos} {e : Expr} {es : List Expr} {t tk : TA} {kws : List Keyword} {ks : List Str} {gV : List V → List V → List V}
theorem pe_scE {pl : Sem Bool} (c : GSC X.prog X.w X.K X.mg X.base k x C m sp n [] gV) (hgd : X.A.guards = some []) (hr : Room j X.A) (hk : k ≤ j) (hx : Passes (L2.CX X.prog X.w) X E) (hg : Gl X x) (ha : PA X (e :: es) t)
    (hdb : (x == ("__debug__" : Str)) = false := by decide)
    (hst : starEach (e :: es) X.env = (false, eval e X.env) :: starEach es X.env := by rfl) (hpl : (backTo pos (starEach es X.env)).any (·.1) = false := by rfl)
    (ht : eval (.Call (.Attribute (.Name x p) m apos) (e :: es) [] pos) X.env = (do
      let ov ← eval (.Name x p) X.env
      standAt apos.atName
      let (f, first) ← holding [ov] (getMethod ov m pl)
      callWith pos f first (backTo pos (starEach (e :: es) X.env)) (backToKw pos (keywordEach [] X.env))) := by rfl) :
    PE X (.Call (.Attribute (.Name x p) m apos) (e :: es) [] pos) (tGK n 0 sp gV E t tNil) := by
  obtain ⟨p', f, fd, ps, mc, g, hm, rd, at_, ⟨rest, hrc⟩, hkp, F, b⟩ := c.ex
  refine ⟨fun pins s σ H Q I h => PySem.W.methodCall_KW (pl := pl) (ld_glob I hg hm ?_ hdb) ht⟩
  refine PySem.W.method_cls I.kIn rd.ga (PySem.W.cls_bind I.kIn rd.rd at_ (wpAny_call (PySem.W.sm_get (s := { s with toks := s.toks + 1 }) I.kIn hrc (PySem.W.handed_on rfl ?_))))
  exact PySem.W.callWith_K (first := []) (h₀ := X.base) I.ok.mod.kin hkp (thn (ha.run pos pins _ σ H _ (I.tok _) h) fun us s2 ⟨vs, H2, I2, r, l1, l2, q2⟩ =>
    ⟨I2.kIn, run_gk (ks := []) (ws := []) (zs := []) F hgd (hr.mono hk) b hx I2 r .nil l1 rfl q2⟩) hst hpl
theorem pe_scK0E {pl : Sem Bool} (c : GSC X.prog X.w X.K X.mg X.base k x C m sp 0 ks gV) (hgd : X.A.guards = some []) (hr : Room j X.A) (hk : k ≤ j) (hx : Passes (L2.CX X.prog X.w) X E) (hg : Gl X x)
    (hkw : PK X kws tk) (hall : (backToKw pos (keywordEach kws X.env)).all (·.1.isSome) = true := by rfl) (hks : (backToKw pos (keywordEach kws X.env)).filterMap (·.1) = ks := by rfl)
    (hdb : (x == ("__debug__" : Str)) = false := by decide)
    (hpl : ((backTo pos (starEach [] X.env)).any (·.1) || (backToKw pos (keywordEach kws X.env)).any (·.1.isNone)) = false := by rfl)
    (ht : eval (.Call (.Attribute (.Name x p) m apos) [] kws pos) X.env = (do
      let ov ← eval (.Name x p) X.env
      standAt apos.atName
      let (f, first) ← holding [ov] (getMethod ov m pl)
      callWith pos f first (backTo pos (starEach [] X.env)) (backToKw pos (keywordEach kws X.env))) := by rfl) :
    PE X (.Call (.Attribute (.Name x p) m apos) [] kws pos) (tGK 0 ks.length sp gV E tNil tk) := by
  obtain ⟨p', f, fd, ps, mc, g, hm, rd, at_, ⟨rest, hrc⟩, hkp, F, b⟩ := c.ex
  refine ⟨fun pins s σ H Q I h => PySem.W.methodCall_KW (pl := pl) (ld_glob I hg hm ?_ hdb) ht⟩
  refine PySem.W.method_cls I.kIn rd.ga (PySem.W.cls_bind I.kIn rd.rd at_ (wpAny_call (PySem.W.sm_get (s := { s with toks := s.toks + 1 }) I.kIn hrc (PySem.W.handed_on rfl ?_))))
  refine PySem.W.callWith_KW0 (first := []) (h₀ := X.base) I.ok.mod.kin hkp hall ?_ hpl
  refine thn (hkw.run pos pins _ σ H _ (I.tok _) h) fun ws s3 ⟨zs, H3, I3, rz, l1, l2, q3⟩ => ⟨I3.kIn, ?_⟩
  rw [hks]
  exact run_gk (us := []) (vs := []) F hgd (hr.mono hk) b hx I3 .nil rz rfl l2 q3
end
end Ev
namespace Pu
open PySem PySem.Spec PyProof.Rows L2
def mDctP (mp : PEnv → M (List (Key × PV))) : PEnv → M PV := fun env W n Q => mp env W n fun xs n1 => xs.length ≤ 15 ∧ Q (.dct (mergeP [] xs)) n1
def mPair1 (mk mv : PEnv → M PV) : PEnv → M (List (Key × PV)) := fun env W n Q => mk env W n fun kx n1 => mv env W n1 fun x n2 => match kx with
  | .str s => Q [(.inr s, x)] n2
  | .int i => Q [(.inl i, x)] n2
  | _ => False
def mParOwn2 (i j : Nat) (ma : PEnv → M PV) (mb : PEnv → M (List PV)) : MS := fun W D env n => ma env (W env) n fun x n1 => mb env (W env) n1 fun ys n2 => ys.length ≤ 1000000 ∧ D.nx ((env.set i (.val x)).set j (.own ys)) n2
section
variable {z : Z}
theorem sim_pair1 {tk tv : TE} {mk mv : PEnv → M PV} (hk : SimE z tk mk) (hv : SimE z tv mv) : Sim z (PrR z) (tPairs [(tk, tv)]) (mPair1 mk mv) := by
  intro σ env G H n Qp Q ok fr er hm hq
  show tk σ H fun x H1 => tv σ H1 fun y H2 => Q [(x, y)] H2
  refine hk.bind ok fr er hm fun x px G1 H1 n1 ok1 fr1 er1 s1 r1 hm1 => ?_
  refine hv.bind ok1 fr1 er1 hm1 fun y py G2 H2 n2 ok2 fr2 er2 s2 r2 hm2 => ?_
  cases r1 <;> try exact hm2.elim
  · rename_i i
    exact ((hq.step s1).step s2).here ok2 ⟨[(.inl i, y)], rfl, .cons r2 .nil⟩ hm2
  · rename_i s
    exact ((hq.step s1).step s2).here ok2 ⟨[(.inr s, y)], rfl, .cons r2 .nil⟩ hm2
theorem sim_dispP {trs : List (TE × TE)} {mp : PEnv → M (List (Key × PV))} (h : Sim z (PrR z) (tPairs trs) mp) : SimE z (tDisp trs) (mDctP mp) := by
  intro σ env G H n Qp Q ok fr er hm hq p hp
  obtain ⟨ok2, s2⟩ := ok.newO (o := .dK []) hp
  have np := Ev.Pen.ne ok.pen hp
  have nc := Ev.Pen.neC ok.pen hp
  refine h.bind ok2 (fr.stepP s2) (er.step s2) hm fun ps qs G1 H1 n1 ok1 fr1 er1 s1 r1 hm1 => ?_
  obtain ⟨kvs, rfl, r1⟩ := r1
  have hh : H1 p = some (.dK []) := s1.keep p _ upd_same np nt_dK
  have g1 : G1 p = none := by
    cases e : G1 p with
    | none => rfl
    | some o =>
      have := s1.new p o e ⟨_, upd_same, nt_dK⟩
      rw [ok.free hp] at this
      cases this
  refine ⟨hh, kvs, rfl, by rw [r1.len]; exact hm1.1, ?_⟩
  have mine : Mine z G1 p := ⟨g1, np, nc, .inl (fr.h0 hp)⟩
  have ok3 := Ok.set (z := z) (o := .dK (mergeK [] kvs)) ok1 mine hh
  have sg : Same G1 (upd G1 p (.dK (mergeK [] kvs))) := fun b o e => Ev.get_new e g1
  have ok4 : Ok z.cm z.p z.c (upd G1 p (.dK (mergeK [] kvs))) (upd H1 p (.dK (mergeK [] kvs))) n1 := ⟨fun b o e => by
    by_cases q : b = p
    · subst q
      rw [upd_same] at e ⊢
      exact e
    · rw [upd_ne q] at e ⊢
      exact ok1.sub _ _ e, ok3.pen, (upd_ne np.symm).trans ok1.gp, (upd_ne nc.symm).trans ok1.gc, ok3.tb, gt_upd ok1.gt nt_dK⟩
  have sa := s2.trans s1 fun _ q => q
  refine hq (.ref p) (.dct (mergeP [] qs)) _ _ n1 ok4 ⟨sa.same.trans sg, fun b o e nb nt => ?_, fun b o e nb => ?_, fun b hb => ?_⟩ (.dct upd_same ((RepK.merge (r1.mono sg) .nil))) hm1.2
  · refine Ev.get_ne (fun q => ?_) (sa.keep b o e nb nt)
    rw [q, hp] at e
    cases e
  · by_cases q : b = p
    · subst q
      exact (nb.no hp).elim
    · rw [upd_ne q] at e
      exact sa.new b o e nb
  · exact (sa.al b hb).upd nt_dK
theorem sim_parOwn2 {i j : Nat} {ta : TE} {tb : TA} {ma : PEnv → M PV} {mb : PEnv → M (List PV)} (ha : SimE z ta ma) (hb : SimA z tb mb) :
    SimS z (tPar i j (tCons ta (tCons (tLst tb) tNil))) (mParOwn2 i j ma mb) := by
  intro σ env G H n D Dp ok fr er hm ed
  refine ha.bind ok fr er hm fun x px G1 H1 n1 ok1 fr1 er1 s1 r1 hm1 => ?_
  refine hb.bind ok1 fr1 er1 hm1 fun ys ps G2 H2 n2 ok2 fr2 er2 s2 r2 hm2 => ?_
  refine ⟨by rw [r2.len]; exact line_of hm2.1, fun q hq1 => ⟨_, _, rfl, ?_⟩⟩
  have er3 := er2.setV (i := i) (r1.mono s2.same)
  obtain ⟨ok3, s3⟩ := ok2.newO (o := .lst ys) hq1
  have mine := ok2.mine fr2 hq1
  refine ed.nx _ _ G2 _ n2 (s1.same.trans s2.same) ok3 (fr2.stepP s3) ?_ hm2.2
  refine (er3.step s3).set ⟨q, ys, rfl, upd_same, mine, fr2.h0 hq1, r2⟩ fun _ k s' b nj hj os' hb eb => ?_
  cases Option.some.inj eb
  obtain ⟨x, hx, rx⟩ := er3.at_ k s' hj
  rw [hx] at hb
  cases Option.some.inj hb
  cases s' with
  | no => cases os'
  | val _ => cases os'
  | own ps =>
    obtain ⟨b, vs, e, hb, _⟩ := rx
    cases e
    rw [hq1] at hb
    cases hb
  | obj c fs =>
    obtain ⟨b, C, dx, vs, e, _, hb, _⟩ := rx
    cases e
    rw [hq1] at hb
    cases hb
end
end Pu
namespace Ev
open PySem PySem.Spec PyProof.Rows L2
section
variable (P : Program) (w : World) (K : PySem.W.Frag) (mg : Str → Option Value) (base : Heap)
structure GCC (k : Nat) (x : Str) (C : Addr) (m : Str) (sp : Sp) (n : Nat) (ks : List Str) (gV : List V → List V → List V) : Prop where
  ex : ∃ (p f : Addr) (fd : FuncData) (ps : List Str) (mc : Value) (g : List Value → List Value → List Value), mg x = some (.ref C) ∧ ClX.CRead K C mc ∧ ClX.CMet K C mc m p f ∧ GOk P w K mg base (L2.CX P w) k f fd ps sp ∧ KBn K fd ps (n + 1) ks g gV
end
def tCC (C : Addr) (n l : Nat) (sp : Sp) (gV : List V → List V → List V) (E : XK) (t tk : TA) : TE := fun σ H Q => t σ H fun vs H1 => tk σ H1 fun zs H2 => vs.length = n ∧ zs.length = l ∧ sp (gV (.ref C :: vs) zs) H2 Q E
section
variable {X : Cx} {k j n : Nat} {C : Addr} {x m : Str} {sp : Sp} {E : XK} {p pos apos : Pos} {e : Expr} {es : List Expr} {t tk : TA} {kws : List Keyword} {ks : List Str} {gV : List V → List V → List V}
theorem run_cc {pins : List (Addr × Obj)} {σ : L2.St} {H : Hp} {s : Shared} {Q : VK} {us ws : List Value} {vs zs : List V} {q f : Addr} {fd : FuncData} {ps : List Str} {g : List Value → List Value → List Value} (F : GOk X.prog X.w X.K X.mg X.base (L2.CX X.prog X.w) k f fd ps sp) (hgd : X.A.guards = some []) (hr : Room k X.A)
    (hb : KBn X.K fd ps (n + 1) ks g gV) (hx : Passes (L2.CX X.prog X.w) X E) (I : Inv X ((q, PySem.W.methodObj (.ref f) (.ref C)) :: pins) σ H s) (r : Vals vs us) (rz : Vals zs ws) (l1 : vs.length = n) (l2 : zs.length = ks.length)
    (h : sp (gV (.ref C :: vs) zs) H Q E) : wpAny (model X.prog X.w) X.A (call (.ref q) us (ks.zip ws)) (EP X pins σ Q) X.xe s := by
  have r1 : Vals (.ref C :: vs) (Value.ref C :: us) := .cons rfl r
  have z : wpAny (model X.prog X.w) X.A (call (.ref q) us (ks.zip ws)) (EP X ((q, PySem.W.methodObj (.ref f) (.ref C)) :: pins) σ Q) X.xe s := by
    refine wpAny_call (PySem.W.method_call (ClX.pin_at I) (codeAny_mono (F.run X.A X.stack s H ⟨.ref C :: us, ks.zip ws⟩ _ _ Q E hgd hr I.env0 (hb.to s (.ref C :: us) ws I.kIn ((r1.length.symm).trans (by rw [List.length_cons, l1])) (rz.length.symm.trans l2)) (hb.rel r1 rz) h) fun res s' hq => ?_))
    match res, hq with
    | .error e, hq => exact hx _ σ H s e s' I hq
    | .ok (.ret u), hq => exact I.after hq
    | .ok .next, hq => exact hq.elim
    | .ok .brk, hq => exact hq.elim
    | .ok .cont, hq => exact hq.elim
  exact thn z fun _ _ y => ClX.unpinE y
theorem pe_ccE {pl : Sem Bool} (c : GCC X.prog X.w X.K X.mg X.base k x C m sp n [] gV) (hgd : X.A.guards = some []) (hr : Room j X.A) (hk : k ≤ j) (hx : Passes (L2.CX X.prog X.w) X E) (hg : Gl X x) (ha : PA X (e :: es) t)
    (hdb : (x == ("__debug__" : Str)) = false := by decide)
    (hst : starEach (e :: es) X.env = (false, eval e X.env) :: starEach es X.env := by rfl) (hpl : (backTo pos (starEach es X.env)).any (·.1) = false := by rfl)
    (ht : eval (.Call (.Attribute (.Name x p) m apos) (e :: es) [] pos) X.env = (do
      let ov ← eval (.Name x p) X.env
      standAt apos.atName
      let (f, first) ← holding [ov] (getMethod ov m pl)
      callWith pos f first (backTo pos (starEach (e :: es) X.env)) (backToKw pos (keywordEach [] X.env))) := by rfl) :
    PE X (.Call (.Attribute (.Name x p) m apos) (e :: es) [] pos) (tCC C n 0 sp gV E t tNil) := by
  obtain ⟨p', f, fd, ps, mc, g, hm, rd, cm, F, b⟩ := c.ex
  refine ⟨fun pins s σ H Q I h => PySem.W.methodCall_KW (pl := pl) (ld_glob I hg hm ?_ hdb) ht⟩
  refine ClX.getmethcm_ok I rd cm fun s2 I2 => ?_
  exact ClX.callwith_cm I2 (ClX.base_none I (Nat.le_refl _)) cm.fi (thn (ha.run pos _ s2 σ H _ I2 h) fun us s3 ⟨vs, H2, I3, r, l1, l2, q2⟩ => ⟨⟨ClX.pin_at I3, I3.kIn⟩,
    run_cc (ks := []) (ws := []) (zs := []) F hgd (hr.mono hk) b hx I3 r .nil l1 rfl q2⟩) hst hpl
theorem pe_ccK0E {pl : Sem Bool} (c : GCC X.prog X.w X.K X.mg X.base k x C m sp 0 ks gV) (hgd : X.A.guards = some []) (hr : Room j X.A) (hk : k ≤ j) (hx : Passes (L2.CX X.prog X.w) X E) (hg : Gl X x)
    (hkw : PK X kws tk) (hall : (backToKw pos (keywordEach kws X.env)).all (·.1.isSome) = true := by rfl) (hks : (backToKw pos (keywordEach kws X.env)).filterMap (·.1) = ks := by rfl)
    (hdb : (x == ("__debug__" : Str)) = false := by decide)
    (hpl : ((backTo pos (starEach [] X.env)).any (·.1) || (backToKw pos (keywordEach kws X.env)).any (·.1.isNone)) = false := by rfl)
    (ht : eval (.Call (.Attribute (.Name x p) m apos) [] kws pos) X.env = (do
      let ov ← eval (.Name x p) X.env
      standAt apos.atName
      let (f, first) ← holding [ov] (getMethod ov m pl)
      callWith pos f first (backTo pos (starEach [] X.env)) (backToKw pos (keywordEach kws X.env))) := by rfl) :
    PE X (.Call (.Attribute (.Name x p) m apos) [] kws pos) (tCC C 0 ks.length sp gV E tNil tk) := by
  obtain ⟨p', f, fd, ps, mc, g, hm, rd, cm, F, b⟩ := c.ex
  refine ⟨fun pins s σ H Q I h => PySem.W.methodCall_KW (pl := pl) (ld_glob I hg hm ?_ hdb) ht⟩
  refine ClX.getmethcm_ok I rd cm fun s2 I2 => ?_
  refine PySem.W.callWith_of hpl (PySem.W.keeps_M (q := s.heap.objs.size) (f := f) (self := .ref C) cm.fi) (PyProof.Rows.evalArgs_kw2_nil hall ?_)
  refine thn (hkw.run pos _ s2 σ H _ I2 h) fun ws s3 ⟨zs, H3, I3, rz, l1, l2, q3⟩ => ⟨⟨ClX.pin_at I3, I3.kIn⟩, ?_⟩
  rw [hks]
  exact run_cc (us := []) (vs := []) F hgd (hr.mono hk) b hx I3 .nil rz rfl l2 q3
def tMakeV (C : Addr) (n l : Nat) (sp : Sp) (gV : List V → List V → List V) (E : XK) (ta : TE) (t tk : TA) : TE := fun σ H Q => ta σ H fun x H1 => x = .ref C ∧ tMakeK C n l sp gV E t tk σ H1 Q
theorem pe_nvE {y : Str} {ta : TE} (c : GN X.prog X.w X.K X.mg X.base k x C sp n ks gV) (hgd : X.A.guards = some []) (hr : Room j X.A) (hk : k + 1 ≤ j) (hx : Passes (L2.CX X.prog X.w) X E) (ho : PE X (.Name y p) ta)
    (ha : PA X (e :: es) t) (hkw : PK X kws tk) (hall : (backToKw pos (keywordEach kws X.env)).all (·.1.isSome) = true := by rfl) (hks : (backToKw pos (keywordEach kws X.env)).filterMap (·.1) = ks := by rfl)
    (he : starEach (e :: es) X.env = (false, eval e X.env) :: starEach es X.env := by rfl)
    (hpl : ((backTo pos (starEach (e :: es) X.env)).any (·.1) || (backToKw pos (keywordEach kws X.env)).any (·.1.isNone)) = false := by rfl) :
    PE X (.Call (.Name y p) (e :: es) kws pos) (tMakeV C n ks.length sp gV E ta t tk) := by
  obtain ⟨_, _, _, _, M, F, hm, b⟩ := c.ex
  refine ⟨fun pins s σ H Q I h => wpAny_Call_Name_kw (thn (ho.run pins s σ H _ I h) fun u s0 ⟨v, H0, I0, rv, ev, q0⟩ => ?_)⟩
  subst ev
  obtain rfl : u = Value.ref C := rv
  refine PySem.W.callWith_KW (h₀ := X.base) I.ok.mod.kin M.kp hall (thn (ha.run pos pins s0 σ H0 _ I0 q0) fun us s1 ⟨vs, H1, I1, r, q⟩ => ?_) hpl he
  refine thn (hkw.run pos pins s1 σ H1 _ I1 q) fun ws s2 ⟨zs, H2, I2, rz, l1, l2, q2⟩ => ⟨I2.kIn, ?_⟩
  rw [hks]
  exact run_gnK M F hgd (hr.mono hk) b hx I2 r rz l1 l2 q2
end
end Ev
namespace Pu
open PySem PySem.Spec PyProof.Rows L2
def spC (K : PySem.W.Frag) (cm : Md) (C : Addr) (k : Nat) (m : List PV → M PV) : Sp := fun vs H Q E => ∃ us, vs = .ref C :: us ∧ spP K cm k m us H Q E
def mFnC (k : Nat) (b : Addr → MS) (args : List PV) : M PV := fun W n Q => ∀ a : Addr, mFnX k (b a) (.ext (.ref a) :: args) W n Q
theorem qfnC {CX : CXT} {P : Program} {w : World} {K : PySem.W.Frag} {mg : Str → Option Value} {base : Heap} {x qual c0 : Str} {st : Stmt} {f C : Addr} {fd : FuncData} {N ps : List Str} {k : Nat} {cm : Md} {b : Addr → MS} (hN : (c0 :: ps).length ≤ N.length)
    (F : Ev.Fn K x qual st f fd) (S : FnScope N (c0 :: ps) (C8.fnScope st))
    (hb : ∀ (cdv : Value) (A : Around) (outer : List Env) (s : Shared) (H : Hp) (E : XK), fd.code = cdv → (A.deeper (envOfC qual (C8.fnScope st) s.heap.objs.size f cdv)).guards = some [] → Room k (A.deeper (envOfC qual (C8.fnScope st) s.heap.objs.size f cdv)) →
      ∃ t, PSs (cxOf CX P w K mg base N qual (C8.fnScope st) f cdv A outer s H E) (C8.fnBody st) t ∧ ∀ z : Z, z.K = K → z.cm = cm → (∃ wp, z.W = fun _ => wp) → Link z E → SimS z t (b C)) :
    Ev.GOk P w K mg base CX (k + 1) f fd (c0 :: ps) (spC K cm C ps.length (mFnC N.length b)) :=
  (qfnX hN F S hb).imp fun vs H Q E ⟨us, e, p, c, G, n, args, Wp, Qp, hl, ok, rl, hm, hq, hx⟩ =>
    ⟨p, c, G, n, .ext (.ref C) :: args, Wp, Qp, by rw [e, List.length_cons, List.length_cons, hl], ok, e ▸ .cons (.ext _) rl, hm C, hq, hx⟩
def mRev (a : PEnv → M PV) : PEnv → M PV := fun env W n Q => a env W n fun x n1 => match x with
  | .lst xs => Q (.lst xs.reverse) n1
  | _ => False
def mMakeV (a : Addr) (i : Nat) (cn : Str) (n l k : Nat) (gP : List PV → List PV → List PV) (m : Str → List (Str × PV) → List PV → M (List (Str × PV))) (r s : PEnv → M (List PV)) : PEnv → M PV := fun env W n0 Q =>
  env[i]? = some (.val (.ext (.ref a))) ∧ mMake cn n l k gP m r s env W n0 Q
section
variable {z : Z}
theorem repL_rev {G : Hp} : ∀ {vs : List V} {ps : List PV}, z.repL G vs ps → ∀ {us : List V} {qs : List PV}, z.repL G us qs → z.repL G (vs.reverseAux us) (ps.reverseAux qs)
  | _, _, .nil, _, _, h => h
  | _, _, .cons r t, _, _, h => repL_rev t (.cons r h)
theorem sim_rev {te : TE} {m : PEnv → M PV} (h : SimE z te m) : SimE z (tRevL z.K te) (mRev m) := by
  intro σ env G H n Qp Q ok fr er hm hq
  refine h.bind ok fr er hm fun x px G1 H1 n1 ok1 fr1 er1 s1 r1 hm1 => ?_
  cases r1 <;> try exact hm1.elim
  rename_i a us qs hs rl
  refine ⟨a, us, rfl, SqL.of (ok1.sub _ _ hs), fun p hp => ?_⟩
  obtain ⟨ok2, s2⟩ := ok1.new (o := .lst us.reverse) hp
  exact ((hq.step s1).step s2).here ok2 (.lst upd_same ((repL_rev rl .nil).mono s2.same)) hm1
theorem sim_makeV {cn : Str} {C : Addr} {i n0 l k : Nat} {gP : List PV → List PV → List PV} {gV : List V → List V → List V} {m : Str → List (Str × PV) → List PV → M (List (Str × PV))} {E : XK} {ta tk : TA} {ma mk : PEnv → M (List PV)} (hl : Link z E) (hc : z.cm cn = some C)
    (hg : ∀ G x vs ps zs qs, ps.length = n0 → qs.length = l → z.repL G vs ps → z.repL G zs qs → ∃ us, gV (.ref x :: vs) zs = .ref x :: us ∧ z.repL G us (gP ps qs)) (ha : SimA z ta ma) (hk : SimA z tk mk) :
    SimE z (Ev.tMakeV C n0 l (spI z.K z.cm k m) gV E (tVar i) ta tk) (mMakeV C i cn n0 l k gP m ma mk) := by
  intro σ env G H n Qp Q ok fr er hm hq
  obtain ⟨he, hm⟩ := hm
  obtain ⟨x, hx, v, rfl, r⟩ := er.at_ i _ he
  cases r
  exact ⟨_, hx, rfl, sim_make hl hc hg ha hk σ env G H n Qp Q ok fr er hm hq⟩
theorem sim_cc {C : Addr} {n0 l k : Nat} {gP : List PV → List PV → List PV} {gV : List V → List V → List V} {m : List PV → M PV} {E : XK} {ta tk : TA} {ma mk : PEnv → M (List PV)} (hl : Link z E)
    (hg : ∀ G x vs ps zs qs, ps.length = n0 → qs.length = l → z.repL G vs ps → z.repL G zs qs → ∃ us, gV (.ref x :: vs) zs = .ref x :: us ∧ z.repL G us (gP ps qs)) (ha : SimA z ta ma) (hk : SimA z tk mk) :
    SimE z (Ev.tCC C n0 l (spC z.K z.cm C k m) gV E ta tk) (mCallK n0 l k gP m ma mk) := by
  intro σ env G H n Qp Q ok fr er hm hq
  refine ha.bind ok fr er hm fun vs ps G1 H1 n1 ok1 fr1 er1 s1 r1 hm1 => ?_
  refine hk.bind ok1 fr1 er1 hm1 fun zs qs G2 H2 n2 ok2 fr2 er2 s2 r2 hm2 => ?_
  obtain ⟨us, eu, rr⟩ := hg G2 C vs ps zs qs hm2.1 hm2.2.1 (r1.mono s2.same) r2
  refine ⟨r1.len.trans hm2.1, r2.len.trans hm2.2.1, us, eu, z.p, z.c, G2, n2, gP ps qs, z.W env, Qp, rr.len.trans hm2.2.2.1, ok2, rr, hm2.2.2.2, fun v q G' H' n' ok' st' r' hq' => ((hq.step s1).step s2) v q G' H' n' ok' st' r' hq', fun cn fs C d G' H' n' ok' st' hc rx hw => ?_⟩
  exact hl σ env G' H' n' cn fs C d ok' (fr2.stepP st') (er2.step st') hc rx hw
end
end Pu
namespace GQ
open PySem PySem.SeqAt
open AutoSeq1 (wpAny_loadPart')
open MeetsSeq MeetsSeq2 MeetsSeq3 SeqRoads2
section
variable {prog : Program} {w : World} {A : Around} {R : Result → Shared → Prop}
theorem ne_turn (l b : Addr) (N : Nat) (I : Nat → Shared → Prop)
    (rd : ListI prog w A (fun e u => R (.error e) u) l b N I)
    (last : ∀ t, I N t → R (.ok (.ret (.bool false))) t) (m : Nat) : ∀ j : Nat, N - j = m → j ≤ N → ∀ t, I j t →
      wpAny (model prog w) A.in1 (Builtin.«list.__eq__.loop» ⟨[.ref l, .ref b, rawInt j, rawInt 3], []⟩)
        (FinOf prog w A R) (fun e u => R (.error e) u) t := by
  induction m with
  | zero =>
    intro j hm hj t at_j
    obtain ⟨xs, ys, c1, c2, gl, gb, sx, sy, _⟩ := rd _ _ at_j
    have je : j = N := by omega
    have good : R (.ok (.ret (.bool false))) t := last t (je ▸ at_j)
    obtain ⟨h0, g0, d0, k0, o0⟩ := t
    wp_walk using wpAny_loadPart' gl, wpAny_loadPart' gb
    have nx : xs[((j : Nat) : Int).toNat]? = none := by simp; omega
    have ny : ys[((j : Nat) : Int).toNat]? = none := by simp; omega
    rw [nx, ny]
    wp_walk using wpAny_loadPart' gl, wpAny_loadPart' gb
    show R (.ok (.ret (.bool (xs.size != ys.size)))) _
    rw [sx, sy]
    simpa using good
  | succ m again =>
    intro j hm hj t at_j
    obtain ⟨xs, ys, c1, c2, gl, gb, sx, sy, pair⟩ := rd _ _ at_j
    have jx : j < xs.size := by omega
    have jy : j < ys.size := by omega
    have one := pair jx jy
    obtain ⟨h0, g0, d0, k0, o0⟩ := t
    wp_walk using wpAny_loadPart' gl, wpAny_loadPart' gb
    have vx : xs[((j : Nat) : Int).toNat]? = some xs[j] := by simp [jx]
    have vy : ys[((j : Nat) : Int).toNat]? = some ys[j] := by simp [jy]
    have up : ((j : Int) + 1) = ((j + 1 : Nat) : Int) := by omega
    rw [vx, vy]
    refine wpAny_bind (wpAny_mono one (fun r u hu => ?_) fun _ _ z => z)
    obtain ⟨er, hu⟩ := hu
    subst er
    have next := again (j + 1) (by omega) (by omega) u hu
    obtain ⟨h1, g1, d1, k1, o1⟩ := u
    wp_walk
    rw [up]
    exact ⟨plainId_quiet plain_eq_loop _, codeAny_builtin entry_eq_loop (by rw [Around.under_plainId plain_eq_loop _]; exact next)⟩
theorem list_neI (l b : Addr) (N : Nat) (I : Nat → Shared → Prop)
    (rd : ListI prog w A (fun e u => R (.error e) u) l b N I)
    (last : ∀ t, I N t → R (.ok (.ret (.bool false))) t) {t : Shared} (h : I 0 t) :
    wpAny (model prog w) A.in1 (Builtin.«list.__ne__» ⟨[.ref l, .ref b], []⟩)
      (FinOf prog w A R) (fun e u => R (.error e) u) t := by
  obtain ⟨xs, ys, c1, c2, gl, gb, sx, sy, _⟩ := rd _ _ h
  have first := ne_turn (A := A) (R := R) l b N I rd last _ 0 rfl (Nat.zero_le _) t h
  obtain ⟨h0, g0, d0, k0, o0⟩ := t
  have fl := AutoSeq1.sub_list_list
  have same : ¬ (xs.size != ys.size) = true := by simp [sx, sy]
  wp_walk using wpAny_loadPart' gl, wpAny_loadPart' gb
  exact ⟨plainId_quiet plain_eq_loop _, codeAny_builtin entry_eq_loop (by rw [Around.under_plainId plain_eq_loop _]; exact first)⟩
end
section
variable {prog : Program} {w : World} {A : Around} {E : Value → Shared → Prop} {s : Shared}
theorem rc_listN {l b : Addr} {N : Nat} {Q : Value → Shared → Prop} (hu : A.units < cLine) (I : Nat → Shared → Prop) (rd : ListI prog w A E l b N I)
    (last : ∀ t, I N t → Q (.bool false) t) (h : I 0 s) : wpAny (model prog w) A (richCompare .NotEq (.ref l) (.ref b)) Q E s := by
  obtain ⟨xs, ys, c1, c2, gl, gb, _, _, _⟩ := rd _ _ h
  refine wpAny_richCompare_same_room (op := .NotEq) ⟨_, gl, rfl⟩ ⟨_, gb, rfl⟩ F.slot_list_ne
    (call_here F.slot_list_ne ⟨_, gl, rfl⟩ F.entry_list_ne (F.args_list_ne_2 _ _) ?_) hu
  exact list_neI (R := wants (fun v u => v ≠ .notImplemented ∧ Q v u) E) l b N I rd
    (fun u q => ⟨(fun x => nomatch x), last u q⟩) h
end
end GQ
namespace Ev
open PySem PySem.Spec PyProof.Rows L2
section
variable {X : Cx} {k j : Nat} {E : XK}
def rNeLI (K : PySem.W.Frag) (D : Addr → Sp → Prop) (E : XK) : R2 := fun x y H Q => rEqLI K D E x y H fun v H' => v = .bl true → Q (.bl false) H'
theorem op_neLI {D : Addr → Sp → Prop} (c : ∀ C sp, D C sp → GM X.prog X.w X.K X.mg X.base k C "__eq__" sp []) (hgd : X.A.guards = some []) (hr : Room j X.A) (hk : k + 1 ≤ j) (hx : Passes (L2.CX X.prog X.w) X E) {K : PySem.W.Frag} (hK : X.K = K := by rfl) : OpR X (compareOp .NotEq) (rNeLI K D E) := by
  subst hK
  intro pins s σ H x y v u Q I rx ry h
  obtain ⟨a, b, xs, ys, J0, rfl, rfl, j0, hab, hl, pr, q⟩ := h
  cases rx
  cases ry
  have hr2 := hr.mono hk
  show wpAny (model X.prog X.w) X.A (richCompare .NotEq (.ref a) (.ref b)) (EP X pins σ Q) X.xe s
  refine GQ.rc_listN (N := xs.length) hr2.units0 (fun _ s' => ∃ H1, Inv X pins σ H1 s' ∧ J0 H1) (fun i s' z => ?_) (fun s' z => ?_) ⟨H, I, j0⟩
  · obtain ⟨H1, I1, e1⟩ := z
    obtain ⟨_, its, k1, r1, o1⟩ := I1.hok a _ (hab H1 e1).1
    obtain ⟨_, its2, k2, r2, o2⟩ := I1.hok b _ (hab H1 e1).2
    refine ⟨its.toArray, its2.toArray, k1, k2, o1, o2, by rw [List.size_toArray, ← r1.length], by rw [List.size_toArray, ← r2.length, ← hl], fun h1 h2 => ?_⟩
    have i1 : i < xs.length := by rw [r1.length]; simpa using h1
    have i2 : i < ys.length := by rw [r2.length]; simpa using h2
    obtain ⟨vx, ex, rvx⟩ := r1.get (List.getElem?_eq_getElem i1)
    obtain ⟨vy, ey, rvy⟩ := r2.get (List.getElem?_eq_getElem i2)
    have ex' : its.toArray[i] = vx := by
      have := List.getElem?_eq_some_iff.mp ex
      simpa using this.2
    have ey' : its2.toArray[i] = vy := by
      have := List.getElem?_eq_some_iff.mp ey
      simpa using this.2
    rw [ex', ey']
    obtain ⟨p, q', C, dx, fs, t, sp, hD, e3, e4, hp, ty, nf, hsp⟩ := pr i _ _ H1 e1 (List.getElem?_eq_getElem i1) (List.getElem?_eq_getElem i2)
    rw [e3] at rvx hsp
    rw [e4] at rvy hsp ty
    cases rvx
    cases rvy
    by_cases e : p = q'
    · subst e
      exact eqBool_self ⟨rfl, H1, I1, e1⟩
    · refine GQ.eqBool_refG e ?_
      obtain ⟨f, fd, ps, ds, cl, M, F, b, d⟩ := (c C sp hD).ex
      cases d
      obtain ⟨ox, od, J, _⟩ := inst_at I1 hp
      obtain ⟨mm, hF⟩ := I1.fr
      refine PySem.W.cmp_K (op := .Eq) (tb := t) hr2.in1.units0 hF I1.ok.mod.kin J (looks_ty (x := .ref q') I1 rfl ty) nf M.at_ M.fn ?_
      refine wpAny_mono (run_gA (vs := [.ref p, .ref q']) (us := [.ref p, .ref q']) (dvs := []) F hgd hr2.in1 rfl b .nil hx I1 (.cons rfl (.cons rfl .nil)) hsp) (fun w s2 hw => ?_) fun _ _ z => z
      obtain ⟨v', H', I', rv, ev, sm⟩ := hw
      subst ev
      cases rv
      exact ⟨true, rfl, rfl, H', I', sm⟩
  · obtain ⟨H1, I1, e1⟩ := z
    exact ⟨.bl false, H1, I1, rfl, q H1 e1 rfl⟩
end
end Ev
namespace Pu
open PySem PySem.Spec PyProof.Rows L2
def pNeLI (ms : List (Str × (List PV → M PV))) : PV → PV → M PV := fun x y _ n Q => match x, y with
  | .lst xs, .lst ys => pairsI ms xs ys ∧ Q (.bl false) n
  | _, _ => False
theorem simR_neLI {z : Z} {ms : List (Str × (List PV → M PV))} {D : Addr → Sp → Prop} {E : XK} (hD : ∀ c m C, ms.lookup c = some m → z.cm c = some C → D C (spP z.K z.cm 2 m)) (hn : ∀ c C m d D', ms.lookup c = some m → z.cm c = some C → z.cm d = some D' → Ev.CI z.K D' ∧ PySem.W.notFirst z.K C (.ref D') = true) :
    SimR z (Ev.rNeLI z.K D E) (pNeLI ms) := by
  intro σ env G H n Qp Q x y px py ok fr er rx ry hm hq
  cases rx <;> try exact hm.elim
  cases ry <;> try exact hm.elim
  rename_i a us xs ha ru b vs ys hb rv
  obtain ⟨hp, hm⟩ := hm
  obtain ⟨el, k⟩ := pairs_of (J := fun H1 => ∃ G1, Ok z.cm z.p z.c G1 H1 n ∧ Step (· = z.p) G H G1 H1) (D := D) (E := E) (G := G) (H0 := H) (n := n) (fun G1 H1 G' H' s1 ok' s' => ⟨G', ok', s1.trans s' fun _ x => x⟩) hD hn ru rv hp
  exact ⟨a, b, us, vs, fun H1 => ∃ G1, Ok z.cm z.p z.c G1 H1 n ∧ Step (· = z.p) G H G1 H1, rfl, rfl, ⟨G, ok, Step.refl _ _ _⟩, fun H1 ⟨G1, ok1, s1⟩ => ⟨ok1.sub _ _ (s1.same _ _ ha), ok1.sub _ _ (s1.same _ _ hb)⟩, el, fun i u v H1 ⟨G1, ok1, s1⟩ h1 h2 => k i u v G1 H1 s1 ok1 h1 h2, fun H' ⟨G1, ok1, s1⟩ _ => hq _ _ G1 H' n ok1 s1 (.bl false) hm⟩
end Pu
namespace Pu
open PySem PySem.Spec PyProof.Rows L2
theorem gok_none {P : Program} {w : World} {K : PySem.W.Frag} {mg : Str → Option Value} {base : Heap} {CX : CXT} {k n : Nat} {f : Addr} {fd : FuncData} {ps : List Str} {cm : Md} {m : List PV → M PV} (hm : ∀ a W n Q, m a W n Q → False) : Ev.GOk P w K mg base CX k f fd ps (spP K cm n m) :=
  ⟨fun _ _ _ _ ⟨_, _, _, _, _, _, _, _, _, _, h, _⟩ => (hm _ _ _ _ h).elim, fun _ _ _ _ _ _ _ _ _ _ _ _ _ _ ⟨_, _, _, _, _, _, _, _, _, _, h, _⟩ => (hm _ _ _ _ h).elim⟩
def mParOwn3 (i j l : Nat) (ma mb : PEnv → M PV) (mc : PEnv → M (List PV)) : MS := fun W D env n => ma env (W env) n fun x n1 => mb env (W env) n1 fun y n2 => mc env (W env) n2 fun ys n3 => ys.length ≤ 1000000 ∧ D.nx (((env.set i (.val x)).set j (.val y)).set l (.own ys)) n3
theorem sim_parOwn3 {z : Z} {i j l : Nat} {ta tb : TE} {tc : TA} {ma mb : PEnv → M PV} {mc : PEnv → M (List PV)} (ha : SimE z ta ma) (hb : SimE z tb mb) (hc : SimA z tc mc) :
    SimS z (tPar3 i j l (tCons ta (tCons tb (tCons (tLst tc) tNil)))) (mParOwn3 i j l ma mb mc) := by
  intro σ env G H n D Dp ok fr er hm ed
  refine ha.bind ok fr er hm fun x px G1 H1 n1 ok1 fr1 er1 s1 r1 hm1 => ?_
  refine hb.bind ok1 fr1 er1 hm1 fun y py G2 H2 n2 ok2 fr2 er2 s2 r2 hm2 => ?_
  refine hc.bind ok2 fr2 er2 hm2 fun ys ps G3 H3 n3 ok3 fr3 er3 s3 r3 hm3 => ?_
  refine ⟨by rw [r3.len]; exact line_of hm3.1, fun q hq1 => ⟨_, _, _, rfl, ?_⟩⟩
  have er4 := (er3.setV (i := i) (r1.mono (s2.same.trans s3.same))).setV (i := j) (r2.mono s3.same)
  obtain ⟨ok4, s4⟩ := ok3.newO (o := .lst ys) hq1
  have mine := ok3.mine fr3 hq1
  refine ed.nx _ _ G3 _ n3 ((s1.same.trans s2.same).trans s3.same) ok4 (fr3.stepP s4) ?_ hm3.2
  refine (er4.step s4).set ⟨q, ys, rfl, upd_same, mine, fr3.h0 hq1, r3⟩ fun _ k s' b nj hj os' hb eb => ?_
  cases Option.some.inj eb
  obtain ⟨x, hx, rx⟩ := er4.at_ k s' hj
  rw [hx] at hb
  cases Option.some.inj hb
  cases s' with
  | no => cases os'
  | val _ => cases os'
  | own ps =>
    obtain ⟨b, vs, e, hb, _⟩ := rx
    cases e
    rw [hq1] at hb
    cases hb
  | obj c fs =>
    obtain ⟨b, C, dx, vs, e, _, hb, _⟩ := rx
    cases e
    rw [hq1] at hb
    cases hb
end Pu
namespace K31
open PySem L2
def top (i : Nat) : Stmt := PySem.Challenge.pw_evenrules_k31_tall_shapes_and_halves.main.body.getD i (.Pass ⟨0, 0, 0, 0⟩)
def subs (c d : Str) : Bool := ([("Rule", ["Rule"]), ("WeightRule", ["WeightRule", "Rule"]), ("TurnRule", ["TurnRule", "WeightRule", "Rule"]), ("TryRule", ["TryRule", "WeightRule", "Rule"])] : List (Str × List Str)).any fun q => q.1 == c && q.2.contains d
def xsubs (c d : Str) : Bool := ([("BadRule", ["BadRule", "FairError", "ValueError"]), ("NoHalves", ["NoHalves", "FairError", "ValueError"]), ("BadNumber", ["BadNumber", "FairError", "ValueError"]), ("BadOther", ["BadOther", "FairError", "ValueError"]), ("BadText", ["BadText", "FairError", "ValueError"])] : List (Str × List Str)).any fun q => q.1 == c && q.2.contains d
structure Tx (K : PySem.W.Frag) (mg : Str → Option Value) (cm : Pu.Md) (C_Rule : Addr) (C_WeightRule : Addr) (C_TurnRule : Addr) (C_TryRule : Addr) (X_BadRule : Addr) (X_NoHalves : Addr) (X_BadNumber : Addr) (X_BadOther : Addr) (X_BadText : Addr) (X_FairError : Addr) : Prop where
  m_int : mg "int" = none
  m_abs : mg "abs" = none
  m_len : mg "len" = none
  m_list : mg "list" = none
  m_range : mg "range" = none
  m_max : mg "max" = none
  m_isinstance : mg "isinstance" = none
  m_bool : mg "bool" = none
  m_all : mg "all" = none
  m_tuple : mg "tuple" = none
  m_min : mg "min" = none
  g_Rule : mg "Rule" = some (.ref C_Rule)
  cm_Rule : cm "Rule" = some C_Rule
  ks_Rule : ∀ c C, cm c = some C → Ev.CI K C ∧ PySem.W.kitOne K (.ref C) (.ref C_Rule) = some (subs c "Rule")
  g_WeightRule : mg "WeightRule" = some (.ref C_WeightRule)
  cm_WeightRule : cm "WeightRule" = some C_WeightRule
  ks_WeightRule : ∀ c C, cm c = some C → Ev.CI K C ∧ PySem.W.kitOne K (.ref C) (.ref C_WeightRule) = some (subs c "WeightRule")
  g_TurnRule : mg "TurnRule" = some (.ref C_TurnRule)
  cm_TurnRule : cm "TurnRule" = some C_TurnRule
  ks_TurnRule : ∀ c C, cm c = some C → Ev.CI K C ∧ PySem.W.kitOne K (.ref C) (.ref C_TurnRule) = some (subs c "TurnRule")
  nf_TurnRule : ∀ d D, cm d = some D → Ev.CI K D ∧ PySem.W.notFirst K C_TurnRule (.ref D) = true
  ne_TurnRule : Ev.NeO K C_TurnRule
  g_TryRule : mg "TryRule" = some (.ref C_TryRule)
  cm_TryRule : cm "TryRule" = some C_TryRule
  ks_TryRule : ∀ c C, cm c = some C → Ev.CI K C ∧ PySem.W.kitOne K (.ref C) (.ref C_TryRule) = some (subs c "TryRule")
  nf_TryRule : ∀ d D, cm d = some D → Ev.CI K D ∧ PySem.W.notFirst K C_TryRule (.ref D) = true
  ne_TryRule : Ev.NeO K C_TryRule
  kt : ∀ c C, cm c = some C → Ev.CI K C ∧ ∀ T ∈ Pu.BTys, PySem.W.kitOne K (.ref C) (.type T) = some false
  na_turn : ∀ c C, cm c = some C → Cls K C ∧ NoAttr K C "turn"
  na_turn_plus : ∀ c C, cm c = some C → Cls K C ∧ NoAttr K C "turn_plus"
  na_times : ∀ c C, cm c = some C → Cls K C ∧ NoAttr K C "times"
  na_plus : ∀ c C, cm c = some C → Cls K C ∧ NoAttr K C "plus"
  k_MOST_PLUS : ∃ t, mg "MOST_PLUS" = some (.int (6) t)
  k_MOST_TURN : ∃ t, mg "MOST_TURN" = some (.int (8) t)
  k_MOST_WEIGHT : ∃ t, mg "MOST_WEIGHT" = some (.int (1000000000000000000000000000000000000000000000000000000000000) t)
  k_MOST_KEYS : ∃ t, mg "MOST_KEYS" = some (.int (1000000000000000000000000000000) t)
  k_MOST_SHAPED : ∃ t, mg "MOST_SHAPED" = some (.int (2000) t)
  cv_WeightRule_MOST : ∃ mc u, ClX.CRead K C_WeightRule mc ∧ ClX.CVal K C_WeightRule mc "MOST" (.int (6)) u
  xg_BadRule : mg "BadRule" = some (.ref X_BadRule)
  xg_NoHalves : mg "NoHalves" = some (.ref X_NoHalves)
  xg_BadNumber : mg "BadNumber" = some (.ref X_BadNumber)
  xg_BadOther : mg "BadOther" = some (.ref X_BadOther)
  xg_BadText : mg "BadText" = some (.ref X_BadText)
  xg_FairError : mg "FairError" = some (.ref X_FairError)
  cx_BadRule : cm.cx "BadRule" = some X_BadRule
  oe_BadRule : OexC K X_BadRule
  cx_NoHalves : cm.cx "NoHalves" = some X_NoHalves
  oe_NoHalves : OexC K X_NoHalves
  cx_BadNumber : cm.cx "BadNumber" = some X_BadNumber
  oe_BadNumber : OexC K X_BadNumber
  cx_BadOther : cm.cx "BadOther" = some X_BadOther
  oe_BadOther : OexC K X_BadOther
  cx_BadText : cm.cx "BadText" = some X_BadText
  oe_BadText : OexC K X_BadText
  xx : ∀ c C, cm.cx c = some C → ExcC K C
  xn_part : ∀ c C, cm.cx c = some C → PySem.W.findIn K (.ref C) "part" = some none
  xn_value : ∀ c C, cm.cx c = some C → PySem.W.findIn K (.ref C) "value" = some none
  xn_weight : ∀ c C, cm.cx c = some C → PySem.W.findIn K (.ref C) "weight" = some none
end K31
set_option hygiene false
local macro_rules | `(tactic| walk_at "ev hl") => `(tactic| (repeat (first | assumption | exact upd_same | refine Ev.get_new ?_ (by assumption) | refine Ev.get_ne (by assumption) ?_ | refine Ev.get_but (by assumption) (by walk_at "ev ne") ?_ | refine Ev.get_same (by assumption) ?_)))
local macro_rules | `(tactic| walk_at "ev fr") => `(tactic| (first | assumption | exact Ev.free_upd (by assumption) | exact Ev.free_upd (Ev.free_upd (by assumption)) | exact Ev.free_upd (Ev.free_upd (Ev.free_upd (by assumption))) | exact Ev.free_upd (Ev.free_upd (Ev.free_upd (Ev.free_upd (by assumption)))) | exact Ev.free_upd (Ev.free_upd (Ev.free_upd (Ev.free_upd (Ev.free_upd (by assumption))))) | exact Ev.free_upd (Ev.free_upd (Ev.free_upd (Ev.free_upd (Ev.free_upd (Ev.free_upd (by assumption)))))) | exact Ev.free_upd (Ev.free_upd (Ev.free_upd (Ev.free_upd (Ev.free_upd (Ev.free_upd (Ev.free_upd (by assumption))))))) | exact Ev.free_upd (Ev.free_upd (Ev.free_upd (Ev.free_upd (Ev.free_upd (Ev.free_upd (Ev.free_upd (Ev.free_upd (by assumption)))))))) | exact Ev.free_upd (Ev.free_upd (Ev.free_upd (Ev.free_upd (Ev.free_upd (Ev.free_upd (Ev.free_upd (Ev.free_upd (Ev.free_upd (by assumption)))))))))))
local macro_rules | `(tactic| walk_at "ev pen") => `(tactic| (first | assumption | exact Ev.Pen.new (by assumption) (by assumption) | exact Ev.Pen.new (Ev.Pen.new (by assumption) (by assumption)) (by assumption) | exact Ev.Pen.new (Ev.Pen.new (Ev.Pen.new (by assumption) (by assumption)) (by assumption)) (by assumption) | exact Ev.Pen.new (Ev.Pen.new (Ev.Pen.new (Ev.Pen.new (by assumption) (by assumption)) (by assumption)) (by assumption)) (by assumption) | exact Ev.Pen.new (Ev.Pen.new (Ev.Pen.new (Ev.Pen.new (Ev.Pen.new (by assumption) (by assumption)) (by assumption)) (by assumption)) (by assumption)) (by assumption) | exact Ev.Pen.new (Ev.Pen.new (Ev.Pen.new (Ev.Pen.new (Ev.Pen.new (Ev.Pen.new (by assumption) (by assumption)) (by assumption)) (by assumption)) (by assumption)) (by assumption)) (by assumption) | exact Ev.Pen.new (Ev.Pen.new (Ev.Pen.new (Ev.Pen.new (Ev.Pen.new (Ev.Pen.new (Ev.Pen.new (by assumption) (by assumption)) (by assumption)) (by assumption)) (by assumption)) (by assumption)) (by assumption)) (by assumption) | exact Ev.Pen.new (Ev.Pen.new (Ev.Pen.new (Ev.Pen.new (Ev.Pen.new (Ev.Pen.new (Ev.Pen.new (Ev.Pen.new (by assumption) (by assumption)) (by assumption)) (by assumption)) (by assumption)) (by assumption)) (by assumption)) (by assumption)) (by assumption) | exact Ev.Pen.new (Ev.Pen.new (Ev.Pen.new (Ev.Pen.new (Ev.Pen.new (Ev.Pen.new (Ev.Pen.new (Ev.Pen.new (Ev.Pen.new (by assumption) (by assumption)) (by assumption)) (by assumption)) (by assumption)) (by assumption)) (by assumption)) (by assumption)) (by assumption)) (by assumption) | exact Ev.Pen.new (Ev.Pen.new (Ev.Pen.new (Ev.Pen.new (Ev.Pen.new (Ev.Pen.new (Ev.Pen.new (Ev.Pen.new (Ev.Pen.new (Ev.Pen.new (by assumption) (by assumption)) (by assumption)) (by assumption)) (by assumption)) (by assumption)) (by assumption)) (by assumption)) (by assumption)) (by assumption)) (by assumption) | exact Ev.Pen.new (Ev.Pen.new (Ev.Pen.new (Ev.Pen.new (Ev.Pen.new (Ev.Pen.new (Ev.Pen.new (Ev.Pen.new (Ev.Pen.new (Ev.Pen.new (Ev.Pen.new (by assumption) (by assumption)) (by assumption)) (by assumption)) (by assumption)) (by assumption)) (by assumption)) (by assumption)) (by assumption)) (by assumption)) (by assumption)) (by assumption) | exact Ev.Pen.new (Ev.Pen.new (Ev.Pen.new (Ev.Pen.new (Ev.Pen.new (Ev.Pen.new (Ev.Pen.new (Ev.Pen.new (Ev.Pen.new (Ev.Pen.new (Ev.Pen.new (Ev.Pen.new (by assumption) (by assumption)) (by assumption)) (by assumption)) (by assumption)) (by assumption)) (by assumption)) (by assumption)) (by assumption)) (by assumption)) (by assumption)) (by assumption)) (by assumption)))
local macro_rules | `(tactic| walk_at "ev ne") => `(tactic| (first | assumption | exact Ev.Pen.ne (by assumption) (by walk_at "ev fr")))
local macro_rules | `(tactic| walk_at "ev but") => `(tactic| (repeat (first | assumption | exact Ev.But.refl _ _ | refine Ev.But.new ?_ (by assumption) | refine Ev.But.trans ?_ (by assumption) | refine Ev.But.set ?_)))
local macro_rules | `(tactic| walk_at "ev sm") => `(tactic| (repeat (first | assumption | exact Same.refl _ | refine Ev.Same.new ?_ (by assumption) | refine Same.trans ?_ (by assumption))))
local macro_rules | `(tactic| walk_at "ev sz") => `(tactic| (rw [sizeLine_eq]; simp))
local macro_rules | `(tactic| walk_at "ev flen") => `(tactic| (show _ < 1000; refine Nat.lt_of_le_of_lt (?_ : _ ≤ 20) (by decide); repeat (first | exact Nat.zero_le _ | refine Ev.len_putF ?_)))
local macro_rules | `(tactic| walk_at "ev rd") => `(tactic| (repeat (first | refine ⟨_, rfl, ?_⟩ | refine ⟨_, _, rfl, rfl, ?_⟩ | refine Or.inl ⟨_, rfl, ?_⟩ | refine Or.inr ⟨_, rfl, ?_⟩ | refine ⟨_, _, _, _, rfl, rfl, SqL.of (by walk_at "ev hl"), (by rfl), ?_⟩ | refine ⟨_, _, _, _, rfl, rfl, SqT.of (by walk_at "ev hl"), (by rfl), ?_⟩ | refine ⟨_, _, rfl, Or.inl (SqL.of (by walk_at "ev hl")), ?_⟩ | refine ⟨_, _, rfl, Or.inr (SqT.of (by walk_at "ev hl")), ?_⟩ | refine ⟨_, _, _, _, rfl, rfl, (by walk_at "ev hl"), (by rfl), ?_⟩ | (refine ⟨Nat.zero_le _, fun _ hfr => ?_⟩; try (have := Ev.Pen.ne (by walk_at "ev pen") hfr)) | (refine ⟨(by walk_at "ev sz"), fun _ hfr => ?_⟩; try (have := Ev.Pen.ne (by walk_at "ev pen") hfr)) | refine ⟨(by show (0 : Int) < _; omega), ?_⟩ | refine ⟨(by show CMul _ _; unfold CMul; omega), ?_⟩ | refine ⟨(by show CPow _ _; unfold CPow; omega), ?_⟩ | refine ⟨(by show CDiv _ _; unfold CDiv; omega), ?_⟩ | refine ⟨⟨_, SqT.of (by walk_at "ev hl")⟩, ?_⟩ | refine ⟨⟨_, SqL.of (by walk_at "ev hl")⟩, ?_⟩ | refine ⟨rfl, ?_⟩ | refine iteT ?_ | refine iteF ?_ | refine ⟨_, _, _, _, _, rfl, .ty _, .base (.int _), kit_ty rfl, ?_⟩ | refine ⟨_, _, _, _, _, rfl, .ty _, .base (.tup (by walk_at "ev hl")), kit_ty rfl, ?_⟩ | refine ⟨_, _, _, _, _, rfl, .ty _, .base (.lst (by walk_at "ev hl")), kit_ty rfl, ?_⟩ | refine ⟨Or.inl ⟨rfl, _, SqL.of (by walk_at "ev hl")⟩, ?_⟩ | refine ⟨_, _, rfl, SqT.of (by walk_at "ev hl"), rfl, ?_⟩ | refine ⟨_, _, rfl, ?_⟩ | refine ⟨_, _, _, rfl, ?_⟩)))
namespace K31
open PySem L2
theorem sc_draw : FnScope ["_law_pen_here", "_law_many", "_law_digit", "_law_at", "_law_cell", "_law_great", "_law_mixed"] ["_law_pen_here", "_law_many"] (C8.fnScope (top 48)) := C8.fnScope_by (by decide +kernel)
def spDraw : Sp := fun vs H Q _ => ∃ (p c : Addr) (m n : Int), vs = [.ref p, .int m] ∧ Ev.Pen H p c n ∧ n ≤ 100000 ∧ 0 < m ∧ m ≤ 10000000000000000000000000000000000000000000000000000000000000000000000 ∧
  ∀ (d : Int) (H' : Hp), 0 ≤ d → d < m → Ev.But p H H' → Ev.Pen H' p c (n + 1) → Q (.int d) H'
section
variable {P : Program} {w : World} {K : PySem.W.Frag} {mg : Str → Option Value} {base : Heap} {cm : Pu.Md} {C_Rule : Addr} {C_WeightRule : Addr} {C_TurnRule : Addr} {C_TryRule : Addr} {X_BadRule : Addr} {X_NoHalves : Addr} {X_BadNumber : Addr} {X_BadOther : Addr} {X_BadText : Addr} {X_FairError : Addr}
theorem ok_draw {f : Addr} {fd : FuncData} (F : Ev.Fn K "_law_draw" "_law_draw" (top 48) f fd) (T : Tx K mg cm C_Rule C_WeightRule C_TurnRule C_TryRule X_BadRule X_NoHalves X_BadNumber X_BadOther X_BadText X_FairError) : Ev.GOk P w K mg base (L2.CX P w) 1 f fd ["_law_pen_here", "_law_many"] spDraw := by
  refine Ev.gfn0 F sc_draw (fun vs H Q E h => ?_) (fun cdv A outer s H vs Q E hgd hr h => ?_)
  · obtain ⟨p, c, m, n, rfl, ⟨t, g, ns, hp, hc, t0, t1, g0, hcp, hl⟩, hn, m0, m1, k⟩ := h
    rfl
  · obtain ⟨p, c, m, n, rfl, ⟨t, g, ns, hp, hc, t0, t1, g0, hcp, hl⟩, hn, m0, m1, k⟩ := h
    have hu : _ + 64 < cLine := hr.units
    refine ⟨_, (pss_cons (ps_if (pt_cmpR op_gt (pe_ix ix_list (pv 0) pe_int (fun _ _ => rfl)) pe_int (nomark _))
  (pss_cons (ps_set (i := 2) sc_draw.nd rfl (.inl rfl) (pe_op op_mod (pe_callTy call_int1 (by rfl) T.m_int (by decide +kernel) (pa_cons (pe_ix ix_list (pv 0) pe_int (fun _ _ => rfl)) pa_nil)) (pv 1)))
  (pss_cons (ps_asg (pe_op op_fdivW (pe_callTy call_int1 (by rfl) T.m_int (by decide +kernel) (pa_cons (pe_ix ix_list (pv 0) pe_int (fun _ _ => rfl)) pa_nil)) (pv 1)) (pg_sub (pv 0) pe_int set_list))
  (pss_one (ps_ret (pv 2)))))
  pss_nil)
  (pss_cons (ps_set (i := 3) sc_draw.nd rfl (.inl rfl) (pe_ix ix_list (pv 0) pe_int (fun _ _ => rfl)))
  (pss_cons (ps_asg (pe_op op_add (pv 3) pe_int) (pg_sub (pv 0) pe_int set_list))
  (pss_cons (ps_set (i := 4) sc_draw.nd rfl (.inl rfl) (pe_op op_add (pe_op op_mul pe_int (pv 3)) pe_int))
  (pss_cons (ps_if (pt_cmpR (op_neD hu) (pe_ix ix_list (pv 0) pe_int (fun _ _ => rfl)) (pe_lst pa_nil) (nomark _))
  (pss_one (ps_set (i := 4) sc_draw.nd rfl (.inl rfl) (pe_ix ix_list (pe_ix ix_list (pv 0) pe_int (fun _ _ => rfl)) (pe_op op_mod (pe_callTy call_int1 (by rfl) T.m_int (by decide +kernel) (pa_cons (pv 3) pa_nil)) (pe_callB call_len_seq (by rfl) T.m_len (by decide +kernel) (pa_cons (pe_ix ix_list (pv 0) pe_int (fun _ _ => rfl)) pa_nil))) (fun _ _ => rfl))))
  pss_nil)
  (pss_cons (ps_if (pw_and (pt_cmpR op_lt (pv 3) (pe_callB call_len_seq (by rfl) T.m_len (by decide +kernel) (pa_cons (pe_ix ix_list (pv 0) pe_int (fun _ _ => rfl)) pa_nil)) (nomark _)) (pw_and1 (pt_cmpR op_ge (pe_callB call_abs (by rfl) T.m_abs (by decide +kernel) (pa_cons (pv 4) pa_nil)) (pe_op op_pow pe_int pe_int) (nomark _)))).pt
  (pss_cons (ps_set (i := 5) sc_draw.nd rfl (.inl rfl) (pe_op op_add (pe_op op_mul pe_int (pe_op op_sub (pe_callB call_abs (by rfl) T.m_abs (by decide +kernel) (pa_cons (pv 4) pa_nil)) (pe_op op_pow pe_int pe_int))) (pe_callTy call_int1 (by rfl) T.m_int (by decide +kernel) (pa_cons (pe_cmpR op_lt (pv 4) pe_int (nomark _)) pa_nil))))
  (pss_cons (ps_asg (pe_op op_fdivW (pe_callTy call_int1 (by rfl) T.m_int (by decide +kernel) (pa_cons (pv 5) pa_nil)) (pv 1)) (pg_sub (pv 0) pe_int set_list))
  (pss_one (ps_ret (pe_op op_mod (pe_callTy call_int1 (by rfl) T.m_int (by decide +kernel) (pa_cons (pv 5) pa_nil)) (pv 1))))))
  pss_nil)
  (pss_cons (ps_set (i := 6) sc_draw.nd rfl (.inl rfl) (pe_op op_mod (pe_callTy call_int1 (by rfl) T.m_int (by decide +kernel) (pa_cons (pe_op op_pow (pe_op op_add (pe_op op_add (pe_op op_mod (pe_callTy call_int1 (by rfl) T.m_int (by decide +kernel) (pa_cons (pv 4) pa_nil)) pe_int) (pe_op op_mul pe_int (pv 3))) pe_int) pe_int) pa_nil)) pe_int))
  (pss_cons (ps_set (i := 6) sc_draw.nd rfl (.inl rfl) (pe_op op_mod (pe_callTy call_int1 (by rfl) T.m_int (by decide +kernel) (pa_cons (pe_op op_pow (pe_op op_add (pe_op op_add (pe_op op_mul (pv 6) (pe_op op_add (pe_op op_mul pe_int (pv 3)) pe_int)) (pe_op op_mul (pe_op op_mul pe_int (pv 3)) (pv 3))) pe_int) pe_int) pa_nil)) pe_int))
  (pss_one (ps_ret (pe_op op_mod (pe_callTy call_int1 (by rfl) T.m_int (by decide +kernel) (pa_cons (pe_op op_fdiv (pv 6) pe_int) pa_nil)) (pv 1)))))))))))), ?_⟩
    have hw : ∀ z, CDivW z m := fun z => wide_div (b := 256) m0 (by omega) (by decide) (by decide)
    walk_at "ev rd"
    refine ite2 (fun hg => ?_) (fun hg => ?_)
    · walk_at "ev rd"
      refine ⟨hw _, ?_⟩
      walk_at "ev rd"
      exact k (g % m) _ (Int.emod_nonneg _ (by omega)) (Int.emod_lt_of_pos _ m0) (Ev.But.refl p H).set ⟨t, g / m, ns, upd_same, Ev.get_ne hcp hc, t0, by omega, Int.ediv_nonneg g0 (by omega), hcp, hl⟩
    · walk_at "ev rd"
      refine Ev.ne_ints (ns := ns) (ms := []) (SqL.of (by walk_at "ev hl")) (SqL.of (by walk_at "ev hl")) ?_
      walk_at "ev rd"
      have hlen : ((ns.map V.int).length : Int) = (ns.length : Int) := by rw [List.length_map]
      refine ite2 (fun h0 => ?_) (fun h0 => ?_)
      · have hne : 0 < ns.length := by
          cases ns with
          | nil => simp at h0
          | cons _ _ => simp
        walk_at "ev rd"
        obtain ⟨z, hz, hat⟩ := Ev.at_int (ns := ns) (i := t % ((ns.map V.int).length : Int)) (Int.emod_nonneg _ (by omega)) (by have := Int.emod_lt_of_pos t (show (0 : Int) < ((ns.map V.int).length : Int) by omega); omega)
        refine ⟨_, _, _, _, rfl, rfl, SqL.of (by walk_at "ev hl"), hat, ?_⟩
        walk_at "ev rd"
        refine ite2 (fun h1 => ?_) (fun h1 => ?_)
        · walk_at "ev rd"
          refine ite2 (fun h2 => ?_) (fun h2 => ?_)
          · walk_at "ev rd"
            refine ⟨hw _, ?_⟩
            walk_at "ev rd"
            exact k _ _ (Int.emod_nonneg _ (by omega)) (Int.emod_lt_of_pos _ m0) ((Ev.But.refl p H).set.new (by assumption)).set ⟨t + 1, _, ns, upd_same, (by walk_at "ev hl"), by omega, by omega, Int.ediv_nonneg (Ev.great_nn (of_decide_eq_true h2)) (by omega), hcp, hl⟩
          · walk_at "ev rd"
            refine ⟨Ev.pow3 (by omega) (by omega) t0 (by omega) (by decide) (by decide) (by decide) (by decide) (by decide) (by decide), ?_⟩
            walk_at "ev rd"
            exact k _ _ (Int.emod_nonneg _ (by omega)) (Int.emod_lt_of_pos _ m0) ((Ev.But.refl p H).set.new (by assumption)) ⟨t + 1, g, ns, (by walk_at "ev hl"), (by walk_at "ev hl"), by omega, by omega, g0, hcp, hl⟩
        · refine iteF ?_
          walk_at "ev rd"
          refine ⟨Ev.pow3 (by omega) (by omega) t0 (by omega) (by decide) (by decide) (by decide) (by decide) (by decide) (by decide), ?_⟩
          walk_at "ev rd"
          exact k _ _ (Int.emod_nonneg _ (by omega)) (Int.emod_lt_of_pos _ m0) ((Ev.But.refl p H).set.new (by assumption)) ⟨t + 1, g, ns, (by walk_at "ev hl"), (by walk_at "ev hl"), by omega, by omega, g0, hcp, hl⟩
      · walk_at "ev rd"
        refine ite2 (fun h1 => ?_) (fun h1 => ?_)
        · walk_at "ev rd"
          refine ite2 (fun h2 => ?_) (fun h2 => ?_)
          · walk_at "ev rd"
            refine ⟨hw _, ?_⟩
            walk_at "ev rd"
            exact k _ _ (Int.emod_nonneg _ (by omega)) (Int.emod_lt_of_pos _ m0) ((Ev.But.refl p H).set.new (by assumption)).set ⟨t + 1, _, ns, upd_same, (by walk_at "ev hl"), by omega, by omega, Int.ediv_nonneg (Ev.great_nn (of_decide_eq_true h2)) (by omega), hcp, hl⟩
          · walk_at "ev rd"
            refine ⟨Ev.pow3 (by omega) (by omega) t0 (by omega) (by decide) (by decide) (by decide) (by decide) (by decide) (by decide), ?_⟩
            walk_at "ev rd"
            exact k _ _ (Int.emod_nonneg _ (by omega)) (Int.emod_lt_of_pos _ m0) ((Ev.But.refl p H).set.new (by assumption)) ⟨t + 1, g, ns, (by walk_at "ev hl"), (by walk_at "ev hl"), by omega, by omega, g0, hcp, hl⟩
        · refine iteF ?_
          walk_at "ev rd"
          refine ⟨Ev.pow3 (by omega) (by omega) t0 (by omega) (by decide) (by decide) (by decide) (by decide) (by decide) (by decide), ?_⟩
          walk_at "ev rd"
          exact k _ _ (Int.emod_nonneg _ (by omega)) (Int.emod_lt_of_pos _ m0) ((Ev.But.refl p H).set.new (by assumption)) ⟨t + 1, g, ns, (by walk_at "ev hl"), (by walk_at "ev hl"), by omega, by omega, g0, hcp, hl⟩
end
end K31
namespace K31
open PySem L2
theorem sc_pen : FnScope ["_law_script"] ["_law_script"] (C8.fnScope (top 47)) := C8.fnScope_by (by decide +kernel)
def spPen (K : PySem.W.Frag) : Sp := fun vs H Q _ => ∃ (a : Addr) (ns : List Int), vs = [.ref a] ∧ SqL K H a (ns.map V.int) ∧ ns.length ≤ 63 ∧
  ∀ (p c : Addr) (H' : Hp), Same H H' → H p = none → Ev.Pen H' p c 0 → Q (.ref p) H'
section
variable {P : Program} {w : World} {K : PySem.W.Frag} {mg : Str → Option Value} {base : Heap} {cm : Pu.Md} {C_Rule : Addr} {C_WeightRule : Addr} {C_TurnRule : Addr} {C_TryRule : Addr} {X_BadRule : Addr} {X_NoHalves : Addr} {X_BadNumber : Addr} {X_BadOther : Addr} {X_BadText : Addr} {X_FairError : Addr}
theorem ok_pen {f : Addr} {fd : FuncData} (F : Ev.Fn K "_law_pen" "_law_pen" (top 47) f fd) (T : Tx K mg cm C_Rule C_WeightRule C_TurnRule C_TryRule X_BadRule X_NoHalves X_BadNumber X_BadOther X_BadText X_FairError) : Ev.GOk P w K mg base (L2.CX P w) 1 f fd ["_law_script"] (spPen K) := by
  refine Ev.gfn0 F sc_pen (fun vs H Q E h => ?_) (fun cdv A outer s H vs Q E hgd hr h => ?_)
  · obtain ⟨a, ns, rfl, hS, hl, k⟩ := h
    rfl
  · obtain ⟨a, ns, rfl, hS, hl, k⟩ := h
    have hu : _ + 64 < cLine := hr.units
    refine ⟨_, (pss_one (ps_ret (pe_lst (pa_cons (pe_callTy call_list_of (by rfl) T.m_list (by decide +kernel) (pa_cons (pe_slice sl_list (pv 0) po_none (po_some pe_int)) pa_nil)) (pa_cons pe_int (pa_cons pe_int pa_nil)))))), ?_⟩
    obtain ⟨ms, e, hm, _⟩ := Ev.cut_ints ns none (some 63)
    walk_at "ev rd"
    refine ⟨_, _, rfl, hS, fun c nc => ?_⟩
    rw [e]
    refine ⟨_, _, rfl, Or.inl (SqL.of (by walk_at "ev hl")), fun l nl => ⟨(by walk_at "ev sz"), fun p np => ?_⟩⟩
    refine k p l _ (fun b o h => by walk_at "ev hl") ?_ ⟨0, 0, ms, upd_same, (by walk_at "ev hl"), by decide, by decide, by decide, ?_, by omega⟩
    · cases z : H p with
      | none => rfl
      | some o =>
        rw [Ev.get_new (Ev.get_new z nc) nl] at np
        cases np
    · intro z
      subst z
      rw [upd_same] at np
      cases np
end
end K31
namespace K31
open PySem L2
theorem sc_pick : FnScope ["_law_pen_here", "_law_some"] ["_law_pen_here", "_law_some"] (C8.fnScope (top 49)) := C8.fnScope_by (by decide +kernel)
def spPick : Sp := fun vs H Q _ => ∃ (p c l : Addr) (xs : List V) (n : Int), vs = [.ref p, .ref l] ∧ Ev.Pen H p c n ∧ n ≤ 90000 ∧ H l = some (.lst xs) ∧ l ≠ p ∧ (0 < xs.length ∧ xs.length ≤ 1000) ∧
  ∀ (v : V) (H' : Hp), v ∈ xs → Ev.But p H H' → Ev.Pen H' p c (n + 1) → Q v H'
section
variable {P : Program} {w : World} {K : PySem.W.Frag} {mg : Str → Option Value} {base : Heap} {cm : Pu.Md} {C_Rule : Addr} {C_WeightRule : Addr} {C_TurnRule : Addr} {C_TryRule : Addr} {X_BadRule : Addr} {X_NoHalves : Addr} {X_BadNumber : Addr} {X_BadOther : Addr} {X_BadText : Addr} {X_FairError : Addr}
theorem ok_pick {f : Addr} {fd : FuncData} (F : Ev.Fn K "_law_pick" "_law_pick" (top 49) f fd) (T : Tx K mg cm C_Rule C_WeightRule C_TurnRule C_TryRule X_BadRule X_NoHalves X_BadNumber X_BadOther X_BadText X_FairError) (c_draw : Ev.GC P w K mg base 1 "_law_draw" spDraw []) : Ev.GOk P w K mg base (L2.CX P w) 2 f fd ["_law_pen_here", "_law_some"] spPick := by
  refine Ev.gfn0 F sc_pick (fun vs H Q E h => ?_) (fun cdv A outer s H vs Q E hgd hr h => ?_)
  · obtain ⟨p, c, l, xs, n, rfl, hp, hn, hx, hlp, hlen, k⟩ := h
    rfl
  · obtain ⟨p, c, l, xs, n, rfl, hp, hn, hx, hlp, hlen, k⟩ := h
    have hu : _ + 64 < cLine := hr.units
    refine ⟨_, (pss_one (ps_ret (pe_ix ix_list (pv 1) (Ev.pe_c c_draw hgd hr (by decide) (by rfl) (pa_cons (pv 0) (pa_cons (pe_callB call_len_seq (by rfl) T.m_len (by decide +kernel) (pa_cons (pv 1) pa_nil)) pa_nil))) (fun _ _ => rfl)))), ?_⟩
    walk_at "ev rd"
    refine ⟨_, _, _, _, rfl, (by walk_at "ev pen"), (by omega), (by omega), (by omega), fun d H1 d0 d1 b1 p1 => ?_⟩
    have hd : d.toNat < xs.length := by omega
    refine ⟨_, _, _, _, rfl, rfl, SqL.of (b1 _ _ hx hlp), at_of (j := d.toNat) (by omega) (List.getElem?_eq_getElem hd), ?_⟩
    exact k _ _ (List.getElem_mem hd) b1 p1
end
end K31
namespace K31
open PySem L2 Pu
theorem draw_sp (p c : Addr) (m n : Int) (H : Hp) (Q : VK) (E : XK) (h1 : Ev.Pen H p c n) (h2 : n ≤ 100000) (h3 : 0 < m) (h4 : m ≤ 10000000000000000000000000000000000000000000000000000000000000000000000) (h5 : ∀ (d : Int) (H' : Hp), 0 ≤ d → d < m → Ev.But p H H' → Ev.Pen H' p c (n + 1) → Q (.int d) H') : spDraw [.ref p, .int m] H Q E := ⟨p, c, m, n, rfl, h1, h2, h3, h4, h5⟩
end K31
set_option hygiene false
local macro_rules | `(tactic| walk_at "ev s0") => `(tactic| try dsimp only [Cx.nox, Cx.wish, Cx.blk, Cx.tr, cxOf, Ev.cxS, Ev.gvX, List.map, List.length, Nat.reduceAdd])
namespace K31
open PySem L2 Pu
theorem sc_law_pick : FnScope ["_law_pen_here", "_law_some"] ["_law_pen_here", "_law_some"] (C8.fnScope (top 49)) := C8.fnScope_by (by decide +kernel)
def b_law_pick : MS := (mRet (mOp pIxL (mVar 1) (mDraw (mCons (mVar 0) (mCons (mCB pLen (mCons (mVar 1) mNil)) mNil)))))
def m_law_pick : List PV → M PV := mFnX 2 b_law_pick
theorem run_law_pick {a0 a1 : PV} {W : XP} {n : Nat} {Q : PV → Nat → Prop} (h : b_law_pick (fun _ => W) { nx := fun _ n' => Q .non n', rt := Q } [.val a0, .val a1] n) : m_law_pick [a0, a1] W n Q := h
section
variable {P : Program} {w : World} {K : PySem.W.Frag} {mg : Str → Option Value} {base : Heap} {cm : Pu.Md} {C_Rule : Addr} {C_WeightRule : Addr} {C_TurnRule : Addr} {C_TryRule : Addr} {X_BadRule : Addr} {X_NoHalves : Addr} {X_BadNumber : Addr} {X_BadOther : Addr} {X_BadText : Addr} {X_FairError : Addr}
theorem ok_law_pick {f : Addr} {fd : FuncData} (F : Ev.Fn K "_law_pick" "_law_pick" (top 49) f fd) (T : Tx K mg cm C_Rule C_WeightRule C_TurnRule C_TryRule X_BadRule X_NoHalves X_BadNumber X_BadOther X_BadText X_FairError) (c_draw : Ev.GC P w K mg base 1 "_law_draw" spDraw []) : Ev.GOk P w K mg base (L2.CX P w) 2 f fd ["_law_pen_here", "_law_some"] (spP K cm 2 m_law_pick) := by
  refine qfnX (by decide) F sc_law_pick fun cdv A outer s H E hcode hgd hr => ?_
  have hu : _ + 64 < cLine := hr.units
  refine ⟨_, (pss_one (ps_ret (pe_ix ix_list (pv 1) (Ev.pe_cE c_draw hgd hr (by decide) (Ev.passE (takes_of rfl rfl rfl rfl)) (by rfl) (pa_cons (pv 0) (pa_cons (pe_callB call_len_seq (by rfl) T.m_len (by decide +kernel) (pa_cons (pv 1) pa_nil)) pa_nil))) (fun _ _ => rfl)))), fun z hK hcm hW hl => ?_⟩
  subst hK hcm
  unfold b_law_pick
  walk_at "ev s0"
  with_reducible exact (sim_ret (sim_op simR_ixL sim_var (sim_draw draw_sp (sim_cons sim_var (sim_cons (sim_cb simC_len (sim_cons sim_var sim_nil)) sim_nil)))))
end
end K31
set_option hygiene false
namespace K31
open PySem L2 Pu
theorem sc_law_numbers : FnScope ["_law_pen_here", "_law_q", "_law_p", "_law_k", "_law_s"] ["_law_pen_here"] (C8.fnScope (top 50)) := C8.fnScope_by (by decide +kernel)
def b_law_numbers : MS := (mSeq (mAsg (mOp pAdd (mC (.int 1)) (mCall 2 m_law_pick [] (mCons (mVar 0) (mCons (mLst (mCons (mC (.int 0)) (mCons (mC (.int 0)) (mCons (mC (.int 1)) (mCons (mC (.int 1)) (mCons (mC (.int 2)) (mCons (mDraw (mCons (mVar 0) (mCons (mC (.int 6)) mNil))) mNil))))))) mNil)))) (mgN 1))
  (mSeq (mAsg (mOp pAdd (mVar 1) (mDraw (mCons (mVar 0) (mCons (mOp pSub (mC (.int 7)) (mVar 1)) mNil)))) (mgN 2))
  (mSeq (mAsg (mCall 2 m_law_pick [] (mCons (mVar 0) (mCons (mLst (mCons (mC (.int 0)) (mCons (mC (.int 0)) (mCons (mC (.int 1)) (mCons (mUn pNeg (mC (.int 1))) (mCons (mC (.int 6)) (mCons (mOp pSub (mDraw (mCons (mVar 0) (mCons (mC (.int 13)) mNil))) (mC (.int 6))) mNil))))))) mNil))) (mgN 3))
  (mSeq (mAsg (mIf (mB (mOp pGe (mOp pAdd (mVar 2) (mVar 3)) (mOp pMul (mC (.int 2)) (mVar 1)))) (mVar 3) (mOp pSub (mOp pMul (mC (.int 2)) (mVar 1)) (mVar 2))) (mgN 3))
  (mSeq (mAsg (mOp pAdd (mC (.int 1)) (mDraw (mCons (mVar 0) (mCons (mC (.int 4)) mNil)))) (mgN 4))
  (mRet (mTup (mCons (mVar 2) (mCons (mVar 1) (mCons (mVar 3) (mCons (mOp pAdd (mVar 4) (mDraw (mCons (mVar 0) (mCons (mC (.int 5)) mNil)))) (mCons (mVar 4) (mCons (mCall 2 m_law_pick [] (mCons (mVar 0) (mCons (mLst (mCons (mC (.int 0)) (mCons (mC (.int 0)) (mCons (mUn pNeg (mC (.int 1))) (mCons (mC (.int 1)) (mCons (mUn pNeg (mVar 4)) (mCons (mOp pSub (mDraw (mCons (mVar 0) (mCons (mC (.int 13)) mNil))) (mC (.int 6))) mNil))))))) mNil))) mNil)))))))))))))
def m_law_numbers : List PV → M PV := mFnX 5 b_law_numbers
theorem run_law_numbers {a0 : PV} {W : XP} {n : Nat} {Q : PV → Nat → Prop} (h : b_law_numbers (fun _ => W) { nx := fun _ n' => Q .non n', rt := Q } [.val a0, .no, .no, .no, .no] n) : m_law_numbers [a0] W n Q := h
section
variable {P : Program} {w : World} {K : PySem.W.Frag} {mg : Str → Option Value} {base : Heap} {cm : Pu.Md} {C_Rule : Addr} {C_WeightRule : Addr} {C_TurnRule : Addr} {C_TryRule : Addr} {X_BadRule : Addr} {X_NoHalves : Addr} {X_BadNumber : Addr} {X_BadOther : Addr} {X_BadText : Addr} {X_FairError : Addr}
theorem ok_law_numbers {f : Addr} {fd : FuncData} (F : Ev.Fn K "_law_numbers" "_law_numbers" (top 50) f fd) (T : Tx K mg cm C_Rule C_WeightRule C_TurnRule C_TryRule X_BadRule X_NoHalves X_BadNumber X_BadOther X_BadText X_FairError) (c_draw : Ev.GC P w K mg base 1 "_law_draw" spDraw []) (c_law_pick : Ev.GC P w K mg base 2 "_law_pick" (spP K cm 2 m_law_pick) []) : Ev.GOk P w K mg base (L2.CX P w) 3 f fd ["_law_pen_here"] (spP K cm 1 m_law_numbers) := by
  refine qfnX (by decide) F sc_law_numbers fun cdv A outer s H E hcode hgd hr => ?_
  have hu : _ + 64 < cLine := hr.units
  refine ⟨_, (pss_cons (ps_set (i := 1) sc_law_numbers.nd rfl (.inl rfl) (pe_op op_add pe_int (Ev.pe_cE c_law_pick hgd hr (by decide) (Ev.passE (takes_of rfl rfl rfl rfl)) (by rfl) (pa_cons (pv 0) (pa_cons (pe_lst (pa_cons pe_int (pa_cons pe_int (pa_cons pe_int (pa_cons pe_int (pa_cons pe_int (pa_cons (Ev.pe_cE c_draw hgd hr (by decide) (Ev.passE (takes_of rfl rfl rfl rfl)) (by rfl) (pa_cons (pv 0) (pa_cons pe_int pa_nil))) pa_nil))))))) pa_nil)))))
    (pss_cons (ps_set (i := 2) sc_law_numbers.nd rfl (.inl rfl) (pe_op op_add (pv 1) (Ev.pe_cE c_draw hgd hr (by decide) (Ev.passE (takes_of rfl rfl rfl rfl)) (by rfl) (pa_cons (pv 0) (pa_cons (pe_op op_sub pe_int (pv 1)) pa_nil)))))
    (pss_cons (ps_set (i := 3) sc_law_numbers.nd rfl (.inl rfl) (Ev.pe_cE c_law_pick hgd hr (by decide) (Ev.passE (takes_of rfl rfl rfl rfl)) (by rfl) (pa_cons (pv 0) (pa_cons (pe_lst (pa_cons pe_int (pa_cons pe_int (pa_cons pe_int (pa_cons (pe_un un_neg pe_int) (pa_cons pe_int (pa_cons (pe_op op_sub (Ev.pe_cE c_draw hgd hr (by decide) (Ev.passE (takes_of rfl rfl rfl rfl)) (by rfl) (pa_cons (pv 0) (pa_cons pe_int pa_nil))) pe_int) pa_nil))))))) pa_nil))))
    (pss_cons (ps_set (i := 3) sc_law_numbers.nd rfl (.inl rfl) (pe_ifExp (pt_cmpR op_ge (pe_op op_add (pv 2) (pv 3)) (pe_op op_mulW pe_int (pv 1)) (nomark _)) (pv 3) (pe_op op_sub (pe_op op_mulW pe_int (pv 1)) (pv 2))))
    (pss_cons (ps_set (i := 4) sc_law_numbers.nd rfl (.inl rfl) (pe_op op_add pe_int (Ev.pe_cE c_draw hgd hr (by decide) (Ev.passE (takes_of rfl rfl rfl rfl)) (by rfl) (pa_cons (pv 0) (pa_cons pe_int pa_nil)))))
    (pss_one (ps_ret (pe_tup (pa_cons (pv 2) (pa_cons (pv 1) (pa_cons (pv 3) (pa_cons (pe_op op_add (pv 4) (Ev.pe_cE c_draw hgd hr (by decide) (Ev.passE (takes_of rfl rfl rfl rfl)) (by rfl) (pa_cons (pv 0) (pa_cons pe_int pa_nil)))) (pa_cons (pv 4) (pa_cons (Ev.pe_cE c_law_pick hgd hr (by decide) (Ev.passE (takes_of rfl rfl rfl rfl)) (by rfl) (pa_cons (pv 0) (pa_cons (pe_lst (pa_cons pe_int (pa_cons pe_int (pa_cons (pe_un un_neg pe_int) (pa_cons pe_int (pa_cons (pe_un un_neg (pv 4)) (pa_cons (pe_op op_sub (Ev.pe_cE c_draw hgd hr (by decide) (Ev.passE (takes_of rfl rfl rfl rfl)) (by rfl) (pa_cons (pv 0) (pa_cons pe_int pa_nil))) pe_int) pa_nil))))))) pa_nil))) pa_nil)))))))))))))), fun z hK hcm hW hl => ?_⟩
  subst hK hcm
  unfold b_law_numbers
  walk_at "ev s0"
  with_reducible exact (sim_seq (sim_asg (sim_op simR_add (by first | with_reducible exact (sim_c fun _ => .int _) | with_reducible exact sim_cval T.cv_WeightRule_MOST fun _ => .int _) (sim_call (by first | exact hl3 | exact hl2 | exact hl | exact link0 (by first | exact hW | rfl)) (fun _ => .nil) (sim_cons sim_var (sim_cons (sim_lst (sim_cons (by first | with_reducible exact (sim_c fun _ => .int _) | with_reducible exact sim_cval T.cv_WeightRule_MOST fun _ => .int _) (sim_cons (by first | with_reducible exact (sim_c fun _ => .int _) | with_reducible exact sim_cval T.cv_WeightRule_MOST fun _ => .int _) (sim_cons (by first | with_reducible exact (sim_c fun _ => .int _) | with_reducible exact sim_cval T.cv_WeightRule_MOST fun _ => .int _) (sim_cons (by first | with_reducible exact (sim_c fun _ => .int _) | with_reducible exact sim_cval T.cv_WeightRule_MOST fun _ => .int _) (sim_cons (by first | with_reducible exact (sim_c fun _ => .int _) | with_reducible exact sim_cval T.cv_WeightRule_MOST fun _ => .int _) (sim_cons (sim_draw draw_sp (sim_cons sim_var (sim_cons (by first | with_reducible exact (sim_c fun _ => .int _) | with_reducible exact sim_cval T.cv_WeightRule_MOST fun _ => .int _) sim_nil))) sim_nil))))))) sim_nil)))) sim_gN) (sim_seq (sim_asg (sim_op simR_add sim_var (sim_draw draw_sp (sim_cons sim_var (sim_cons (sim_op simR_sub (by first | with_reducible exact (sim_c fun _ => .int _) | with_reducible exact sim_cval T.cv_WeightRule_MOST fun _ => .int _) sim_var) sim_nil)))) sim_gN) (sim_seq (sim_asg (sim_call (by first | exact hl3 | exact hl2 | exact hl | exact link0 (by first | exact hW | rfl)) (fun _ => .nil) (sim_cons sim_var (sim_cons (sim_lst (sim_cons (by first | with_reducible exact (sim_c fun _ => .int _) | with_reducible exact sim_cval T.cv_WeightRule_MOST fun _ => .int _) (sim_cons (by first | with_reducible exact (sim_c fun _ => .int _) | with_reducible exact sim_cval T.cv_WeightRule_MOST fun _ => .int _) (sim_cons (by first | with_reducible exact (sim_c fun _ => .int _) | with_reducible exact sim_cval T.cv_WeightRule_MOST fun _ => .int _) (sim_cons (sim_un simU_neg (by first | with_reducible exact (sim_c fun _ => .int _) | with_reducible exact sim_cval T.cv_WeightRule_MOST fun _ => .int _)) (sim_cons (by first | with_reducible exact (sim_c fun _ => .int _) | with_reducible exact sim_cval T.cv_WeightRule_MOST fun _ => .int _) (sim_cons (sim_op simR_sub (sim_draw draw_sp (sim_cons sim_var (sim_cons (by first | with_reducible exact (sim_c fun _ => .int _) | with_reducible exact sim_cval T.cv_WeightRule_MOST fun _ => .int _) sim_nil))) (by first | with_reducible exact (sim_c fun _ => .int _) | with_reducible exact sim_cval T.cv_WeightRule_MOST fun _ => .int _)) sim_nil))))))) sim_nil))) sim_gN) (sim_seq (sim_asg (sim_if (by (first | with_reducible refine sim_b ?_ | with_reducible refine sim_test ?_); exact (sim_op simR_ge (sim_op simR_add sim_var sim_var) (sim_op simR_mul (by first | with_reducible exact (sim_c fun _ => .int _) | with_reducible exact sim_cval T.cv_WeightRule_MOST fun _ => .int _) sim_var))) sim_var (sim_op simR_sub (sim_op simR_mul (by first | with_reducible exact (sim_c fun _ => .int _) | with_reducible exact sim_cval T.cv_WeightRule_MOST fun _ => .int _) sim_var) sim_var)) sim_gN) (sim_seq (sim_asg (sim_op simR_add (by first | with_reducible exact (sim_c fun _ => .int _) | with_reducible exact sim_cval T.cv_WeightRule_MOST fun _ => .int _) (sim_draw draw_sp (sim_cons sim_var (sim_cons (by first | with_reducible exact (sim_c fun _ => .int _) | with_reducible exact sim_cval T.cv_WeightRule_MOST fun _ => .int _) sim_nil)))) sim_gN) (sim_ret (sim_tup (sim_cons sim_var (sim_cons sim_var (sim_cons sim_var (sim_cons (sim_op simR_add sim_var (sim_draw draw_sp (sim_cons sim_var (sim_cons (by first | with_reducible exact (sim_c fun _ => .int _) | with_reducible exact sim_cval T.cv_WeightRule_MOST fun _ => .int _) sim_nil)))) (sim_cons sim_var (sim_cons (sim_call (by first | exact hl3 | exact hl2 | exact hl | exact link0 (by first | exact hW | rfl)) (fun _ => .nil) (sim_cons sim_var (sim_cons (sim_lst (sim_cons (by first | with_reducible exact (sim_c fun _ => .int _) | with_reducible exact sim_cval T.cv_WeightRule_MOST fun _ => .int _) (sim_cons (by first | with_reducible exact (sim_c fun _ => .int _) | with_reducible exact sim_cval T.cv_WeightRule_MOST fun _ => .int _) (sim_cons (sim_un simU_neg (by first | with_reducible exact (sim_c fun _ => .int _) | with_reducible exact sim_cval T.cv_WeightRule_MOST fun _ => .int _)) (sim_cons (by first | with_reducible exact (sim_c fun _ => .int _) | with_reducible exact sim_cval T.cv_WeightRule_MOST fun _ => .int _) (sim_cons (sim_un simU_neg sim_var) (sim_cons (sim_op simR_sub (sim_draw draw_sp (sim_cons sim_var (sim_cons (by first | with_reducible exact (sim_c fun _ => .int _) | with_reducible exact sim_cval T.cv_WeightRule_MOST fun _ => .int _) sim_nil))) (by first | with_reducible exact (sim_c fun _ => .int _) | with_reducible exact sim_cval T.cv_WeightRule_MOST fun _ => .int _)) sim_nil))))))) sim_nil))) sim_nil)))))))))))))
end
end K31
set_option hygiene false
namespace K31
open PySem L2 Pu
theorem sc_is_integer : FnScope ["value"] ["value"] (C8.fnScope (top 8)) := C8.fnScope_by (by decide +kernel)
def b_is_integer : MS := (mRet (mAndV (mIsiT "int" (mVar 0)) (mNotV (mIsiT "bool" (mVar 0)))))
def m_is_integer : List PV → M PV := mFnX 1 b_is_integer
theorem run_is_integer {a0 : PV} {W : XP} {n : Nat} {Q : PV → Nat → Prop} (h : b_is_integer (fun _ => W) { nx := fun _ n' => Q .non n', rt := Q } [.val a0] n) : m_is_integer [a0] W n Q := h
section
variable {P : Program} {w : World} {K : PySem.W.Frag} {mg : Str → Option Value} {base : Heap} {cm : Pu.Md} {C_Rule : Addr} {C_WeightRule : Addr} {C_TurnRule : Addr} {C_TryRule : Addr} {X_BadRule : Addr} {X_NoHalves : Addr} {X_BadNumber : Addr} {X_BadOther : Addr} {X_BadText : Addr} {X_FairError : Addr}
theorem ok_is_integer {f : Addr} {fd : FuncData} (F : Ev.Fn K "is_integer" "is_integer" (top 8) f fd) (T : Tx K mg cm C_Rule C_WeightRule C_TurnRule C_TryRule X_BadRule X_NoHalves X_BadNumber X_BadOther X_BadText X_FairError) : Ev.GOk P w K mg base (L2.CX P w) 1 f fd ["value"] (spP K cm 1 m_is_integer) := by
  refine qfnX (by decide) F sc_is_integer fun cdv A outer s H E hcode hgd hr => ?_
  have hu : _ + 64 < cLine := hr.units
  refine ⟨_, (pss_one (ps_ret (pe_and (pe_callB call_isi (by rfl) T.m_isinstance (by decide +kernel) (pa_cons (pv 0) (pa_cons (pe_bltn (v := .ty "int") (u := .type "int") (by rfl) T.m_int (by decide +kernel) rfl) pa_nil))) (pe_one (pe_not (pe_callB call_isi (by rfl) T.m_isinstance (by decide +kernel) (pa_cons (pv 0) (pa_cons (pe_bltn (v := .ty "bool") (u := .type "bool") (by rfl) T.m_bool (by decide +kernel) rfl) pa_nil)))))))), fun z hK hcm hW hl => ?_⟩
  subst hK hcm
  unfold b_is_integer
  walk_at "ev s0"
  with_reducible exact (sim_ret (sim_andV (sim_isiT (by decide) T.kt sim_var) (sim_notV (sim_isiT (by decide) T.kt sim_var))))
end
end K31
set_option hygiene false
namespace K31
open PySem L2 Pu
theorem sc_is_within : FnScope ["value", "least", "most"] ["value", "least", "most"] (C8.fnScope (top 9)) := C8.fnScope_by (by decide +kernel)
def b_is_within : MS := (mRet (mAndV (mCall 1 m_is_integer [] (mCons (mVar 0) mNil)) (mChain pLe pLe (mVar 1) (mVar 0) (mVar 2))))
def m_is_within : List PV → M PV := mFnX 3 b_is_within
theorem run_is_within {a0 a1 a2 : PV} {W : XP} {n : Nat} {Q : PV → Nat → Prop} (h : b_is_within (fun _ => W) { nx := fun _ n' => Q .non n', rt := Q } [.val a0, .val a1, .val a2] n) : m_is_within [a0, a1, a2] W n Q := h
section
variable {P : Program} {w : World} {K : PySem.W.Frag} {mg : Str → Option Value} {base : Heap} {cm : Pu.Md} {C_Rule : Addr} {C_WeightRule : Addr} {C_TurnRule : Addr} {C_TryRule : Addr} {X_BadRule : Addr} {X_NoHalves : Addr} {X_BadNumber : Addr} {X_BadOther : Addr} {X_BadText : Addr} {X_FairError : Addr}
theorem ok_is_within {f : Addr} {fd : FuncData} (F : Ev.Fn K "is_within" "is_within" (top 9) f fd) (T : Tx K mg cm C_Rule C_WeightRule C_TurnRule C_TryRule X_BadRule X_NoHalves X_BadNumber X_BadOther X_BadText X_FairError) (c_is_integer : Ev.GC P w K mg base 1 "is_integer" (spP K cm 1 m_is_integer) []) : Ev.GOk P w K mg base (L2.CX P w) 2 f fd ["value", "least", "most"] (spP K cm 3 m_is_within) := by
  refine qfnX (by decide) F sc_is_within fun cdv A outer s H E hcode hgd hr => ?_
  have hu : _ + 64 < cLine := hr.units
  refine ⟨_, (pss_one (ps_ret (pe_and (Ev.pe_cE c_is_integer hgd hr (by decide) (Ev.passE (takes_of rfl rfl rfl rfl)) (by rfl) (pa_cons (pv 0) pa_nil)) (pe_one (pe_chain op_le op_le (pv 1) (pv 0) (pv 2)))))), fun z hK hcm hW hl => ?_⟩
  subst hK hcm
  unfold b_is_within
  walk_at "ev s0"
  with_reducible exact (sim_ret (sim_andV (sim_call (by first | exact hl3 | exact hl2 | exact hl | exact link0 (by first | exact hW | rfl)) (fun _ => .nil) (sim_cons sim_var sim_nil)) (sim_chain simR_le simR_le sim_var sim_var sim_var)))
end
end K31
set_option hygiene false
namespace K31
open PySem L2 Pu
theorem sc_is_times : FnScope ["value", "most", "each"] ["value", "most"] (C8.fnScope (top 15)) := C8.fnScope_by (by decide +kernel)
def b_is_times : MS := (mRet (mAndV (mIsiT "tuple" (mVar 0)) (mAndV (mOp pEq (mCB pLen (mCons (mVar 0) mNil)) (mC (.int 2))) (mCB pAll (mCons (mLc (mTupI (mVar 0)) (mgN 2) mYes (mCall 3 m_is_within [] (mCons (mVar 2) (mCons (mC (.int 1)) (mCons (mVar 1) mNil)))) [2]) mNil)))))
def m_is_times : List PV → M PV := mFnX 3 b_is_times
theorem run_is_times {a0 a1 : PV} {W : XP} {n : Nat} {Q : PV → Nat → Prop} (h : b_is_times (fun _ => W) { nx := fun _ n' => Q .non n', rt := Q } [.val a0, .val a1, .no] n) : m_is_times [a0, a1] W n Q := h
section
variable {P : Program} {w : World} {K : PySem.W.Frag} {mg : Str → Option Value} {base : Heap} {cm : Pu.Md} {C_Rule : Addr} {C_WeightRule : Addr} {C_TurnRule : Addr} {C_TryRule : Addr} {X_BadRule : Addr} {X_NoHalves : Addr} {X_BadNumber : Addr} {X_BadOther : Addr} {X_BadText : Addr} {X_FairError : Addr}
theorem ok_is_times {f : Addr} {fd : FuncData} (F : Ev.Fn K "is_times" "is_times" (top 15) f fd) (T : Tx K mg cm C_Rule C_WeightRule C_TurnRule C_TryRule X_BadRule X_NoHalves X_BadNumber X_BadOther X_BadText X_FairError) (c_is_within : Ev.GC P w K mg base 2 "is_within" (spP K cm 3 m_is_within) []) : Ev.GOk P w K mg base (L2.CX P w) 3 f fd ["value", "most"] (spP K cm 2 m_is_times) := by
  refine qfnX (by decide) F sc_is_times fun cdv A outer s H E hcode hgd hr => ?_
  have hu : _ + 64 < cLine := hr.units
  refine ⟨_, (pss_one (ps_ret (pe_and (pe_callB call_isi (by rfl) T.m_isinstance (by decide +kernel) (pa_cons (pv 0) (pa_cons (pe_bltn (v := .ty "tuple") (u := .type "tuple") (by rfl) T.m_tuple (by decide +kernel) rfl) pa_nil))) (pe_and (pe_cmpR op_eq (pe_callB call_len_seq (by rfl) T.m_len (by decide +kernel) (pa_cons (pv 0) pa_nil)) pe_int (nomark _)) (pe_one (pe_callB (cr_all rfl) (by rfl) T.m_all (by decide +kernel) (pa_cons (pe_lc (own := [("each", 2)]) (g := gName 2) rfl sc_is_times.nd (pi_tup (pv 0)) (blkOk_by (N := ["value", "most", "each"]) (sc := (C8.fnScope (top 15))) (by decide +kernel)) (fun _ _ _ _ _ => (pg_name (i := 2) sc_is_times.nd rfl (.inl rfl))) (fun _ _ _ _ _ => pts_nil) (fun _ _ _ _ _ => (Ev.pe_cE c_is_within hgd hr (by decide) passL (by rfl) (pa_cons (pv 2) (pa_cons pe_int (pa_cons (pv 1) pa_nil)))))) pa_nil))))))), fun z hK hcm hW hl => ?_⟩
  subst hK hcm
  unfold b_is_times
  walk_at "ev s0"
  with_reducible exact (sim_ret (sim_andV (sim_isiT (by decide) T.kt sim_var) (sim_andV (sim_op simR_eq (sim_cb simC_len (sim_cons sim_var sim_nil)) (by first | with_reducible exact (sim_c fun _ => .int _) | with_reducible exact sim_cval T.cv_WeightRule_MOST fun _ => .int _)) (sim_cb simC_all (sim_cons (sim_lc (sim_iTup sim_var) sim_gN (gw_name (by decide)) sim_yes (sim_call (by first | exact hl3 | exact hl2 | exact hl | exact link0 (by first | exact hW | rfl)) (fun _ => .nil) (sim_cons sim_var (sim_cons (by first | with_reducible exact (sim_c fun _ => .int _) | with_reducible exact sim_cval T.cv_WeightRule_MOST fun _ => .int _) (sim_cons sim_var sim_nil))))) sim_nil)))))
end
end K31
namespace K31
open PySem L2 Pu
theorem sc_BadRule_init : FnScope ["self", "part"] ["self", "part"] (C8.fnScope (inClass (top 2) 0)) := C8.fnScope_by (by decide +kernel)
section
variable {P : Program} {w : World} {K : PySem.W.Frag} {mg : Str → Option Value} {base : Heap} {cm : Pu.Md} {C_Rule : Addr} {C_WeightRule : Addr} {C_TurnRule : Addr} {C_TryRule : Addr} {X_BadRule : Addr} {X_NoHalves : Addr} {X_BadNumber : Addr} {X_BadOther : Addr} {X_BadText : Addr} {X_FairError : Addr}
theorem ok_BadRule_init {f : Addr} {fd : FuncData} (F : Ev.Fn K "__init__" "BadRule.__init__" (inClass (top 2) 0) f fd) : FnOk P w K mg base (L2.CX P w) 1 f fd ["self", "part"] (Ev.spX1 K "part") := by
  obtain ⟨oc, od, dV, kV, doc, pm, an, cdv, ct, osl, rfl, lk, hcd⟩ := F.ex
  refine fn_of (N := ["self", "part"]) lk hcd sc_BadRule_init (fun vs H Q E h => by obtain ⟨a, C, y, rfl, _⟩ := h; rfl) fun A outer s H vs Q E hr h => ?_
  obtain ⟨a, C, y, rfl, T, h1, ha, k⟩ := h
  refine ⟨_, pss_one (ps_ost (pv 0) (pv 1)), ?_⟩
  exact ⟨y, rfl, .ref a, rfl, a, C, rfl, T, h1, .inl ⟨ha, fun dx n1 n2 => k dx n1 n2⟩⟩
end
end K31
set_option hygiene false
namespace K31
open PySem L2 Pu
theorem sc_need_plus : FnScope ["value", "part"] ["value", "part"] (C8.fnScope (top 16)) := C8.fnScope_by (by decide +kernel)
def b_need_plus : MS := (mIfS (mNot (mB (mCall 3 m_is_within [] (mCons (mVar 0) (mCons (mUn pNeg (mC (.int 6))) (mCons (mC (.int 6)) mNil))))))
  (mRai1 "BadRule" "part" (mCons (mVar 1) mNil))
  mNext)
def m_need_plus : List PV → M PV := mFnX 2 b_need_plus
theorem run_need_plus {a0 a1 : PV} {W : XP} {n : Nat} {Q : PV → Nat → Prop} (h : b_need_plus (fun _ => W) { nx := fun _ n' => Q .non n', rt := Q } [.val a0, .val a1] n) : m_need_plus [a0, a1] W n Q := h
section
variable {P : Program} {w : World} {K : PySem.W.Frag} {mg : Str → Option Value} {base : Heap} {cm : Pu.Md} {C_Rule : Addr} {C_WeightRule : Addr} {C_TurnRule : Addr} {C_TryRule : Addr} {X_BadRule : Addr} {X_NoHalves : Addr} {X_BadNumber : Addr} {X_BadOther : Addr} {X_BadText : Addr} {X_FairError : Addr}
theorem ok_need_plus {f : Addr} {fd : FuncData} (F : Ev.Fn K "need_plus" "need_plus" (top 16) f fd) (T : Tx K mg cm C_Rule C_WeightRule C_TurnRule C_TryRule X_BadRule X_NoHalves X_BadNumber X_BadOther X_BadText X_FairError) (c_is_within : Ev.GC P w K mg base 2 "is_within" (spP K cm 3 m_is_within) []) (xc_BadRule : Ev.XC P w K mg base "BadRule" X_BadRule (Ev.spX1 K "part") 1) : Ev.GOk P w K mg base (L2.CX P w) 3 f fd ["value", "part"] (spP K cm 2 m_need_plus) := by
  refine qfnX (by decide) F sc_need_plus fun cdv A outer s H E hcode hgd hr => ?_
  have hu : _ + 64 < cLine := hr.units
  obtain ⟨_, hk_MOST_PLUS⟩ := T.k_MOST_PLUS
  refine ⟨_, (pss_one (ps_if (pt_not (pt_val (Ev.pe_cE c_is_within hgd hr (by decide) (Ev.passE (takes_of rfl rfl rfl rfl)) (by rfl) (pa_cons (pv 0) (pa_cons (pe_un un_neg (pe_glob (by rfl) hk_MOST_PLUS Ev.rel_int)) (pa_cons (pe_glob (by rfl) hk_MOST_PLUS Ev.rel_int) pa_nil))))))
    (pss_one (Ev.ps_rai xc_BadRule rfl (takes_of rfl rfl rfl rfl) (hr.mono (by decide)) (by rfl) (pa_cons (pv 1) pa_nil)))
    pss_nil)), fun z hK hcm hW hl => ?_⟩
  subst hK hcm
  unfold b_need_plus
  walk_at "ev s0"
  with_reducible exact (sim_ifS (sim_not (by (first | with_reducible refine sim_b ?_ | with_reducible refine sim_test ?_); exact (sim_call (by first | exact hl3 | exact hl2 | exact hl | exact link0 (by first | exact hW | rfl)) (fun _ => .nil) (sim_cons sim_var (sim_cons (sim_un simU_neg (by first | with_reducible exact (sim_c fun _ => .int _) | with_reducible exact sim_cval T.cv_WeightRule_MOST fun _ => .int _)) (sim_cons (by first | with_reducible exact (sim_c fun _ => .int _) | with_reducible exact sim_cval T.cv_WeightRule_MOST fun _ => .int _) sim_nil)))))) (sim_rai1 (by first | exact hl3 | exact hl2 | exact hl | exact link0 (by first | exact hW | rfl)) T.cx_BadRule T.oe_BadRule (T.xn_part _ _ T.cx_BadRule) (sim_cons sim_var sim_nil)) sim_next)
end
end K31
set_option hygiene false
namespace K31
open PySem L2 Pu
theorem sc_WeightRule_need_numbers : FnScope ["times", "plus"] ["times", "plus"] (C8.fnScope (inClass (top 18) 2)) := C8.fnScope_by (by decide +kernel)
def b_WeightRule_need_numbers : MS := (mSeq (mIfS (mOr (mNot (mB (mCall 2 m_is_times [] (mCons (mVar 0) (mCons (mC (.int 6)) mNil))))) (mB (mOp pGt (mOp pIxT (mVar 0) (mC (.int 1))) (mOp pIxT (mVar 0) (mC (.int 0))))))
  (mRai1 "BadRule" "part" (mCons (mC (.str "times")) mNil))
  mNext)
  (mDrop (mCall 2 m_need_plus [] (mCons (mVar 1) (mCons (mC (.str "plus")) mNil)))))
def m_WeightRule_need_numbers : List PV → M PV := mFnX 2 b_WeightRule_need_numbers
theorem run_WeightRule_need_numbers {a0 a1 : PV} {W : XP} {n : Nat} {Q : PV → Nat → Prop} (h : b_WeightRule_need_numbers (fun _ => W) { nx := fun _ n' => Q .non n', rt := Q } [.val a0, .val a1] n) : m_WeightRule_need_numbers [a0, a1] W n Q := h
section
variable {P : Program} {w : World} {K : PySem.W.Frag} {mg : Str → Option Value} {base : Heap} {cm : Pu.Md} {C_Rule : Addr} {C_WeightRule : Addr} {C_TurnRule : Addr} {C_TryRule : Addr} {X_BadRule : Addr} {X_NoHalves : Addr} {X_BadNumber : Addr} {X_BadOther : Addr} {X_BadText : Addr} {X_FairError : Addr}
theorem ok_WeightRule_need_numbers {f : Addr} {fd : FuncData} (F : Ev.Fn K "need_numbers" "WeightRule.need_numbers" (inClass (top 18) 2) f fd) (T : Tx K mg cm C_Rule C_WeightRule C_TurnRule C_TryRule X_BadRule X_NoHalves X_BadNumber X_BadOther X_BadText X_FairError) (c_is_times : Ev.GC P w K mg base 3 "is_times" (spP K cm 2 m_is_times) []) (xc_BadRule : Ev.XC P w K mg base "BadRule" X_BadRule (Ev.spX1 K "part") 1) (c_need_plus : Ev.GC P w K mg base 3 "need_plus" (spP K cm 2 m_need_plus) []) : Ev.GOk P w K mg base (L2.CX P w) 4 f fd ["times", "plus"] (spP K cm 2 m_WeightRule_need_numbers) := by
  refine qfnX (by decide) F sc_WeightRule_need_numbers fun cdv A outer s H E hcode hgd hr => ?_
  have hu : _ + 64 < cLine := hr.units
  refine ⟨_, (pss_cons (ps_if (pw_or (pt_not (pt_val (Ev.pe_cE c_is_times hgd hr (by decide) (Ev.passE (takes_of rfl rfl rfl rfl)) (by rfl) (pa_cons (pv 0) (pa_cons (ClX.pe_cval (pe_glob (by rfl) T.g_WeightRule Ev.rel_ref)) pa_nil))))) (pw_or1 (pt_cmpR op_gt (pe_ix ix_tup (pv 0) pe_int (fun _ _ => rfl)) (pe_ix ix_tup (pv 0) pe_int (fun _ _ => rfl)) (nomark _)))).pt
    (pss_one (Ev.ps_rai xc_BadRule rfl (takes_of rfl rfl rfl rfl) (hr.mono (by decide)) (by rfl) (pa_cons pe_str pa_nil)))
    pss_nil)
    (pss_one (ps_expr (Ev.pe_cE c_need_plus hgd hr (by decide) (Ev.passE (takes_of rfl rfl rfl rfl)) (by rfl) (pa_cons (pv 1) (pa_cons pe_str pa_nil)))))), fun z hK hcm hW hl => ?_⟩
  subst hK hcm
  unfold b_WeightRule_need_numbers
  walk_at "ev s0"
  with_reducible exact (sim_seq (sim_ifS (sim_or (sim_not (by (first | with_reducible refine sim_b ?_ | with_reducible refine sim_test ?_); exact (sim_call (by first | exact hl3 | exact hl2 | exact hl | exact link0 (by first | exact hW | rfl)) (fun _ => .nil) (sim_cons sim_var (sim_cons (by first | with_reducible exact (sim_c fun _ => .int _) | with_reducible exact sim_cval T.cv_WeightRule_MOST fun _ => .int _) sim_nil))))) (by (first | with_reducible refine sim_b ?_ | with_reducible refine sim_test ?_); exact (sim_op simR_gt (sim_op simR_ixT sim_var (by first | with_reducible exact (sim_c fun _ => .int _) | with_reducible exact sim_cval T.cv_WeightRule_MOST fun _ => .int _)) (sim_op simR_ixT sim_var (by first | with_reducible exact (sim_c fun _ => .int _) | with_reducible exact sim_cval T.cv_WeightRule_MOST fun _ => .int _))))) (sim_rai1 (by first | exact hl3 | exact hl2 | exact hl | exact link0 (by first | exact hW | rfl)) T.cx_BadRule T.oe_BadRule (T.xn_part _ _ T.cx_BadRule) (sim_cons (by first | with_reducible exact (sim_c fun _ => .str _) | with_reducible exact sim_cval T.cv_WeightRule_MOST fun _ => .int _) sim_nil)) sim_next) (sim_drop (sim_call (by first | exact hl3 | exact hl2 | exact hl | exact link0 (by first | exact hW | rfl)) (fun _ => .nil) (sim_cons sim_var (sim_cons (by first | with_reducible exact (sim_c fun _ => .str _) | with_reducible exact sim_cval T.cv_WeightRule_MOST fun _ => .int _) sim_nil)))))
end
end K31
set_option hygiene false
namespace K31
open PySem L2 Pu
theorem sc_WeightRule_beside : FnScope ["self", "weight"] ["self", "weight"] (C8.fnScope (inClass (top 18) 4)) := C8.fnScope_by (by decide +kernel)
def b_WeightRule_beside : MS := (mRet (mOp pDiv (mOp pAdd (mOp pMul (mOp pIxT (mFld "times" (mVar 0)) (mC (.int 0))) (mVar 1)) (mFld "plus" (mVar 0))) (mOp pIxT (mFld "times" (mVar 0)) (mC (.int 1)))))
def m_WeightRule_beside : List PV → M PV := mFnX 2 b_WeightRule_beside
theorem run_WeightRule_beside {a0 a1 : PV} {W : XP} {n : Nat} {Q : PV → Nat → Prop} (h : b_WeightRule_beside (fun _ => W) { nx := fun _ n' => Q .non n', rt := Q } [.val a0, .val a1] n) : m_WeightRule_beside [a0, a1] W n Q := h
section
variable {P : Program} {w : World} {K : PySem.W.Frag} {mg : Str → Option Value} {base : Heap} {cm : Pu.Md} {C_Rule : Addr} {C_WeightRule : Addr} {C_TurnRule : Addr} {C_TryRule : Addr} {X_BadRule : Addr} {X_NoHalves : Addr} {X_BadNumber : Addr} {X_BadOther : Addr} {X_BadText : Addr} {X_FairError : Addr}
theorem ok_WeightRule_beside {f : Addr} {fd : FuncData} (F : Ev.Fn K "beside" "WeightRule.beside" (inClass (top 18) 4) f fd) (T : Tx K mg cm C_Rule C_WeightRule C_TurnRule C_TryRule X_BadRule X_NoHalves X_BadNumber X_BadOther X_BadText X_FairError) : Ev.GOk P w K mg base (L2.CX P w) 1 f fd ["self", "weight"] (spP K cm 2 m_WeightRule_beside) := by
  refine qfnX (by decide) F sc_WeightRule_beside fun cdv A outer s H E hcode hgd hr => ?_
  have hu : _ + 64 < cLine := hr.units
  refine ⟨_, (pss_one (ps_ret (pe_op op_fdivW (pe_op op_add (pe_op op_mulW (pe_ix ix_tup (pe_fld (pv 0) rfl) pe_int (fun _ _ => rfl)) (pv 1)) (pe_fld (pv 0) rfl)) (pe_ix ix_tup (pe_fld (pv 0) rfl) pe_int (fun _ _ => rfl))))), fun z hK hcm hW hl => ?_⟩
  subst hK hcm
  unfold b_WeightRule_beside
  walk_at "ev s0"
  with_reducible exact (sim_ret (sim_op simR_div (sim_op simR_add (sim_op simR_mul (sim_op simR_ixT (sim_fld T.na_times sim_var) (by first | with_reducible exact (sim_c fun _ => .int _) | with_reducible exact sim_cval T.cv_WeightRule_MOST fun _ => .int _)) sim_var) (sim_fld T.na_plus sim_var)) (sim_op simR_ixT (sim_fld T.na_times sim_var) (by first | with_reducible exact (sim_c fun _ => .int _) | with_reducible exact sim_cval T.cv_WeightRule_MOST fun _ => .int _))))
end
end K31
namespace K31
open PySem L2 Pu
theorem sc_NoHalves_init : FnScope ["self", "weight"] ["self", "weight"] (C8.fnScope (inClass (top 3) 0)) := C8.fnScope_by (by decide +kernel)
section
variable {P : Program} {w : World} {K : PySem.W.Frag} {mg : Str → Option Value} {base : Heap} {cm : Pu.Md} {C_Rule : Addr} {C_WeightRule : Addr} {C_TurnRule : Addr} {C_TryRule : Addr} {X_BadRule : Addr} {X_NoHalves : Addr} {X_BadNumber : Addr} {X_BadOther : Addr} {X_BadText : Addr} {X_FairError : Addr}
theorem ok_NoHalves_init {f : Addr} {fd : FuncData} (F : Ev.Fn K "__init__" "NoHalves.__init__" (inClass (top 3) 0) f fd) : FnOk P w K mg base (L2.CX P w) 1 f fd ["self", "weight"] (Ev.spX1 K "weight") := by
  obtain ⟨oc, od, dV, kV, doc, pm, an, cdv, ct, osl, rfl, lk, hcd⟩ := F.ex
  refine fn_of (N := ["self", "weight"]) lk hcd sc_NoHalves_init (fun vs H Q E h => by obtain ⟨a, C, y, rfl, _⟩ := h; rfl) fun A outer s H vs Q E hr h => ?_
  obtain ⟨a, C, y, rfl, T, h1, ha, k⟩ := h
  refine ⟨_, pss_one (ps_ost (pv 0) (pv 1)), ?_⟩
  exact ⟨y, rfl, .ref a, rfl, a, C, rfl, T, h1, .inl ⟨ha, fun dx n1 n2 => k dx n1 n2⟩⟩
end
end K31
set_option hygiene false
namespace K31
open PySem L2 Pu
theorem sc_WeightRule_init : FnScope ["self", "times", "plus"] ["self", "times", "plus"] (C8.fnScope (inClass (top 18) 1)) := C8.fnScope_by (by decide +kernel)
def b_WeightRule_init : MS := (mSeq (mDrop (mStatO ["TurnRule", "TryRule"] "need_numbers" 2 m_WeightRule_need_numbers 0 (mCons (mVar 1) (mCons (mVar 2) mNil))))
  (mSeq (mStore 0 "times" (mVar 1))
  (mSeq (mStore 0 "plus" (mVar 2))
  (mSeq (mIfS (mB (mOp pLt (mMethOD [("TurnRule", m_WeightRule_beside), ("TryRule", m_WeightRule_beside)] "beside" 2 0 (mCons (mC (.int 1)) mNil)) (mC (.int 1))))
  (mRai1 "NoHalves" "weight" (mCons (mC (.int 2)) mNil))
  mNext)
  (mIfS (mB (mOp pLt (mMethOD [("TurnRule", m_WeightRule_beside), ("TryRule", m_WeightRule_beside)] "beside" 2 0 (mCons (mC (.int 1)) mNil)) (mC (.int 2))))
  (mRai1 "NoHalves" "weight" (mCons (mC (.int 3)) mNil))
  mNext)))))
def m_WeightRule_init : Str → List (Str × PV) → List PV → M (List (Str × PV)) := mInitX 3 b_WeightRule_init
theorem run_WeightRule_init {c : Str} {fs : List (Str × PV)} {a1 a2 : PV} {W : XP} {n : Nat} {Q : List (Str × PV) → Nat → Prop} (h : b_WeightRule_init (fun _ => W) { nx := initEnd Q, rt := fun _ _ => False } [.obj c fs, .val a1, .val a2] n) : m_WeightRule_init c fs [a1, a2] W n Q := h
section
variable {P : Program} {w : World} {K : PySem.W.Frag} {mg : Str → Option Value} {base : Heap} {cm : Pu.Md} {C_Rule : Addr} {C_WeightRule : Addr} {C_TurnRule : Addr} {C_TryRule : Addr} {X_BadRule : Addr} {X_NoHalves : Addr} {X_BadNumber : Addr} {X_BadOther : Addr} {X_BadText : Addr} {X_FairError : Addr}
theorem ok_WeightRule_init {f : Addr} {fd : FuncData} (F : Ev.Fn K "__init__" "WeightRule.__init__" (inClass (top 18) 1) f fd) (T : Tx K mg cm C_Rule C_WeightRule C_TurnRule C_TryRule X_BadRule X_NoHalves X_BadNumber X_BadOther X_BadText X_FairError) (c_sneed_numbers_TurnRule_TryRule : ∀ C, (C = C_TurnRule ∨ C = C_TryRule) → Ev.GS P w K mg base 4 C "need_numbers" (spP K cm 2 m_WeightRule_need_numbers) []) (c_pbeside_TurnRule_TryRule : ∀ C sp, ((C = C_TurnRule ∧ sp = spP K cm 2 m_WeightRule_beside) ∨ (C = C_TryRule ∧ sp = spP K cm 2 m_WeightRule_beside)) → Ev.GM P w K mg base 1 C "beside" sp []) (xc_NoHalves : Ev.XC P w K mg base "NoHalves" X_NoHalves (Ev.spX1 K "weight") 1) : Ev.GOk P w K mg base (L2.CX P w) 5 f fd ["self", "times", "plus"] (spI K cm 3 m_WeightRule_init) := by
  refine qinitX (by decide) F sc_WeightRule_init fun cdv A outer s H E hcode hgd hr => ?_
  have hu : _ + 64 < cLine := hr.units
  refine ⟨_, (pss_cons (ps_expr (Ev.pe_sD (D := fun C => C = C_TurnRule ∨ C = C_TryRule) c_sneed_numbers_TurnRule_TryRule hgd hr (by decide) (Ev.passE (takes_of rfl rfl rfl rfl)) (pv 0) (pa_cons (pv 1) (pa_cons (pv 2) pa_nil))))
    (pss_cons (ps_fld (pv 0) (pv 1) rfl)
    (pss_cons (ps_fld (pv 0) (pv 2) rfl)
    (pss_cons (ps_if (pt_cmpR op_lt (Ev.pe_mD (D := fun C sp => (C = C_TurnRule ∧ sp = spP K cm 2 m_WeightRule_beside) ∨ (C = C_TryRule ∧ sp = spP K cm 2 m_WeightRule_beside)) c_pbeside_TurnRule_TryRule hgd hr (by decide) (Ev.passE (takes_of rfl rfl rfl rfl)) (pv 0) (pa_cons pe_int pa_nil)) pe_int (nomark _))
    (pss_one (Ev.ps_rai xc_NoHalves rfl (takes_of rfl rfl rfl rfl) (hr.mono (by decide)) (by rfl) (pa_cons pe_int pa_nil)))
    pss_nil)
    (pss_one (ps_if (pt_cmpR op_lt (Ev.pe_mD (D := fun C sp => (C = C_TurnRule ∧ sp = spP K cm 2 m_WeightRule_beside) ∨ (C = C_TryRule ∧ sp = spP K cm 2 m_WeightRule_beside)) c_pbeside_TurnRule_TryRule hgd hr (by decide) (Ev.passE (takes_of rfl rfl rfl rfl)) (pv 0) (pa_cons pe_int pa_nil)) pe_int (nomark _))
    (pss_one (Ev.ps_rai xc_NoHalves rfl (takes_of rfl rfl rfl rfl) (hr.mono (by decide)) (by rfl) (pa_cons pe_int pa_nil)))
    pss_nil)))))), fun z hK hcm hW hl => ?_⟩
  subst hK hcm
  unfold b_WeightRule_init
  walk_at "ev s0"
  with_reducible exact (sim_seq (sim_drop (sim_statO (by first | exact hl3 | exact hl2 | exact hl | exact link0 (by first | exact hW | rfl)) (by (intro c C h1 h2; simp only [List.contains_cons, List.contains_nil, Bool.or_false, Bool.or_eq_true, beq_iff_eq] at h1; (repeat' (refine Or.elim h1 ?_ ?_ <;> clear h1 <;> intro h1)); all_goals (subst h1; simp only [T.cm_Rule, T.cm_WeightRule, T.cm_TurnRule, T.cm_TryRule, Option.some.injEq] at h2; subst h2; simp))) (sim_cons sim_var (sim_cons sim_var sim_nil)))) (sim_seq (sim_store T.na_times sim_var) (sim_seq (sim_store T.na_plus sim_var) (sim_seq (sim_ifS (by (first | with_reducible refine sim_b ?_ | with_reducible refine sim_test ?_); exact (sim_op simR_lt (sim_methOD (by (intro c m C h1 h2; replace h1 := lk_mem h1; simp only [List.mem_cons, Prod.mk.injEq, List.not_mem_nil, or_false] at h1; (repeat' (refine Or.elim h1 ?_ ?_ <;> clear h1 <;> intro h1)); all_goals (obtain ⟨rfl, rfl⟩ := h1; (simp only [T.cm_Rule, T.cm_WeightRule, T.cm_TurnRule, T.cm_TryRule, Option.some.injEq] at h2; subst h2; simp)))) (sim_cons (by first | with_reducible exact (sim_c fun _ => .int _) | with_reducible exact sim_cval T.cv_WeightRule_MOST fun _ => .int _) sim_nil)) (by first | with_reducible exact (sim_c fun _ => .int _) | with_reducible exact sim_cval T.cv_WeightRule_MOST fun _ => .int _))) (sim_rai1 (by first | exact hl3 | exact hl2 | exact hl | exact link0 (by first | exact hW | rfl)) T.cx_NoHalves T.oe_NoHalves (T.xn_weight _ _ T.cx_NoHalves) (sim_cons (by first | with_reducible exact (sim_c fun _ => .int _) | with_reducible exact sim_cval T.cv_WeightRule_MOST fun _ => .int _) sim_nil)) sim_next) (sim_ifS (by (first | with_reducible refine sim_b ?_ | with_reducible refine sim_test ?_); exact (sim_op simR_lt (sim_methOD (by (intro c m C h1 h2; replace h1 := lk_mem h1; simp only [List.mem_cons, Prod.mk.injEq, List.not_mem_nil, or_false] at h1; (repeat' (refine Or.elim h1 ?_ ?_ <;> clear h1 <;> intro h1)); all_goals (obtain ⟨rfl, rfl⟩ := h1; (simp only [T.cm_Rule, T.cm_WeightRule, T.cm_TurnRule, T.cm_TryRule, Option.some.injEq] at h2; subst h2; simp)))) (sim_cons (by first | with_reducible exact (sim_c fun _ => .int _) | with_reducible exact sim_cval T.cv_WeightRule_MOST fun _ => .int _) sim_nil)) (by first | with_reducible exact (sim_c fun _ => .int _) | with_reducible exact sim_cval T.cv_WeightRule_MOST fun _ => .int _))) (sim_rai1 (by first | exact hl3 | exact hl2 | exact hl | exact link0 (by first | exact hW | rfl)) T.cx_NoHalves T.oe_NoHalves (T.xn_weight _ _ T.cx_NoHalves) (sim_cons (by first | with_reducible exact (sim_c fun _ => .int _) | with_reducible exact sim_cval T.cv_WeightRule_MOST fun _ => .int _) sim_nil)) sim_next)))))
end
end K31
set_option hygiene false
set_option hygiene false
local macro_rules | `(tactic| walk_at "ev sim") => `(tactic| ((try dsimp only [Cx.nox, Cx.wish, Cx.blk, Cx.tr, cxOf, Ev.cxS, Ev.gvX, List.map, List.length, Nat.reduceAdd]); (repeat' (first | with_reducible exact sim_var | with_reducible exact sim_next | with_reducible exact sim_never | with_reducible exact sim_retN | with_reducible exact sim_nil | with_reducible exact sim_break | with_reducible exact sim_cont | with_reducible exact sim_yes | with_reducible exact sim_c fun _ => .int _ | with_reducible exact sim_c fun _ => .str _ | with_reducible exact sim_c fun _ => .bl _ | with_reducible exact sim_c fun _ => .non | with_reducible refine sim_seq ?_ ?_ | with_reducible refine sim_freeze ?_ | with_reducible refine sim_ifS ?_ ?_ ?_ | with_reducible refine sim_setOwn ?_ | with_reducible refine sim_ownList ?_ | with_reducible refine sim_setIx ?_ ?_ | with_reducible refine sim_asg ?_ ?_ | with_reducible exact sim_gN | with_reducible refine sim_ret ?_ | with_reducible refine sim_app ?_ | with_reducible refine sim_drop ?_ | with_reducible refine sim_parOwn ?_ ?_ | with_reducible refine sim_parOwn2 ?_ ?_ | with_reducible refine sim_parOwn3 ?_ ?_ ?_ | with_reducible refine sim_par ?_ | with_reducible refine sim_par3 ?_ | with_reducible refine sim_aug ?_ ?_ | with_reducible refine sim_for ?_ ?_ ?_ | with_reducible refine sim_while ?_ ?_ | with_reducible refine sim_gT ?_ | with_reducible refine sim_gCons ?_ ?_ | with_reducible exact sim_gNil | with_reducible refine sim_join ?_ ?_ | with_reducible refine sim_split ?_ ?_ | with_reducible exact simR_inSign | with_reducible exact simR_notInSign | with_reducible exact simR_in | with_reducible refine sim_star ?_ ?_ | with_reducible refine sim_cons ?_ ?_ | with_reducible refine sim_op ?_ ?_ ?_ | with_reducible refine sim_un ?_ ?_ | with_reducible refine sim_tup ?_ | with_reducible refine sim_lst ?_ | with_reducible refine sim_b ?_ | with_reducible refine sim_test ?_ | with_reducible refine sim_and ?_ ?_ | with_reducible refine sim_or ?_ ?_ | with_reducible refine sim_not ?_ | with_reducible refine sim_andV ?_ ?_ | with_reducible refine sim_orV ?_ ?_ | with_reducible refine sim_notV ?_ | with_reducible refine sim_if ?_ ?_ ?_ | with_reducible refine sim_chain ?_ ?_ ?_ ?_ ?_ | with_reducible refine sim_peekN ?_ ?_ | with_reducible refine sim_peekTN ?_ ?_ | (exact hA _ _ _ hl2) | (with_reducible refine sim_rai1 (by first | exact hl3 | exact hl2 | exact hl | exact link0 (by first | exact hW | rfl)) T.cx_BadRule T.oe_BadRule (T.xn_part _ _ T.cx_BadRule) ?_) | (with_reducible refine sim_rai1 (by first | exact hl3 | exact hl2 | exact hl | exact link0 (by first | exact hW | rfl)) T.cx_NoHalves T.oe_NoHalves (T.xn_weight _ _ T.cx_NoHalves) ?_) | (with_reducible refine sim_rai1 (by first | exact hl3 | exact hl2 | exact hl | exact link0 (by first | exact hW | rfl)) T.cx_BadNumber T.oe_BadNumber (T.xn_value _ _ T.cx_BadNumber) ?_) | (with_reducible refine sim_rai1 (by first | exact hl3 | exact hl2 | exact hl | exact link0 (by first | exact hW | rfl)) T.cx_BadOther T.oe_BadOther (T.xn_part _ _ T.cx_BadOther) ?_) | (with_reducible refine sim_xfld T.xx T.xn_part ?_) | (with_reducible refine sim_xfld T.xx T.xn_value ?_) | (with_reducible refine sim_xfld T.xx T.xn_weight ?_) | with_reducible exact sim_dnew | with_reducible refine sim_disp ?_ | with_reducible refine sim_dispP ?_ | with_reducible refine sim_pair1 ?_ ?_ | with_reducible exact sim_pnil | with_reducible refine sim_pconsI ?_ ?_ | with_reducible refine sim_pconsS ?_ ?_ | with_reducible exact simC_reprD | with_reducible refine sim_instD (by first | exact hl3 | exact hl2 | exact hl | exact link0 (by first | exact hW | rfl)) (by (intro c m C h1 h2; replace h1 := lk_mem h1; simp only [List.mem_cons, Prod.mk.injEq, List.not_mem_nil, or_false] at h1; (repeat' (refine Or.elim h1 ?_ ?_ <;> clear h1 <;> intro h1)); all_goals (obtain ⟨rfl, rfl⟩ := h1; (simp only [T.cm_Rule, T.cm_WeightRule, T.cm_TurnRule, T.cm_TryRule, Option.some.injEq] at h2; subst h2; simp)))) ?_ ?_ | with_reducible refine sim_instDK (by first | exact hl3 | exact hl2 | exact hl | exact link0 (by first | exact hW | rfl)) (by (intro c m C h1 h2; replace h1 := lk_mem h1; simp only [List.mem_cons, Prod.mk.injEq, List.not_mem_nil, or_false] at h1; (repeat' (refine Or.elim h1 ?_ ?_ <;> clear h1 <;> intro h1)); all_goals (obtain ⟨rfl, rfl⟩ := h1; (simp only [T.cm_Rule, T.cm_WeightRule, T.cm_TurnRule, T.cm_TryRule, Option.some.injEq] at h2; subst h2; simp)))) (pkS_rep (fun _ => by repeat (first | exact .nil | refine .cons (by first | exact .int _ | exact .non | exact .bl _ | exact .str _) ?_)) (fun _ => by repeat (first | exact .nil | refine .cons (by first | exact .int _ | exact .non | exact .bl _ | exact .str _) ?_))) ?_ ?_ | with_reducible exact simR_isB | with_reducible exact simR_notB | with_reducible exact simR_mulS | with_reducible exact simC_intS | with_reducible refine sim_joined ?_ | with_reducible refine sim_fmt ?_ | with_reducible refine SJ.cons ?_ ?_ | with_reducible exact SJ.nil | with_reducible refine sim_lc ?_ ?_ ?_ ?_ ?_ | with_reducible exact gw_name (by decide) | with_reducible refine gw_tup ?_ | with_reducible refine gw_cons ?_ ?_ | with_reducible exact gw_nil | with_reducible refine sim_iList ?_ | with_reducible refine sim_iTup ?_ | with_reducible refine sim_iRng1 ?_ | with_reducible refine sim_iRng2 ?_ | with_reducible refine sim_iZip ?_ | with_reducible refine sim_iStr ?_ | with_reducible refine sim_iEnum ?_ | with_reducible refine sim_draw draw_sp ?_ | with_reducible refine sim_call (by first | exact hl3 | exact hl2 | exact hl | exact link0 (by first | exact hW | rfl)) (fun _ => .nil) ?_ | with_reducible refine sim_callK (by first | exact hl3 | exact hl2 | exact hl | exact link0 (by first | exact hW | rfl)) (pk_rep (fun _ => by repeat (first | exact .nil | refine .cons (by first | exact .int _ | exact .non | exact .bl _ | exact .str _) ?_)) (fun _ => by repeat (first | exact .nil | refine .cons (by first | exact .int _ | exact .non | exact .bl _ | exact .str _) ?_))) ?_ ?_ | with_reducible refine sim_meth (by first | exact hl3 | exact hl2 | exact hl | exact link0 (by first | exact hW | rfl)) (by first | exact T.cm_Rule | exact T.cm_WeightRule | exact T.cm_TurnRule | exact T.cm_TryRule) (fun _ => .nil) ?_ ?_ | with_reducible refine sim_methO (by first | exact T.cm_Rule | exact T.cm_WeightRule | exact T.cm_TurnRule | exact T.cm_TryRule) (fun _ => .nil) ?_ | with_reducible refine sim_make (by first | exact hl3 | exact hl2 | exact hl | exact link0 (by first | exact hW | rfl)) (by first | exact T.cm_Rule | exact T.cm_WeightRule | exact T.cm_TurnRule | exact T.cm_TryRule) (pkS_rep (fun _ => by repeat (first | exact .nil | refine .cons (by first | exact .int _ | exact .non | exact .bl _ | exact .str _) ?_)) (fun _ => by repeat (first | exact .nil | refine .cons (by first | exact .int _ | exact .non | exact .bl _ | exact .str _) ?_))) ?_ ?_ | with_reducible refine sim_makeV (by first | exact hl3 | exact hl2 | exact hl | exact link0 (by first | exact hW | rfl)) (by first | exact T.cm_Rule | exact T.cm_WeightRule | exact T.cm_TurnRule | exact T.cm_TryRule) (pkS_rep (fun _ => by repeat (first | exact .nil | refine .cons (by first | exact .int _ | exact .non | exact .bl _ | exact .str _) ?_)) (fun _ => by repeat (first | exact .nil | refine .cons (by first | exact .int _ | exact .non | exact .bl _ | exact .str _) ?_))) ?_ ?_ | with_reducible refine sim_cc (by first | exact hl3 | exact hl2 | exact hl | exact link0 (by first | exact hW | rfl)) (pkS_rep (fun _ => by repeat (first | exact .nil | refine .cons (by first | exact .int _ | exact .non | exact .bl _ | exact .str _) ?_)) (fun _ => by repeat (first | exact .nil | refine .cons (by first | exact .int _ | exact .non | exact .bl _ | exact .str _) ?_))) ?_ ?_ | with_reducible refine sim_rev ?_ | with_reducible refine sim_isiT (by decide) T.kt ?_ | with_reducible refine sim_isiT2 (by decide) (by decide) T.kt ?_  | with_reducible refine sim_isiC T.cm_Rule T.ks_Rule ?_ | with_reducible refine sim_isiC T.cm_WeightRule T.ks_WeightRule ?_ | with_reducible refine sim_isiC T.cm_TurnRule T.ks_TurnRule ?_ | with_reducible refine sim_isiC T.cm_TryRule T.ks_TryRule ?_ | with_reducible refine sim_cb ?_ ?_ | with_reducible refine sim_fld T.na_turn ?_ | with_reducible exact sim_fldO T.na_turn | with_reducible refine sim_store T.na_turn ?_ | with_reducible refine sim_fld T.na_turn_plus ?_ | with_reducible exact sim_fldO T.na_turn_plus | with_reducible refine sim_store T.na_turn_plus ?_ | with_reducible refine sim_fld T.na_times ?_ | with_reducible exact sim_fldO T.na_times | with_reducible refine sim_store T.na_times ?_ | with_reducible refine sim_fld T.na_plus ?_ | with_reducible exact sim_fldO T.na_plus | with_reducible refine sim_store T.na_plus ?_ | with_reducible exact sim_cval T.cv_WeightRule_MOST fun _ => .int _ | with_reducible refine sim_sl ?_ ?_ ?_ ?_ | with_reducible exact sim_noPart | with_reducible refine sim_part ?_ | with_reducible exact simS_slT | with_reducible exact simS_slL | with_reducible exact simS_slS | with_reducible refine sim_lrg1 ?_ | with_reducible refine sim_lrg2 ?_ ?_ | with_reducible refine sim_statO (by first | exact hl3 | exact hl2 | exact hl | exact link0 (by first | exact hW | rfl)) (by (intro c C h1 h2; simp only [List.contains_cons, List.contains_nil, Bool.or_false, Bool.or_eq_true, beq_iff_eq] at h1; (repeat' (refine Or.elim h1 ?_ ?_ <;> clear h1 <;> intro h1)); all_goals (subst h1; simp only [T.cm_Rule, T.cm_WeightRule, T.cm_TurnRule, T.cm_TryRule, Option.some.injEq] at h2; subst h2; simp))) ?_ | with_reducible refine sim_stat (by first | exact hl3 | exact hl2 | exact hl | exact link0 (by first | exact hW | rfl)) (by (intro c C h1 h2; simp only [List.contains_cons, List.contains_nil, Bool.or_false, Bool.or_eq_true, beq_iff_eq] at h1; (repeat' (refine Or.elim h1 ?_ ?_ <;> clear h1 <;> intro h1)); all_goals (subst h1; simp only [T.cm_Rule, T.cm_WeightRule, T.cm_TurnRule, T.cm_TryRule, Option.some.injEq] at h2; subst h2; simp))) ?_ ?_ | with_reducible refine sim_methOD (by (intro c m C h1 h2; replace h1 := lk_mem h1; simp only [List.mem_cons, Prod.mk.injEq, List.not_mem_nil, or_false] at h1; (repeat' (refine Or.elim h1 ?_ ?_ <;> clear h1 <;> intro h1)); all_goals (obtain ⟨rfl, rfl⟩ := h1; (simp only [T.cm_Rule, T.cm_WeightRule, T.cm_TurnRule, T.cm_TryRule, Option.some.injEq] at h2; subst h2; simp)))) ?_ | with_reducible refine sim_methDK (by first | exact hl3 | exact hl2 | exact hl | exact link0 (by first | exact hW | rfl)) (by (intro c m C h1 h2; replace h1 := lk_mem h1; simp only [List.mem_cons, Prod.mk.injEq, List.not_mem_nil, or_false] at h1; (repeat' (refine Or.elim h1 ?_ ?_ <;> clear h1 <;> intro h1)); all_goals (obtain ⟨rfl, rfl⟩ := h1; (simp only [T.cm_Rule, T.cm_WeightRule, T.cm_TurnRule, T.cm_TryRule, Option.some.injEq] at h2; subst h2; simp)))) (pkS_rep (fun _ => by repeat (first | exact .nil | refine .cons (by first | exact .int _ | exact .non | exact .bl _ | exact .str _) ?_)) (fun _ => by repeat (first | exact .nil | refine .cons (by first | exact .int _ | exact .non | exact .bl _ | exact .str _) ?_))) ?_ ?_ | with_reducible exact simR_add | with_reducible exact simR_sub | with_reducible exact simR_mul | with_reducible exact simR_div | with_reducible exact simR_mod | with_reducible exact simR_pow | with_reducible exact simR_lt | with_reducible exact simR_le | with_reducible exact simR_gt | with_reducible exact simR_ge | with_reducible exact simR_ipadd | with_reducible exact simR_ipsub | with_reducible exact simR_eq | with_reducible exact simR_ne | with_reducible exact simR_isN | with_reducible exact simR_notN | with_reducible exact simU_neg | with_reducible exact simR_eqD | with_reducible exact simR_neD | with_reducible exact simR_ixA | with_reducible exact simR_ixU | with_reducible exact simR_ixL | with_reducible exact simR_ixT | with_reducible exact simR_ixS | with_reducible exact simR_catT | with_reducible exact simR_catL | with_reducible exact simR_catS | with_reducible exact simR_repL | with_reducible exact simR_repT | with_reducible exact simC_repr | with_reducible exact simC_len | with_reducible exact simC_lenU | with_reducible exact simC_lenS | with_reducible exact simC_abs | with_reducible exact simC_max2 | with_reducible exact simC_min2 | with_reducible exact simC_int1 | with_reducible exact simC_bool1 | with_reducible exact simC_str1 | with_reducible exact simC_sum | with_reducible exact simC_sumT | with_reducible exact simC_maxL | with_reducible exact simC_minL | with_reducible exact simC_all | with_reducible exact simC_any | with_reducible exact simC_tuple | with_reducible exact simC_list | with_reducible refine simC_1 ?_ | with_reducible refine simU_own1 (by first | exact hl3 | exact hl2 | exact hl | exact link0 (by first | exact hW | rfl)) (by first | exact T.cm_Rule | exact T.cm_WeightRule | exact T.cm_TurnRule | exact T.cm_TryRule) (fun _ _ _ => isB_of) | with_reducible refine simU_own1 (by first | exact hl3 | exact hl2 | exact hl | exact link0 (by first | exact hW | rfl)) (by first | exact T.cm_Rule | exact T.cm_WeightRule | exact T.cm_TurnRule | exact T.cm_TryRule) (fun _ _ _ => isS_of) | with_reducible refine simU_own1 (by first | exact hl3 | exact hl2 | exact hl | exact link0 (by first | exact hW | rfl)) (by first | exact T.cm_Rule | exact T.cm_WeightRule | exact T.cm_TurnRule | exact T.cm_TryRule) (fun _ _ _ => isLen_of) | with_reducible exact simR_eqLI (by (intro c m C h1 h2; replace h1 := lk_mem h1; simp only [List.mem_cons, Prod.mk.injEq, List.not_mem_nil, or_false] at h1; (repeat' (refine Or.elim h1 ?_ ?_ <;> clear h1 <;> intro h1)); all_goals (obtain ⟨rfl, rfl⟩ := h1; (simp only [T.cm_Rule, T.cm_WeightRule, T.cm_TurnRule, T.cm_TryRule, Option.some.injEq] at h2; subst h2; simp)))) (by (intro c C m d D h1 h2 h3; replace h1 := lk_mem h1; simp only [List.mem_cons, Prod.mk.injEq, List.not_mem_nil, or_false] at h1; (repeat' (refine Or.elim h1 ?_ ?_ <;> clear h1 <;> intro h1)); all_goals (obtain ⟨rfl, rfl⟩ := h1; (simp only [T.cm_Rule, T.cm_WeightRule, T.cm_TurnRule, T.cm_TryRule, Option.some.injEq] at h2; subst h2; first | exact T.nf_TurnRule _ _ h3 | exact T.nf_TryRule _ _ h3)))) | with_reducible exact simR_neLI (by (intro c m C h1 h2; replace h1 := lk_mem h1; simp only [List.mem_cons, Prod.mk.injEq, List.not_mem_nil, or_false] at h1; (repeat' (refine Or.elim h1 ?_ ?_ <;> clear h1 <;> intro h1)); all_goals (obtain ⟨rfl, rfl⟩ := h1; (simp only [T.cm_Rule, T.cm_WeightRule, T.cm_TurnRule, T.cm_TryRule, Option.some.injEq] at h2; subst h2; simp)))) (by (intro c C m d D h1 h2 h3; replace h1 := lk_mem h1; simp only [List.mem_cons, Prod.mk.injEq, List.not_mem_nil, or_false] at h1; (repeat' (refine Or.elim h1 ?_ ?_ <;> clear h1 <;> intro h1)); all_goals (obtain ⟨rfl, rfl⟩ := h1; (simp only [T.cm_Rule, T.cm_WeightRule, T.cm_TurnRule, T.cm_TryRule, Option.some.injEq] at h2; subst h2; first | exact T.nf_TurnRule _ _ h3 | exact T.nf_TryRule _ _ h3)))) | with_reducible exact simR_ownCD (by first | exact hl3 | exact hl2 | exact hl | exact link0 (by first | exact hW | rfl)) (by (intro c m C h1 h2; replace h1 := lk_mem h1; simp only [List.mem_cons, Prod.mk.injEq, List.not_mem_nil, or_false] at h1; (repeat' (refine Or.elim h1 ?_ ?_ <;> clear h1 <;> intro h1)); all_goals (obtain ⟨rfl, rfl⟩ := h1; (simp only [T.cm_Rule, T.cm_WeightRule, T.cm_TurnRule, T.cm_TryRule, Option.some.injEq] at h2; subst h2; simp)))) (by (intro c C m d D h1 h2 h3; replace h1 := lk_mem h1; simp only [List.mem_cons, Prod.mk.injEq, List.not_mem_nil, or_false] at h1; (repeat' (refine Or.elim h1 ?_ ?_ <;> clear h1 <;> intro h1)); all_goals (obtain ⟨rfl, rfl⟩ := h1; (simp only [T.cm_Rule, T.cm_WeightRule, T.cm_TurnRule, T.cm_TryRule, Option.some.injEq] at h2; subst h2; first | exact T.nf_TurnRule _ _ h3 | exact T.nf_TryRule _ _ h3)))) | with_reducible exact simU_own1D (by first | exact hl3 | exact hl2 | exact hl | exact link0 (by first | exact hW | rfl)) (by (intro c m C h1 h2; replace h1 := lk_mem h1; simp only [List.mem_cons, Prod.mk.injEq, List.not_mem_nil, or_false] at h1; (repeat' (refine Or.elim h1 ?_ ?_ <;> clear h1 <;> intro h1)); all_goals (obtain ⟨rfl, rfl⟩ := h1; (simp only [T.cm_Rule, T.cm_WeightRule, T.cm_TurnRule, T.cm_TryRule, Option.some.injEq] at h2; subst h2; simp)))) (fun _ _ _ => isB_of) | with_reducible exact simU_own1D (by first | exact hl3 | exact hl2 | exact hl | exact link0 (by first | exact hW | rfl)) (by (intro c m C h1 h2; replace h1 := lk_mem h1; simp only [List.mem_cons, Prod.mk.injEq, List.not_mem_nil, or_false] at h1; (repeat' (refine Or.elim h1 ?_ ?_ <;> clear h1 <;> intro h1)); all_goals (obtain ⟨rfl, rfl⟩ := h1; (simp only [T.cm_Rule, T.cm_WeightRule, T.cm_TurnRule, T.cm_TryRule, Option.some.injEq] at h2; subst h2; simp)))) (fun _ _ _ => isS_of) | with_reducible refine sim_methD (by first | exact hl3 | exact hl2 | exact hl | exact link0 (by first | exact hW | rfl)) (by (intro c m C h1 h2; replace h1 := lk_mem h1; simp only [List.mem_cons, Prod.mk.injEq, List.not_mem_nil, or_false] at h1; (repeat' (refine Or.elim h1 ?_ ?_ <;> clear h1 <;> intro h1)); all_goals (obtain ⟨rfl, rfl⟩ := h1; (simp only [T.cm_Rule, T.cm_WeightRule, T.cm_TurnRule, T.cm_TryRule, Option.some.injEq] at h2; subst h2; simp)))) (fun _ => .nil) ?_ ?_  | with_reducible exact simR_ownC (by first | exact hl3 | exact hl2 | exact hl | exact link0 (by first | exact hW | rfl)) T.cm_TurnRule T.nf_TurnRule | with_reducible exact simR_ownC (by first | exact hl3 | exact hl2 | exact hl | exact link0 (by first | exact hW | rfl)) T.cm_TryRule T.nf_TryRule))))
namespace K31
open PySem L2 Pu
theorem sc_TurnRule_init : Ev.ScS ["self", "times", "plus", "turn", "turn_plus"] ["self", "times", "plus", "turn", "turn_plus"] (C8.fnScope (inClass (top 19) 0)) := ⟨by decide +kernel, by decide +kernel, by decide +kernel, by decide +kernel, by decide +kernel, by decide +kernel, by decide +kernel, by decide +kernel, by decide +kernel, by decide +kernel⟩
def b1_TurnRule_init : MS := (mSeq (mDrop (mStatO ["TurnRule"] "need_numbers" 2 m_WeightRule_need_numbers 0 (mCons (mVar 1) (mCons (mVar 2) mNil))))
  (mSeq (mIfS (mNot (mB (mCall 2 m_is_times [] (mCons (mVar 3) (mCons (mC (.int 8)) mNil)))))
  (mRai1 "BadRule" "part" (mCons (mC (.str "turn")) mNil))
  mNext)
  (mDrop (mCall 2 m_need_plus [] (mCons (mVar 4) (mCons (mC (.str "turn_plus")) mNil))))))
def ba_TurnRule_init : PEnv → M (List PV) := (mCons (mVar 1) (mCons (mVar 2) mNil))
def b2_TurnRule_init : MS := (mSeq (mStore 0 "turn" (mVar 3))
  (mStore 0 "turn_plus" (mVar 4)))
def b_TurnRule_init : MS := mSeq b1_TurnRule_init (mSeq (mSup "TurnRule" 3 m_WeightRule_init ba_TurnRule_init) b2_TurnRule_init)
def m_TurnRule_init : Str → List (Str × PV) → List PV → M (List (Str × PV)) := mInitX 5 b_TurnRule_init
theorem run_TurnRule_init {c : Str} {fs : List (Str × PV)} {a1 a2 a3 a4 : PV} {W : XP} {n : Nat} {Q : List (Str × PV) → Nat → Prop} (h : b_TurnRule_init (fun _ => W) { nx := initEnd Q, rt := fun _ _ => False } [.obj c fs, .val a1, .val a2, .val a3, .val a4] n) : m_TurnRule_init c fs [a1, a2, a3, a4] W n Q := h
section
variable {P : Program} {w : World} {K : PySem.W.Frag} {mg : Str → Option Value} {base : Heap} {cm : Pu.Md} {C_Rule : Addr} {C_WeightRule : Addr} {C_TurnRule : Addr} {C_TryRule : Addr} {X_BadRule : Addr} {X_NoHalves : Addr} {X_BadNumber : Addr} {X_BadOther : Addr} {X_BadText : Addr} {X_FairError : Addr}
theorem ok_TurnRule_init {f cc f2 : Addr} {fd fd2 : FuncData} {ps2 : List Str} (F : Ev.FnS P K "__init__" "TurnRule.__init__" (inClass (top 19) 0) f cc C_TurnRule fd) (SP : Ev.Sup P K mg C_TurnRule "__init__" f2) (F2 : Ev.GOk P w K mg base (L2.CX P w) 5 f2 fd2 ps2 (spI K cm 3 m_WeightRule_init)) (hb2 : Binds K fd2 ps2 []) (T : Tx K mg cm C_Rule C_WeightRule C_TurnRule C_TryRule X_BadRule X_NoHalves X_BadNumber X_BadOther X_BadText X_FairError) (c_sneed_numbers_TurnRule : ∀ C, (C = C_TurnRule) → Ev.GS P w K mg base 4 C "need_numbers" (spP K cm 2 m_WeightRule_need_numbers) []) (c_is_times : Ev.GC P w K mg base 3 "is_times" (spP K cm 2 m_is_times) []) (xc_BadRule : Ev.XC P w K mg base "BadRule" X_BadRule (Ev.spX1 K "part") 1) (c_need_plus : Ev.GC P w K mg base 3 "need_plus" (spP K cm 2 m_need_plus) []) : Ev.GOk P w K mg base (L2.CX P w) 6 f fd ["self", "times", "plus", "turn", "turn_plus"] (spI K cm 5 m_TurnRule_init) := by
  refine qinitSX (N := ["self", "times", "plus", "turn", "turn_plus"]) (ps := ["self", "times", "plus", "turn", "turn_plus"]) (b1 := b1_TurnRule_init) (b2 := b2_TurnRule_init) (ma := ba_TurnRule_init) (pre := (C8.fnBody (inClass (top 19) 0)).take 3) (post := (C8.fnBody (inClass (top 19) 0)).drop 4) (by decide) F sc_TurnRule_init SP T.cm_TurnRule rfl rfl (by decide +kernel) rfl F2 (by decide) hb2 (fun cda A outer s H E hgd hr => ?_) (fun _ => rfl) (fun _ => rfl) _ (fun _ => rfl)
  have hu : _ + 64 < cLine := hr.units
  obtain ⟨_, hk_MOST_TURN⟩ := T.k_MOST_TURN
  refine ⟨_, _, _, (pss_cons (ps_expr (Ev.pe_sD (D := fun C => C = C_TurnRule) c_sneed_numbers_TurnRule hgd hr (by decide) (Ev.passE (takes_of rfl rfl rfl rfl)) (pv 0) (pa_cons (pv 1) (pa_cons (pv 2) pa_nil))))
      (pss_cons (ps_if (pt_not (pt_val (Ev.pe_cE c_is_times hgd hr (by decide) (Ev.passE (takes_of rfl rfl rfl rfl)) (by rfl) (pa_cons (pv 3) (pa_cons (pe_glob (by rfl) hk_MOST_TURN Ev.rel_int) pa_nil)))))
      (pss_one (Ev.ps_rai xc_BadRule rfl (takes_of rfl rfl rfl rfl) (hr.mono (by decide)) (by rfl) (pa_cons pe_str pa_nil)))
      pss_nil)
      (pss_one (ps_expr (Ev.pe_cE c_need_plus hgd hr (by decide) (Ev.passE (takes_of rfl rfl rfl rfl)) (by rfl) (pa_cons (pv 4) (pa_cons pe_str pa_nil))))))),
    (pa_cons (pv 1) (pa_cons (pv 2) pa_nil)),
    (pss_cons (ps_fld (pv 0) (pv 3) rfl)
      (pss_one (ps_fld (pv 0) (pv 4) rfl))), fun z hK hcm hW hl => ?_⟩
  subst hK hcm
  refine ⟨?_, ?_, ?_⟩
  · unfold b1_TurnRule_init
    walk_at "ev s0"
    with_reducible exact (sim_seq (sim_drop (sim_statO (by first | exact hl3 | exact hl2 | exact hl | exact link0 (by first | exact hW | rfl)) (by (intro c C h1 h2; simp only [List.contains_cons, List.contains_nil, Bool.or_false, Bool.or_eq_true, beq_iff_eq] at h1; (repeat' (refine Or.elim h1 ?_ ?_ <;> clear h1 <;> intro h1)); all_goals (subst h1; simp only [T.cm_Rule, T.cm_WeightRule, T.cm_TurnRule, T.cm_TryRule, Option.some.injEq] at h2; subst h2; simp))) (sim_cons sim_var (sim_cons sim_var sim_nil)))) (sim_seq (sim_ifS (sim_not (by (first | with_reducible refine sim_b ?_ | with_reducible refine sim_test ?_); exact (sim_call (by first | exact hl3 | exact hl2 | exact hl | exact link0 (by first | exact hW | rfl)) (fun _ => .nil) (sim_cons sim_var (sim_cons (by first | with_reducible exact (sim_c fun _ => .int _) | with_reducible exact sim_cval T.cv_WeightRule_MOST fun _ => .int _) sim_nil))))) (sim_rai1 (by first | exact hl3 | exact hl2 | exact hl | exact link0 (by first | exact hW | rfl)) T.cx_BadRule T.oe_BadRule (T.xn_part _ _ T.cx_BadRule) (sim_cons (by first | with_reducible exact (sim_c fun _ => .str _) | with_reducible exact sim_cval T.cv_WeightRule_MOST fun _ => .int _) sim_nil)) sim_next) (sim_drop (sim_call (by first | exact hl3 | exact hl2 | exact hl | exact link0 (by first | exact hW | rfl)) (fun _ => .nil) (sim_cons sim_var (sim_cons (by first | with_reducible exact (sim_c fun _ => .str _) | with_reducible exact sim_cval T.cv_WeightRule_MOST fun _ => .int _) sim_nil))))))
  · unfold ba_TurnRule_init
    walk_at "ev sim"
  · unfold b2_TurnRule_init
    walk_at "ev s0"
    with_reducible exact (sim_seq (sim_store T.na_turn sim_var) (sim_store T.na_turn_plus sim_var))
end
end K31
set_option hygiene false
set_option hygiene false
namespace K31
open PySem L2 Pu
theorem sc_TryRule_init : Ev.ScS ["self", "times", "plus"] ["self", "times", "plus"] (C8.fnScope (inClass (top 20) 0)) := ⟨by decide +kernel, by decide +kernel, by decide +kernel, by decide +kernel, by decide +kernel, by decide +kernel, by decide +kernel, by decide +kernel, by decide +kernel, by decide +kernel⟩
def b1_TryRule_init : MS := mNext
def ba_TryRule_init : PEnv → M (List PV) := (mCons (mVar 1) (mCons (mVar 2) mNil))
def b2_TryRule_init : MS := mNext
def b_TryRule_init : MS := mSeq b1_TryRule_init (mSeq (mSup "TryRule" 3 m_WeightRule_init ba_TryRule_init) b2_TryRule_init)
def m_TryRule_init : Str → List (Str × PV) → List PV → M (List (Str × PV)) := mInitX 3 b_TryRule_init
theorem run_TryRule_init {c : Str} {fs : List (Str × PV)} {a1 a2 : PV} {W : XP} {n : Nat} {Q : List (Str × PV) → Nat → Prop} (h : b_TryRule_init (fun _ => W) { nx := initEnd Q, rt := fun _ _ => False } [.obj c fs, .val a1, .val a2] n) : m_TryRule_init c fs [a1, a2] W n Q := h
section
variable {P : Program} {w : World} {K : PySem.W.Frag} {mg : Str → Option Value} {base : Heap} {cm : Pu.Md} {C_Rule : Addr} {C_WeightRule : Addr} {C_TurnRule : Addr} {C_TryRule : Addr} {X_BadRule : Addr} {X_NoHalves : Addr} {X_BadNumber : Addr} {X_BadOther : Addr} {X_BadText : Addr} {X_FairError : Addr}
theorem ok_TryRule_init {f cc f2 : Addr} {fd fd2 : FuncData} {ps2 : List Str} (F : Ev.FnS P K "__init__" "TryRule.__init__" (inClass (top 20) 0) f cc C_TryRule fd) (SP : Ev.Sup P K mg C_TryRule "__init__" f2) (F2 : Ev.GOk P w K mg base (L2.CX P w) 5 f2 fd2 ps2 (spI K cm 3 m_WeightRule_init)) (hb2 : Binds K fd2 ps2 []) (T : Tx K mg cm C_Rule C_WeightRule C_TurnRule C_TryRule X_BadRule X_NoHalves X_BadNumber X_BadOther X_BadText X_FairError) : Ev.GOk P w K mg base (L2.CX P w) 6 f fd ["self", "times", "plus"] (spI K cm 3 m_TryRule_init) := by
  refine qinitSX (N := ["self", "times", "plus"]) (ps := ["self", "times", "plus"]) (b1 := b1_TryRule_init) (b2 := b2_TryRule_init) (ma := ba_TryRule_init) (pre := (C8.fnBody (inClass (top 20) 0)).take 0) (post := (C8.fnBody (inClass (top 20) 0)).drop 1) (by decide) F sc_TryRule_init SP T.cm_TryRule rfl rfl (by decide +kernel) rfl F2 (by decide) hb2 (fun cda A outer s H E hgd hr => ?_) (fun _ => rfl) (fun _ => rfl) _ (fun _ => rfl)
  have hu : _ + 64 < cLine := hr.units
  refine ⟨_, _, _, pss_nil,
    (pa_cons (pv 1) (pa_cons (pv 2) pa_nil)),
    pss_nil, fun z hK hcm hW hl => ?_⟩
  subst hK hcm
  refine ⟨?_, ?_, ?_⟩
  · unfold b1_TryRule_init
    walk_at "ev s0"
    with_reducible exact sim_next
  · unfold ba_TryRule_init
    walk_at "ev sim"
  · unfold b2_TryRule_init
    walk_at "ev s0"
    with_reducible exact sim_next
end
end K31
set_option hygiene false
namespace K31
open PySem L2 Pu
theorem sc_law_rule : FnScope ["_law_some", "_law_is_turn", "_law_p", "_law_q", "_law_k", "_law_t", "_law_s", "_law_r"] ["_law_some", "_law_is_turn"] (C8.fnScope (top 51)) := C8.fnScope_by (by decide +kernel)
def b_law_rule : MS := (mSeq (mAsg (mVar 0) (mgT 6 (mgCons (mgN 2) (mgCons (mgN 3) (mgCons (mgN 4) (mgCons (mgN 5) (mgCons (mgN 6) (mgCons (mgN 7) mgNil))))))))
  (mRet (mIf (mB (mVar 1)) (mMake "TurnRule" 2 2 5 (pkP [.int 0] [] [(0, 0), (0, 1), (3, 0), (3, 1)]) m_TurnRule_init (mCons (mTup (mCons (mVar 2) (mCons (mVar 3) mNil))) (mCons (mVar 4) mNil)) (mCons (mTup (mCons (mVar 5) (mCons (mVar 6) mNil))) (mCons (mCB pMax2 (mCons (mUn pNeg (mC (.int 6))) (mCons (mCB pInt1 (mCons (mVar 7) mNil)) mNil))) mNil))) (mMake "TryRule" 2 0 3 (pkP [.int 0] [] [(0, 0), (0, 1)]) m_TryRule_init (mCons (mTup (mCons (mVar 2) (mCons (mVar 3) mNil))) (mCons (mVar 4) mNil)) mNil))))
def m_law_rule : List PV → M PV := mFnX 8 b_law_rule
theorem run_law_rule {a0 a1 : PV} {W : XP} {n : Nat} {Q : PV → Nat → Prop} (h : b_law_rule (fun _ => W) { nx := fun _ n' => Q .non n', rt := Q } [.val a0, .val a1, .no, .no, .no, .no, .no, .no] n) : m_law_rule [a0, a1] W n Q := h
section
variable {P : Program} {w : World} {K : PySem.W.Frag} {mg : Str → Option Value} {base : Heap} {cm : Pu.Md} {C_Rule : Addr} {C_WeightRule : Addr} {C_TurnRule : Addr} {C_TryRule : Addr} {X_BadRule : Addr} {X_NoHalves : Addr} {X_BadNumber : Addr} {X_BadOther : Addr} {X_BadText : Addr} {X_FairError : Addr}
theorem ok_law_rule {f : Addr} {fd : FuncData} (F : Ev.Fn K "_law_rule" "_law_rule" (top 51) f fd) (T : Tx K mg cm C_Rule C_WeightRule C_TurnRule C_TryRule X_BadRule X_NoHalves X_BadNumber X_BadOther X_BadText X_FairError) (c_mk_TurnRule_2_turn_turn_plus : Ev.GN P w K mg base 6 "TurnRule" C_TurnRule (spI K cm 5 m_TurnRule_init) 2 ["turn", "turn_plus"] (pkS [.int 0] [] [(0, 0), (0, 1), (3, 0), (3, 1)])) (c_mk_TryRule_2_ : Ev.GN P w K mg base 6 "TryRule" C_TryRule (spI K cm 3 m_TryRule_init) 2 [] (pkS [.int 0] [] [(0, 0), (0, 1)])) : Ev.GOk P w K mg base (L2.CX P w) 8 f fd ["_law_some", "_law_is_turn"] (spP K cm 2 m_law_rule) := by
  refine qfnX (by decide) F sc_law_rule fun cdv A outer s H E hcode hgd hr => ?_
  have hu : _ + 64 < cLine := hr.units
  refine ⟨_, (pss_cons (ps_asg (pv 0) (by exact (pg_tup (n := 6) rfl (pgs_cons (pg_name (i := 2) sc_law_rule.nd rfl (.inl rfl)) (pgs_cons (pg_name (i := 3) sc_law_rule.nd rfl (.inl rfl)) (pgs_cons (pg_name (i := 4) sc_law_rule.nd rfl (.inl rfl)) (pgs_cons (pg_name (i := 5) sc_law_rule.nd rfl (.inl rfl)) (pgs_cons (pg_name (i := 6) sc_law_rule.nd rfl (.inl rfl)) (pgs_cons (pg_name (i := 7) sc_law_rule.nd rfl (.inl rfl)) pgs_nil)))))))))
    (pss_one (ps_ret (pe_ifExp (pt_val (pv 1)) (Ev.pe_nE c_mk_TurnRule_2_turn_turn_plus hgd hr (by decide) (Ev.passE (takes_of rfl rfl rfl rfl)) (by rfl) (pa_cons (pe_tup (pa_cons (pv 2) (pa_cons (pv 3) pa_nil))) (pa_cons (pv 4) pa_nil)) (pk_cons (pe_tup (pa_cons (pv 5) (pa_cons (pv 6) pa_nil))) (pk_cons (pe_callB (call_max2 rfl) (by rfl) T.m_max (by decide +kernel) (pa_cons (pe_un un_neg pe_int) (pa_cons (pe_callTy call_int1 (by rfl) T.m_int (by decide +kernel) (pa_cons (pv 7) pa_nil)) pa_nil))) pk_nil))) (Ev.pe_nE c_mk_TryRule_2_ hgd hr (by decide) (Ev.passE (takes_of rfl rfl rfl rfl)) (by rfl) (pa_cons (pe_tup (pa_cons (pv 2) (pa_cons (pv 3) pa_nil))) (pa_cons (pv 4) pa_nil)) pk_nil))))), fun z hK hcm hW hl => ?_⟩
  subst hK hcm
  unfold b_law_rule
  walk_at "ev s0"
  with_reducible exact (sim_seq (sim_asg sim_var (sim_gT (sim_gCons sim_gN (sim_gCons sim_gN (sim_gCons sim_gN (sim_gCons sim_gN (sim_gCons sim_gN (sim_gCons sim_gN sim_gNil)))))))) (sim_ret (sim_if (by (first | with_reducible refine sim_b ?_ | with_reducible refine sim_test ?_); exact sim_var) (sim_make (by first | exact hl3 | exact hl2 | exact hl | exact link0 (by first | exact hW | rfl)) (by first | exact T.cm_Rule | exact T.cm_WeightRule | exact T.cm_TurnRule | exact T.cm_TryRule) (pkS_rep (fun _ => by repeat (first | exact .nil | refine .cons (by first | exact .int _ | exact .non | exact .bl _ | exact .str _) ?_)) (fun _ => by repeat (first | exact .nil | refine .cons (by first | exact .int _ | exact .non | exact .bl _ | exact .str _) ?_))) (sim_cons (sim_tup (sim_cons sim_var (sim_cons sim_var sim_nil))) (sim_cons sim_var sim_nil)) (sim_cons (sim_tup (sim_cons sim_var (sim_cons sim_var sim_nil))) (sim_cons (sim_cb simC_max2 (sim_cons (sim_un simU_neg (by first | with_reducible exact (sim_c fun _ => .int _) | with_reducible exact sim_cval T.cv_WeightRule_MOST fun _ => .int _)) (sim_cons (sim_cb simC_int1 (sim_cons sim_var sim_nil)) sim_nil))) sim_nil))) (sim_make (by first | exact hl3 | exact hl2 | exact hl | exact link0 (by first | exact hW | rfl)) (by first | exact T.cm_Rule | exact T.cm_WeightRule | exact T.cm_TurnRule | exact T.cm_TryRule) (pkS_rep (fun _ => by repeat (first | exact .nil | refine .cons (by first | exact .int _ | exact .non | exact .bl _ | exact .str _) ?_)) (fun _ => by repeat (first | exact .nil | refine .cons (by first | exact .int _ | exact .non | exact .bl _ | exact .str _) ?_))) (sim_cons (sim_tup (sim_cons sim_var (sim_cons sim_var sim_nil))) (sim_cons sim_var sim_nil)) sim_nil))))
end
end K31
namespace K31
open PySem L2 Pu
theorem sc_BadNumber_init : FnScope ["self", "value"] ["self", "value"] (C8.fnScope (inClass (top 4) 0)) := C8.fnScope_by (by decide +kernel)
section
variable {P : Program} {w : World} {K : PySem.W.Frag} {mg : Str → Option Value} {base : Heap} {cm : Pu.Md} {C_Rule : Addr} {C_WeightRule : Addr} {C_TurnRule : Addr} {C_TryRule : Addr} {X_BadRule : Addr} {X_NoHalves : Addr} {X_BadNumber : Addr} {X_BadOther : Addr} {X_BadText : Addr} {X_FairError : Addr}
theorem ok_BadNumber_init {f : Addr} {fd : FuncData} (F : Ev.Fn K "__init__" "BadNumber.__init__" (inClass (top 4) 0) f fd) : FnOk P w K mg base (L2.CX P w) 1 f fd ["self", "value"] (Ev.spX1 K "value") := by
  obtain ⟨oc, od, dV, kV, doc, pm, an, cdv, ct, osl, rfl, lk, hcd⟩ := F.ex
  refine fn_of (N := ["self", "value"]) lk hcd sc_BadNumber_init (fun vs H Q E h => by obtain ⟨a, C, y, rfl, _⟩ := h; rfl) fun A outer s H vs Q E hr h => ?_
  obtain ⟨a, C, y, rfl, T, h1, ha, k⟩ := h
  refine ⟨_, pss_one (ps_ost (pv 0) (pv 1)), ?_⟩
  exact ⟨y, rfl, .ref a, rfl, a, C, rfl, T, h1, .inl ⟨ha, fun dx n1 n2 => k dx n1 n2⟩⟩
end
end K31
set_option hygiene false
namespace K31
open PySem L2 Pu
theorem sc_need_number : FnScope ["value", "most"] ["value", "most"] (C8.fnScope (top 30)) := C8.fnScope_by (by decide +kernel)
def b_need_number : MS := (mIfS (mNot (mB (mCall 3 m_is_within [] (mCons (mVar 0) (mCons (mC (.int 0)) (mCons (mVar 1) mNil))))))
  (mRai1 "BadNumber" "value" (mCons (mVar 0) mNil))
  mNext)
def m_need_number : List PV → M PV := mFnX 2 b_need_number
theorem run_need_number {a0 a1 : PV} {W : XP} {n : Nat} {Q : PV → Nat → Prop} (h : b_need_number (fun _ => W) { nx := fun _ n' => Q .non n', rt := Q } [.val a0, .val a1] n) : m_need_number [a0, a1] W n Q := h
section
variable {P : Program} {w : World} {K : PySem.W.Frag} {mg : Str → Option Value} {base : Heap} {cm : Pu.Md} {C_Rule : Addr} {C_WeightRule : Addr} {C_TurnRule : Addr} {C_TryRule : Addr} {X_BadRule : Addr} {X_NoHalves : Addr} {X_BadNumber : Addr} {X_BadOther : Addr} {X_BadText : Addr} {X_FairError : Addr}
theorem ok_need_number {f : Addr} {fd : FuncData} (F : Ev.Fn K "need_number" "need_number" (top 30) f fd) (T : Tx K mg cm C_Rule C_WeightRule C_TurnRule C_TryRule X_BadRule X_NoHalves X_BadNumber X_BadOther X_BadText X_FairError) (c_is_within : Ev.GC P w K mg base 2 "is_within" (spP K cm 3 m_is_within) []) (xc_BadNumber : Ev.XC P w K mg base "BadNumber" X_BadNumber (Ev.spX1 K "value") 1) : Ev.GOk P w K mg base (L2.CX P w) 3 f fd ["value", "most"] (spP K cm 2 m_need_number) := by
  refine qfnX (by decide) F sc_need_number fun cdv A outer s H E hcode hgd hr => ?_
  have hu : _ + 64 < cLine := hr.units
  refine ⟨_, (pss_one (ps_if (pt_not (pt_val (Ev.pe_cE c_is_within hgd hr (by decide) (Ev.passE (takes_of rfl rfl rfl rfl)) (by rfl) (pa_cons (pv 0) (pa_cons pe_int (pa_cons (pv 1) pa_nil))))))
    (pss_one (Ev.ps_rai xc_BadNumber rfl (takes_of rfl rfl rfl rfl) (hr.mono (by decide)) (by rfl) (pa_cons (pv 0) pa_nil)))
    pss_nil)), fun z hK hcm hW hl => ?_⟩
  subst hK hcm
  unfold b_need_number
  walk_at "ev s0"
  with_reducible exact (sim_ifS (sim_not (by (first | with_reducible refine sim_b ?_ | with_reducible refine sim_test ?_); exact (sim_call (by first | exact hl3 | exact hl2 | exact hl | exact link0 (by first | exact hW | rfl)) (fun _ => .nil) (sim_cons sim_var (sim_cons (by first | with_reducible exact (sim_c fun _ => .int _) | with_reducible exact sim_cval T.cv_WeightRule_MOST fun _ => .int _) (sim_cons sim_var sim_nil)))))) (sim_rai1 (by first | exact hl3 | exact hl2 | exact hl | exact link0 (by first | exact hW | rfl)) T.cx_BadNumber T.oe_BadNumber (T.xn_value _ _ T.cx_BadNumber) (sim_cons sim_var sim_nil)) sim_next)
end
end K31
set_option hygiene false
namespace K31
open PySem L2 Pu
theorem sc_halves_of : FnScope ["keys"] ["keys"] (C8.fnScope (top 35)) := C8.fnScope_by (by decide +kernel)
def b_halves_of : (List PV → M PV) → MS := fun rr => (mRet (mIf (mB (mOp pEq (mVar 0) (mC (.int 0)))) (mTup mNil) (mTup (mCons (mCall 1 rr [] (mCons (mOp pDiv (mVar 0) (mC (.int 2))) mNil)) (mCons (mCall 1 rr [] (mCons (mOp pDiv (mOp pSub (mVar 0) (mC (.int 1))) (mC (.int 2))) mNil)) mNil)))))
def mr_halves_of : Nat → List PV → M PV
  | 0 => fun _ _ _ _ => False
  | d + 1 => mFnX 1 (b_halves_of (mr_halves_of d))
def m_halves_of : List PV → M PV := mr_halves_of 14
theorem run_halves_of {d : Nat} {a0 : PV} {W : XP} {n : Nat} {Q : PV → Nat → Prop} (h : b_halves_of (mr_halves_of d) (fun _ => W) { nx := fun _ n' => Q .non n', rt := Q } [.val a0] n) : mr_halves_of (d + 1) [a0] W n Q := h
section
variable {P : Program} {w : World} {K : PySem.W.Frag} {mg : Str → Option Value} {base : Heap} {cm : Pu.Md} {C_Rule : Addr} {C_WeightRule : Addr} {C_TurnRule : Addr} {C_TryRule : Addr} {X_BadRule : Addr} {X_NoHalves : Addr} {X_BadNumber : Addr} {X_BadOther : Addr} {X_BadText : Addr} {X_FairError : Addr}
theorem okr_halves_of {f : Addr} {fd : FuncData} (F : Ev.Fn K "halves_of" "halves_of" (top 35) f fd) (T : Tx K mg cm C_Rule C_WeightRule C_TurnRule C_TryRule X_BadRule X_NoHalves X_BadNumber X_BadOther X_BadText X_FairError) (hmf : mg "halves_of" = some (.ref f)) (hkf : PySem.W.keepIn K (.ref f) = true) (hbf : Binds K fd ["keys"] []) : ∀ d : Nat, Ev.GOk P w K mg base (L2.CX P w) (0 + d) f fd ["keys"] (spP K cm 1 (mr_halves_of d)) := by
  intro d
  induction d with
  | zero => exact gok_none fun _ _ _ _ h => h
  | succ d ih =>
    have c_rec : Ev.GC P w K mg base (0 + d) "halves_of" (spP K cm 1 (mr_halves_of d)) [] := ⟨⟨_, _, _, _, ih, hmf, hkf, hbf, .nil⟩⟩
    show Ev.GOk P w K mg base (L2.CX P w) (0 + d + 1) f fd ["keys"] (spP K cm 1 (mFnX 1 (b_halves_of (mr_halves_of d))))
    refine qfnX (k := 0 + d) (by decide) F sc_halves_of fun cdv A outer s H E hcode hgd hr => ?_
    have hu : _ + 64 < cLine := hr.units
    refine ⟨_, (pss_one (ps_ret (pe_ifExp (pt_cmpR op_eq (pv 0) pe_int (nomark _)) (pe_tup pa_nil) (pe_tup (pa_cons (Ev.pe_cE c_rec hgd hr (by omega) (Ev.passE (takes_of rfl rfl rfl rfl)) (by rfl) (pa_cons (pe_op op_fdivW (pv 0) pe_int) pa_nil)) (pa_cons (Ev.pe_cE c_rec hgd hr (by omega) (Ev.passE (takes_of rfl rfl rfl rfl)) (by rfl) (pa_cons (pe_op op_fdivW (pe_op op_sub (pv 0) pe_int) pe_int) pa_nil)) pa_nil)))))), fun z hK hcm hW hl => ?_⟩
    subst hK hcm
    unfold b_halves_of
    walk_at "ev s0"
    with_reducible exact (sim_ret (sim_if (by (first | with_reducible refine sim_b ?_ | with_reducible refine sim_test ?_); exact (sim_op simR_eq sim_var (by first | with_reducible exact (sim_c fun _ => .int _) | with_reducible exact sim_cval T.cv_WeightRule_MOST fun _ => .int _))) (sim_tup sim_nil) (sim_tup (sim_cons (sim_call (by first | exact hl3 | exact hl2 | exact hl | exact link0 (by first | exact hW | rfl)) (fun _ => .nil) (sim_cons (sim_op simR_div sim_var (by first | with_reducible exact (sim_c fun _ => .int _) | with_reducible exact sim_cval T.cv_WeightRule_MOST fun _ => .int _)) sim_nil)) (sim_cons (sim_call (by first | exact hl3 | exact hl2 | exact hl | exact link0 (by first | exact hW | rfl)) (fun _ => .nil) (sim_cons (sim_op simR_div (sim_op simR_sub sim_var (by first | with_reducible exact (sim_c fun _ => .int _) | with_reducible exact sim_cval T.cv_WeightRule_MOST fun _ => .int _)) (by first | with_reducible exact (sim_c fun _ => .int _) | with_reducible exact sim_cval T.cv_WeightRule_MOST fun _ => .int _)) sim_nil)) sim_nil)))))
theorem ok_halves_of {f : Addr} {fd : FuncData} (F : Ev.Fn K "halves_of" "halves_of" (top 35) f fd) (T : Tx K mg cm C_Rule C_WeightRule C_TurnRule C_TryRule X_BadRule X_NoHalves X_BadNumber X_BadOther X_BadText X_FairError) (hmf : mg "halves_of" = some (.ref f)) (hkf : PySem.W.keepIn K (.ref f) = true) (hbf : Binds K fd ["keys"] []) : Ev.GOk P w K mg base (L2.CX P w) 14 f fd ["keys"] (spP K cm 1 m_halves_of) := okr_halves_of F T hmf hkf hbf 14
end
end K31
set_option hygiene false
namespace K31
open PySem L2 Pu
theorem sc_halves_shape : FnScope ["keys"] ["keys"] (C8.fnScope (top 37)) := C8.fnScope_by (by decide +kernel)
def b_halves_shape : MS := (mSeq (mDrop (mCall 2 m_need_number [] (mCons (mVar 0) (mCons (mC (.int 2000)) mNil))))
  (mRet (mCall 1 m_halves_of [] (mCons (mVar 0) mNil))))
def m_halves_shape : List PV → M PV := mFnX 1 b_halves_shape
theorem run_halves_shape {a0 : PV} {W : XP} {n : Nat} {Q : PV → Nat → Prop} (h : b_halves_shape (fun _ => W) { nx := fun _ n' => Q .non n', rt := Q } [.val a0] n) : m_halves_shape [a0] W n Q := h
section
variable {P : Program} {w : World} {K : PySem.W.Frag} {mg : Str → Option Value} {base : Heap} {cm : Pu.Md} {C_Rule : Addr} {C_WeightRule : Addr} {C_TurnRule : Addr} {C_TryRule : Addr} {X_BadRule : Addr} {X_NoHalves : Addr} {X_BadNumber : Addr} {X_BadOther : Addr} {X_BadText : Addr} {X_FairError : Addr}
theorem ok_halves_shape {f : Addr} {fd : FuncData} (F : Ev.Fn K "halves_shape" "halves_shape" (top 37) f fd) (T : Tx K mg cm C_Rule C_WeightRule C_TurnRule C_TryRule X_BadRule X_NoHalves X_BadNumber X_BadOther X_BadText X_FairError) (c_need_number : Ev.GC P w K mg base 3 "need_number" (spP K cm 2 m_need_number) []) (c_halves_of : Ev.GC P w K mg base 14 "halves_of" (spP K cm 1 m_halves_of) []) : Ev.GOk P w K mg base (L2.CX P w) 15 f fd ["keys"] (spP K cm 1 m_halves_shape) := by
  refine qfnX (by decide) F sc_halves_shape fun cdv A outer s H E hcode hgd hr => ?_
  have hu : _ + 64 < cLine := hr.units
  obtain ⟨_, hk_MOST_SHAPED⟩ := T.k_MOST_SHAPED
  refine ⟨_, (pss_cons (ps_expr (Ev.pe_cE c_need_number hgd hr (by decide) (Ev.passE (takes_of rfl rfl rfl rfl)) (by rfl) (pa_cons (pv 0) (pa_cons (pe_glob (by rfl) hk_MOST_SHAPED Ev.rel_int) pa_nil))))
    (pss_one (ps_ret (Ev.pe_cE c_halves_of hgd hr (by decide) (Ev.passE (takes_of rfl rfl rfl rfl)) (by rfl) (pa_cons (pv 0) pa_nil))))), fun z hK hcm hW hl => ?_⟩
  subst hK hcm
  unfold b_halves_shape
  walk_at "ev s0"
  with_reducible exact (sim_seq (sim_drop (sim_call (by first | exact hl3 | exact hl2 | exact hl | exact link0 (by first | exact hW | rfl)) (fun _ => .nil) (sim_cons sim_var (sim_cons (by first | with_reducible exact (sim_c fun _ => .int _) | with_reducible exact sim_cval T.cv_WeightRule_MOST fun _ => .int _) sim_nil)))) (sim_ret (sim_call (by first | exact hl3 | exact hl2 | exact hl | exact link0 (by first | exact hW | rfl)) (fun _ => .nil) (sim_cons sim_var sim_nil))))
end
end K31
set_option hygiene false
namespace K31
open PySem L2 Pu
theorem sc_need_weight_rule : FnScope ["rule"] ["rule"] (C8.fnScope (top 26)) := C8.fnScope_by (by decide +kernel)
def b_need_weight_rule : MS := (mIfS (mNot (mB (mIsiC subs "WeightRule" (mVar 0))))
  (mRai1 "BadRule" "part" (mCons (mC (.str "rule")) mNil))
  mNext)
def m_need_weight_rule : List PV → M PV := mFnX 1 b_need_weight_rule
theorem run_need_weight_rule {a0 : PV} {W : XP} {n : Nat} {Q : PV → Nat → Prop} (h : b_need_weight_rule (fun _ => W) { nx := fun _ n' => Q .non n', rt := Q } [.val a0] n) : m_need_weight_rule [a0] W n Q := h
section
variable {P : Program} {w : World} {K : PySem.W.Frag} {mg : Str → Option Value} {base : Heap} {cm : Pu.Md} {C_Rule : Addr} {C_WeightRule : Addr} {C_TurnRule : Addr} {C_TryRule : Addr} {X_BadRule : Addr} {X_NoHalves : Addr} {X_BadNumber : Addr} {X_BadOther : Addr} {X_BadText : Addr} {X_FairError : Addr}
theorem ok_need_weight_rule {f : Addr} {fd : FuncData} (F : Ev.Fn K "need_weight_rule" "need_weight_rule" (top 26) f fd) (T : Tx K mg cm C_Rule C_WeightRule C_TurnRule C_TryRule X_BadRule X_NoHalves X_BadNumber X_BadOther X_BadText X_FairError) (xc_BadRule : Ev.XC P w K mg base "BadRule" X_BadRule (Ev.spX1 K "part") 1) : Ev.GOk P w K mg base (L2.CX P w) 3 f fd ["rule"] (spP K cm 1 m_need_weight_rule) := by
  refine qfnX (by decide) F sc_need_weight_rule fun cdv A outer s H E hcode hgd hr => ?_
  have hu : _ + 64 < cLine := hr.units
  refine ⟨_, (pss_one (ps_if (pt_not (pt_val (pe_callB call_isi (by rfl) T.m_isinstance (by decide +kernel) (pa_cons (pv 0) (pa_cons (pe_glob (by rfl) T.g_WeightRule Ev.rel_ref) pa_nil)))))
    (pss_one (Ev.ps_rai xc_BadRule rfl (takes_of rfl rfl rfl rfl) (hr.mono (by decide)) (by rfl) (pa_cons pe_str pa_nil)))
    pss_nil)), fun z hK hcm hW hl => ?_⟩
  subst hK hcm
  unfold b_need_weight_rule
  walk_at "ev s0"
  with_reducible exact (sim_ifS (sim_not (by (first | with_reducible refine sim_b ?_ | with_reducible refine sim_test ?_); exact (sim_isiC T.cm_WeightRule T.ks_WeightRule sim_var))) (sim_rai1 (by first | exact hl3 | exact hl2 | exact hl | exact link0 (by first | exact hW | rfl)) T.cx_BadRule T.oe_BadRule (T.xn_part _ _ T.cx_BadRule) (sim_cons (by first | with_reducible exact (sim_c fun _ => .str _) | with_reducible exact sim_cval T.cv_WeightRule_MOST fun _ => .int _) sim_nil)) sim_next)
end
end K31
set_option hygiene false
namespace K31
open PySem L2 Pu
theorem sc_higher : FnScope ["rule", "weight", "p", "q"] ["rule", "weight"] (C8.fnScope (top 31)) := C8.fnScope_by (by decide +kernel)
def b_higher : MS := (mSeq (mAsg (mFld "times" (mVar 0)) (mgT 2 (mgCons (mgN 2) (mgCons (mgN 3) mgNil))))
  (mRet (mOp pAdd (mVar 1) (mCB pMax2 (mCons (mC (.int 1)) (mCons (mUn pNeg (mCB pInt1 (mCons (mOp pDiv (mOp pSub (mFld "plus" (mVar 0)) (mOp pMul (mVar 3) (mVar 1))) (mVar 2)) mNil))) mNil))))))
def m_higher : List PV → M PV := mFnX 4 b_higher
theorem run_higher {a0 a1 : PV} {W : XP} {n : Nat} {Q : PV → Nat → Prop} (h : b_higher (fun _ => W) { nx := fun _ n' => Q .non n', rt := Q } [.val a0, .val a1, .no, .no] n) : m_higher [a0, a1] W n Q := h
section
variable {P : Program} {w : World} {K : PySem.W.Frag} {mg : Str → Option Value} {base : Heap} {cm : Pu.Md} {C_Rule : Addr} {C_WeightRule : Addr} {C_TurnRule : Addr} {C_TryRule : Addr} {X_BadRule : Addr} {X_NoHalves : Addr} {X_BadNumber : Addr} {X_BadOther : Addr} {X_BadText : Addr} {X_FairError : Addr}
theorem ok_higher {f : Addr} {fd : FuncData} (F : Ev.Fn K "higher" "higher" (top 31) f fd) (T : Tx K mg cm C_Rule C_WeightRule C_TurnRule C_TryRule X_BadRule X_NoHalves X_BadNumber X_BadOther X_BadText X_FairError) : Ev.GOk P w K mg base (L2.CX P w) 1 f fd ["rule", "weight"] (spP K cm 2 m_higher) := by
  refine qfnX (by decide) F sc_higher fun cdv A outer s H E hcode hgd hr => ?_
  have hu : _ + 64 < cLine := hr.units
  refine ⟨_, (pss_cons (ps_asg (pe_fld (pv 0) rfl) (by exact (pg_tup (n := 2) rfl (pgs_cons (pg_name (i := 2) sc_higher.nd rfl (.inl rfl)) (pgs_cons (pg_name (i := 3) sc_higher.nd rfl (.inl rfl)) pgs_nil)))))
    (pss_one (ps_ret (pe_op op_add (pv 1) (pe_callB (call_max2 rfl) (by rfl) T.m_max (by decide +kernel) (pa_cons pe_int (pa_cons (pe_un un_neg (pe_callTy call_int1 (by rfl) T.m_int (by decide +kernel) (pa_cons (pe_op op_fdivW (pe_op op_sub (pe_fld (pv 0) rfl) (pe_op op_mulW (pv 3) (pv 1))) (pv 2)) pa_nil))) pa_nil))))))), fun z hK hcm hW hl => ?_⟩
  subst hK hcm
  unfold b_higher
  walk_at "ev s0"
  with_reducible exact (sim_seq (sim_asg (sim_fld T.na_times sim_var) (sim_gT (sim_gCons sim_gN (sim_gCons sim_gN sim_gNil)))) (sim_ret (sim_op simR_add sim_var (sim_cb simC_max2 (sim_cons (by first | with_reducible exact (sim_c fun _ => .int _) | with_reducible exact sim_cval T.cv_WeightRule_MOST fun _ => .int _) (sim_cons (sim_un simU_neg (sim_cb simC_int1 (sim_cons (sim_op simR_div (sim_op simR_sub (sim_fld T.na_plus sim_var) (sim_op simR_mul sim_var sim_var)) sim_var) sim_nil))) sim_nil))))))
end
end K31
set_option hygiene false
namespace K31
open PySem L2 Pu
theorem sc_highest : FnScope ["rule", "weight", "height", "below", "found"] ["rule", "weight"] (C8.fnScope (top 32)) := C8.fnScope_by (by decide +kernel)
def b_highest : MS := (mSeq (mAsg (mTup (mCons (mC (.int 0)) (mCons (mC (.int 1)) (mCons (mC (.int 1)) mNil)))) (mgT 3 (mgCons (mgN 2) (mgCons (mgN 3) (mgCons (mgN 4) mgNil)))))
  (mSeq (mWhile (mB (mOp pLe (mCall 2 m_higher [] (mCons (mVar 0) (mCons (mVar 4) mNil))) (mVar 1)))
  (mPar3 2 3 4 (mCons (mOp pAdd (mVar 2) (mC (.int 1))) (mCons (mVar 4) (mCons (mCall 2 m_higher [] (mCons (mVar 0) (mCons (mVar 4) mNil))) mNil)))))
  (mRet (mTup (mCons (mVar 2) (mCons (mVar 3) mNil))))))
def m_highest : List PV → M PV := mFnX 5 b_highest
theorem run_highest {a0 a1 : PV} {W : XP} {n : Nat} {Q : PV → Nat → Prop} (h : b_highest (fun _ => W) { nx := fun _ n' => Q .non n', rt := Q } [.val a0, .val a1, .no, .no, .no] n) : m_highest [a0, a1] W n Q := h
section
variable {P : Program} {w : World} {K : PySem.W.Frag} {mg : Str → Option Value} {base : Heap} {cm : Pu.Md} {C_Rule : Addr} {C_WeightRule : Addr} {C_TurnRule : Addr} {C_TryRule : Addr} {X_BadRule : Addr} {X_NoHalves : Addr} {X_BadNumber : Addr} {X_BadOther : Addr} {X_BadText : Addr} {X_FairError : Addr}
theorem ok_highest {f : Addr} {fd : FuncData} (F : Ev.Fn K "highest" "highest" (top 32) f fd) (T : Tx K mg cm C_Rule C_WeightRule C_TurnRule C_TryRule X_BadRule X_NoHalves X_BadNumber X_BadOther X_BadText X_FairError) (c_higher : Ev.GC P w K mg base 1 "higher" (spP K cm 2 m_higher) []) : Ev.GOk P w K mg base (L2.CX P w) 2 f fd ["rule", "weight"] (spP K cm 2 m_highest) := by
  refine qfnX (by decide) F sc_highest fun cdv A outer s H E hcode hgd hr => ?_
  have hu : _ + 64 < cLine := hr.units
  refine ⟨_, (pss_cons (ps_asg (pe_tup (pa_cons pe_int (pa_cons pe_int (pa_cons pe_int pa_nil)))) (by exact (pg_tup (n := 3) rfl (pgs_cons (pg_name (i := 2) sc_highest.nd rfl (.inl rfl)) (pgs_cons (pg_name (i := 3) sc_highest.nd rfl (.inl rfl)) (pgs_cons (pg_name (i := 4) sc_highest.nd rfl (.inl rfl)) pgs_nil))))))
    (pss_cons (ps_while (passes_of rfl) (pt_cmpR op_le (Ev.pe_cE c_higher hgd hr (by decide) (Ev.passE (takes_of rfl rfl rfl rfl)) (by rfl) (pa_cons (pv 0) (pa_cons (pv 4) pa_nil))) (pv 1) (nomark _))
    (pss_one (ps_par3 (i := 2) (j := 3) (l := 4) rfl sc_highest.nd rfl rfl rfl (by decide) (by decide) (by decide) rfl rfl rfl (pa_cons (pe_op op_add (pv 2) pe_int) (pa_cons (pv 4) (pa_cons (Ev.pe_cE c_higher hgd hr (by decide) (Ev.passE (takes_of rfl rfl rfl rfl)) (by rfl) (pa_cons (pv 0) (pa_cons (pv 4) pa_nil))) pa_nil))) (by rfl))))
    (pss_one (ps_ret (pe_tup (pa_cons (pv 2) (pa_cons (pv 3) pa_nil))))))), fun z hK hcm hW hl => ?_⟩
  subst hK hcm
  unfold b_highest
  walk_at "ev s0"
  with_reducible exact (sim_seq (sim_asg (sim_tup (sim_cons (by first | with_reducible exact (sim_c fun _ => .int _) | with_reducible exact sim_cval T.cv_WeightRule_MOST fun _ => .int _) (sim_cons (by first | with_reducible exact (sim_c fun _ => .int _) | with_reducible exact sim_cval T.cv_WeightRule_MOST fun _ => .int _) (sim_cons (by first | with_reducible exact (sim_c fun _ => .int _) | with_reducible exact sim_cval T.cv_WeightRule_MOST fun _ => .int _) sim_nil)))) (sim_gT (sim_gCons sim_gN (sim_gCons sim_gN (sim_gCons sim_gN sim_gNil))))) (sim_seq (sim_while (by (first | with_reducible refine sim_b ?_ | with_reducible refine sim_test ?_); exact (sim_op simR_le (sim_call (by first | exact hl3 | exact hl2 | exact hl | exact link0 (by first | exact hW | rfl)) (fun _ => .nil) (sim_cons sim_var (sim_cons sim_var sim_nil))) sim_var)) (sim_par3 (sim_cons (sim_op simR_add sim_var (by first | with_reducible exact (sim_c fun _ => .int _) | with_reducible exact sim_cval T.cv_WeightRule_MOST fun _ => .int _)) (sim_cons sim_var (sim_cons (sim_call (by first | exact hl3 | exact hl2 | exact hl | exact link0 (by first | exact hW | rfl)) (fun _ => .nil) (sim_cons sim_var (sim_cons sim_var sim_nil))) sim_nil))))) (sim_ret (sim_tup (sim_cons sim_var (sim_cons sim_var sim_nil))))))
end
end K31
set_option hygiene false
namespace K31
open PySem L2 Pu
theorem sc_tall_of : FnScope ["rule", "weight", "heavy"] ["rule", "weight"] (C8.fnScope (top 36)) := C8.fnScope_by (by decide +kernel)
def b_tall_of : (List PV → M PV) → MS := fun rr => (mSeq (mIfS (mB (mOp pEq (mVar 1) (mC (.int 1))))
  (mRet (mTup mNil))
  mNext)
  (mSeq (mAsg (mCB pMax2 (mCons (mCB pInt1 (mCons (mOp pDiv (mOp pAdd (mVar 1) (mC (.int 1))) (mC (.int 2))) mNil)) (mCons (mCB pInt1 (mCons (mOp pIxT (mCall 2 m_highest [] (mCons (mVar 0) (mCons (mVar 1) mNil))) (mC (.int 1))) mNil)) mNil))) (mgN 2))
  (mRet (mTup (mCons (mCall 2 rr [] (mCons (mVar 0) (mCons (mVar 2) mNil))) (mCons (mCall 1 m_halves_of [] (mCons (mOp pSub (mOp pSub (mVar 1) (mVar 2)) (mC (.int 1))) mNil)) mNil))))))
def mr_tall_of : Nat → List PV → M PV
  | 0 => fun _ _ _ _ => False
  | d + 1 => mFnX 3 (b_tall_of (mr_tall_of d))
def m_tall_of : List PV → M PV := mr_tall_of 60
theorem run_tall_of {d : Nat} {a0 a1 : PV} {W : XP} {n : Nat} {Q : PV → Nat → Prop} (h : b_tall_of (mr_tall_of d) (fun _ => W) { nx := fun _ n' => Q .non n', rt := Q } [.val a0, .val a1, .no] n) : mr_tall_of (d + 1) [a0, a1] W n Q := h
section
variable {P : Program} {w : World} {K : PySem.W.Frag} {mg : Str → Option Value} {base : Heap} {cm : Pu.Md} {C_Rule : Addr} {C_WeightRule : Addr} {C_TurnRule : Addr} {C_TryRule : Addr} {X_BadRule : Addr} {X_NoHalves : Addr} {X_BadNumber : Addr} {X_BadOther : Addr} {X_BadText : Addr} {X_FairError : Addr}
theorem okr_tall_of {f : Addr} {fd : FuncData} (F : Ev.Fn K "tall_of" "tall_of" (top 36) f fd) (T : Tx K mg cm C_Rule C_WeightRule C_TurnRule C_TryRule X_BadRule X_NoHalves X_BadNumber X_BadOther X_BadText X_FairError) (c_highest : Ev.GC P w K mg base 2 "highest" (spP K cm 2 m_highest) []) (c_halves_of : Ev.GC P w K mg base 14 "halves_of" (spP K cm 1 m_halves_of) []) (hmf : mg "tall_of" = some (.ref f)) (hkf : PySem.W.keepIn K (.ref f) = true) (hbf : Binds K fd ["rule", "weight"] []) : ∀ d : Nat, Ev.GOk P w K mg base (L2.CX P w) (14 + d) f fd ["rule", "weight"] (spP K cm 2 (mr_tall_of d)) := by
  intro d
  induction d with
  | zero => exact gok_none fun _ _ _ _ h => h
  | succ d ih =>
    have c_rec : Ev.GC P w K mg base (14 + d) "tall_of" (spP K cm 2 (mr_tall_of d)) [] := ⟨⟨_, _, _, _, ih, hmf, hkf, hbf, .nil⟩⟩
    show Ev.GOk P w K mg base (L2.CX P w) (14 + d + 1) f fd ["rule", "weight"] (spP K cm 2 (mFnX 3 (b_tall_of (mr_tall_of d))))
    refine qfnX (k := 14 + d) (by decide) F sc_tall_of fun cdv A outer s H E hcode hgd hr => ?_
    have hu : _ + 64 < cLine := hr.units
    refine ⟨_, (pss_cons (ps_if (pt_cmpR op_eq (pv 1) pe_int (nomark _))
      (pss_one (ps_ret (pe_tup pa_nil)))
      pss_nil)
      (pss_cons (ps_set (i := 2) sc_tall_of.nd rfl (.inl rfl) (pe_callB (call_max2 rfl) (by rfl) T.m_max (by decide +kernel) (pa_cons (pe_callTy call_int1 (by rfl) T.m_int (by decide +kernel) (pa_cons (pe_op op_fdivW (pe_op op_add (pv 1) pe_int) pe_int) pa_nil)) (pa_cons (pe_callTy call_int1 (by rfl) T.m_int (by decide +kernel) (pa_cons (pe_ix ix_tup (Ev.pe_cE c_highest hgd hr (by omega) (Ev.passE (takes_of rfl rfl rfl rfl)) (by rfl) (pa_cons (pv 0) (pa_cons (pv 1) pa_nil))) pe_int (fun _ _ => rfl)) pa_nil)) pa_nil))))
      (pss_one (ps_ret (pe_tup (pa_cons (Ev.pe_cE c_rec hgd hr (by omega) (Ev.passE (takes_of rfl rfl rfl rfl)) (by rfl) (pa_cons (pv 0) (pa_cons (pv 2) pa_nil))) (pa_cons (Ev.pe_cE c_halves_of hgd hr (by omega) (Ev.passE (takes_of rfl rfl rfl rfl)) (by rfl) (pa_cons (pe_op op_sub (pe_op op_sub (pv 1) (pv 2)) pe_int) pa_nil)) pa_nil))))))), fun z hK hcm hW hl => ?_⟩
    subst hK hcm
    unfold b_tall_of
    walk_at "ev s0"
    with_reducible exact (sim_seq (sim_ifS (by (first | with_reducible refine sim_b ?_ | with_reducible refine sim_test ?_); exact (sim_op simR_eq sim_var (by first | with_reducible exact (sim_c fun _ => .int _) | with_reducible exact sim_cval T.cv_WeightRule_MOST fun _ => .int _))) (sim_ret (sim_tup sim_nil)) sim_next) (sim_seq (sim_asg (sim_cb simC_max2 (sim_cons (sim_cb simC_int1 (sim_cons (sim_op simR_div (sim_op simR_add sim_var (by first | with_reducible exact (sim_c fun _ => .int _) | with_reducible exact sim_cval T.cv_WeightRule_MOST fun _ => .int _)) (by first | with_reducible exact (sim_c fun _ => .int _) | with_reducible exact sim_cval T.cv_WeightRule_MOST fun _ => .int _)) sim_nil)) (sim_cons (sim_cb simC_int1 (sim_cons (sim_op simR_ixT (sim_call (by first | exact hl3 | exact hl2 | exact hl | exact link0 (by first | exact hW | rfl)) (fun _ => .nil) (sim_cons sim_var (sim_cons sim_var sim_nil))) (by first | with_reducible exact (sim_c fun _ => .int _) | with_reducible exact sim_cval T.cv_WeightRule_MOST fun _ => .int _)) sim_nil)) sim_nil))) sim_gN) (sim_ret (sim_tup (sim_cons (sim_call (by first | exact hl3 | exact hl2 | exact hl | exact link0 (by first | exact hW | rfl)) (fun _ => .nil) (sim_cons sim_var (sim_cons sim_var sim_nil))) (sim_cons (sim_call (by first | exact hl3 | exact hl2 | exact hl | exact link0 (by first | exact hW | rfl)) (fun _ => .nil) (sim_cons (sim_op simR_sub (sim_op simR_sub sim_var sim_var) (by first | with_reducible exact (sim_c fun _ => .int _) | with_reducible exact sim_cval T.cv_WeightRule_MOST fun _ => .int _)) sim_nil)) sim_nil))))))
theorem ok_tall_of {f : Addr} {fd : FuncData} (F : Ev.Fn K "tall_of" "tall_of" (top 36) f fd) (T : Tx K mg cm C_Rule C_WeightRule C_TurnRule C_TryRule X_BadRule X_NoHalves X_BadNumber X_BadOther X_BadText X_FairError) (c_highest : Ev.GC P w K mg base 2 "highest" (spP K cm 2 m_highest) []) (c_halves_of : Ev.GC P w K mg base 14 "halves_of" (spP K cm 1 m_halves_of) []) (hmf : mg "tall_of" = some (.ref f)) (hkf : PySem.W.keepIn K (.ref f) = true) (hbf : Binds K fd ["rule", "weight"] []) : Ev.GOk P w K mg base (L2.CX P w) 74 f fd ["rule", "weight"] (spP K cm 2 m_tall_of) := okr_tall_of F T c_highest c_halves_of hmf hkf hbf 60
end
end K31
set_option hygiene false
namespace K31
open PySem L2 Pu
theorem sc_tall_shape : FnScope ["rule", "keys"] ["rule", "keys"] (C8.fnScope (top 38)) := C8.fnScope_by (by decide +kernel)
def b_tall_shape : MS := (mSeq (mDrop (mCall 1 m_need_weight_rule [] (mCons (mVar 0) mNil)))
  (mSeq (mDrop (mCall 2 m_need_number [] (mCons (mVar 1) (mCons (mC (.int 2000)) mNil))))
  (mRet (mCall 2 m_tall_of [] (mCons (mVar 0) (mCons (mOp pAdd (mVar 1) (mC (.int 1))) mNil))))))
def m_tall_shape : List PV → M PV := mFnX 2 b_tall_shape
theorem run_tall_shape {a0 a1 : PV} {W : XP} {n : Nat} {Q : PV → Nat → Prop} (h : b_tall_shape (fun _ => W) { nx := fun _ n' => Q .non n', rt := Q } [.val a0, .val a1] n) : m_tall_shape [a0, a1] W n Q := h
section
variable {P : Program} {w : World} {K : PySem.W.Frag} {mg : Str → Option Value} {base : Heap} {cm : Pu.Md} {C_Rule : Addr} {C_WeightRule : Addr} {C_TurnRule : Addr} {C_TryRule : Addr} {X_BadRule : Addr} {X_NoHalves : Addr} {X_BadNumber : Addr} {X_BadOther : Addr} {X_BadText : Addr} {X_FairError : Addr}
theorem ok_tall_shape {f : Addr} {fd : FuncData} (F : Ev.Fn K "tall_shape" "tall_shape" (top 38) f fd) (T : Tx K mg cm C_Rule C_WeightRule C_TurnRule C_TryRule X_BadRule X_NoHalves X_BadNumber X_BadOther X_BadText X_FairError) (c_need_weight_rule : Ev.GC P w K mg base 3 "need_weight_rule" (spP K cm 1 m_need_weight_rule) []) (c_need_number : Ev.GC P w K mg base 3 "need_number" (spP K cm 2 m_need_number) []) (c_tall_of : Ev.GC P w K mg base 74 "tall_of" (spP K cm 2 m_tall_of) []) : Ev.GOk P w K mg base (L2.CX P w) 75 f fd ["rule", "keys"] (spP K cm 2 m_tall_shape) := by
  refine qfnX (by decide) F sc_tall_shape fun cdv A outer s H E hcode hgd hr => ?_
  have hu : _ + 64 < cLine := hr.units
  obtain ⟨_, hk_MOST_SHAPED⟩ := T.k_MOST_SHAPED
  refine ⟨_, (pss_cons (ps_expr (Ev.pe_cE c_need_weight_rule hgd hr (by decide) (Ev.passE (takes_of rfl rfl rfl rfl)) (by rfl) (pa_cons (pv 0) pa_nil)))
    (pss_cons (ps_expr (Ev.pe_cE c_need_number hgd hr (by decide) (Ev.passE (takes_of rfl rfl rfl rfl)) (by rfl) (pa_cons (pv 1) (pa_cons (pe_glob (by rfl) hk_MOST_SHAPED Ev.rel_int) pa_nil))))
    (pss_one (ps_ret (Ev.pe_cE c_tall_of hgd hr (by decide) (Ev.passE (takes_of rfl rfl rfl rfl)) (by rfl) (pa_cons (pv 0) (pa_cons (pe_op op_add (pv 1) pe_int) pa_nil))))))), fun z hK hcm hW hl => ?_⟩
  subst hK hcm
  unfold b_tall_shape
  walk_at "ev s0"
  with_reducible exact (sim_seq (sim_drop (sim_call (by first | exact hl3 | exact hl2 | exact hl | exact link0 (by first | exact hW | rfl)) (fun _ => .nil) (sim_cons sim_var sim_nil))) (sim_seq (sim_drop (sim_call (by first | exact hl3 | exact hl2 | exact hl | exact link0 (by first | exact hW | rfl)) (fun _ => .nil) (sim_cons sim_var (sim_cons (by first | with_reducible exact (sim_c fun _ => .int _) | with_reducible exact sim_cval T.cv_WeightRule_MOST fun _ => .int _) sim_nil)))) (sim_ret (sim_call (by first | exact hl3 | exact hl2 | exact hl | exact link0 (by first | exact hW | rfl)) (fun _ => .nil) (sim_cons sim_var (sim_cons (sim_op simR_add sim_var (by first | with_reducible exact (sim_c fun _ => .int _) | with_reducible exact sim_cval T.cv_WeightRule_MOST fun _ => .int _)) sim_nil))))))
end
end K31
set_option hygiene false
namespace K31
open PySem L2 Pu
theorem sc_law_top : FnScope ["_law_some", "_law_x"] ["_law_some", "_law_x"] (C8.fnScope (top 52)) := C8.fnScope_by (by decide +kernel)
def b_law_top : MS := (mRet (mOp pDiv (mOp pAdd (mOp pMul (mOp pIxT (mVar 0) (mC (.int 0))) (mVar 1)) (mOp pIxT (mVar 0) (mC (.int 2)))) (mOp pIxT (mVar 0) (mC (.int 1)))))
def m_law_top : List PV → M PV := mFnX 2 b_law_top
theorem run_law_top {a0 a1 : PV} {W : XP} {n : Nat} {Q : PV → Nat → Prop} (h : b_law_top (fun _ => W) { nx := fun _ n' => Q .non n', rt := Q } [.val a0, .val a1] n) : m_law_top [a0, a1] W n Q := h
section
variable {P : Program} {w : World} {K : PySem.W.Frag} {mg : Str → Option Value} {base : Heap} {cm : Pu.Md} {C_Rule : Addr} {C_WeightRule : Addr} {C_TurnRule : Addr} {C_TryRule : Addr} {X_BadRule : Addr} {X_NoHalves : Addr} {X_BadNumber : Addr} {X_BadOther : Addr} {X_BadText : Addr} {X_FairError : Addr}
theorem ok_law_top {f : Addr} {fd : FuncData} (F : Ev.Fn K "_law_top" "_law_top" (top 52) f fd) (T : Tx K mg cm C_Rule C_WeightRule C_TurnRule C_TryRule X_BadRule X_NoHalves X_BadNumber X_BadOther X_BadText X_FairError) : Ev.GOk P w K mg base (L2.CX P w) 1 f fd ["_law_some", "_law_x"] (spP K cm 2 m_law_top) := by
  refine qfnX (by decide) F sc_law_top fun cdv A outer s H E hcode hgd hr => ?_
  have hu : _ + 64 < cLine := hr.units
  refine ⟨_, (pss_one (ps_ret (pe_op op_fdivW (pe_op op_add (pe_op op_mulW (pe_ix ix_tup (pv 0) pe_int (fun _ _ => rfl)) (pv 1)) (pe_ix ix_tup (pv 0) pe_int (fun _ _ => rfl))) (pe_ix ix_tup (pv 0) pe_int (fun _ _ => rfl))))), fun z hK hcm hW hl => ?_⟩
  subst hK hcm
  unfold b_law_top
  walk_at "ev s0"
  with_reducible exact (sim_ret (sim_op simR_div (sim_op simR_add (sim_op simR_mul (sim_op simR_ixT sim_var (by first | with_reducible exact (sim_c fun _ => .int _) | with_reducible exact sim_cval T.cv_WeightRule_MOST fun _ => .int _)) sim_var) (sim_op simR_ixT sim_var (by first | with_reducible exact (sim_c fun _ => .int _) | with_reducible exact sim_cval T.cv_WeightRule_MOST fun _ => .int _))) (sim_op simR_ixT sim_var (by first | with_reducible exact (sim_c fun _ => .int _) | with_reducible exact sim_cval T.cv_WeightRule_MOST fun _ => .int _))))
end
end K31
set_option hygiene false
namespace K31
open PySem L2 Pu
theorem sc_law_least : FnScope ["_law_some", "_law_y", "_law_low", "_law_high", "_law_middle"] ["_law_some", "_law_y"] (C8.fnScope (top 53)) := C8.fnScope_by (by decide +kernel)
def b_law_least : MS := (mSeq (mPar 2 3 (mCons (mC (.int 1)) (mCons (mVar 1) mNil)))
  (mSeq (mWhile (mB (mOp pLt (mVar 2) (mVar 3)))
  (mSeq (mAsg (mOp pDiv (mOp pAdd (mVar 2) (mVar 3)) (mC (.int 2))) (mgN 4))
  (mIfS (mB (mOp pLe (mVar 1) (mCall 2 m_law_top [] (mCons (mVar 0) (mCons (mVar 4) mNil)))))
  (mAsg (mVar 4) (mgN 3))
  (mAsg (mOp pAdd (mVar 4) (mC (.int 1))) (mgN 2)))))
  (mRet (mVar 2))))
def m_law_least : List PV → M PV := mFnX 5 b_law_least
theorem run_law_least {a0 a1 : PV} {W : XP} {n : Nat} {Q : PV → Nat → Prop} (h : b_law_least (fun _ => W) { nx := fun _ n' => Q .non n', rt := Q } [.val a0, .val a1, .no, .no, .no] n) : m_law_least [a0, a1] W n Q := h
section
variable {P : Program} {w : World} {K : PySem.W.Frag} {mg : Str → Option Value} {base : Heap} {cm : Pu.Md} {C_Rule : Addr} {C_WeightRule : Addr} {C_TurnRule : Addr} {C_TryRule : Addr} {X_BadRule : Addr} {X_NoHalves : Addr} {X_BadNumber : Addr} {X_BadOther : Addr} {X_BadText : Addr} {X_FairError : Addr}
theorem ok_law_least {f : Addr} {fd : FuncData} (F : Ev.Fn K "_law_least" "_law_least" (top 53) f fd) (T : Tx K mg cm C_Rule C_WeightRule C_TurnRule C_TryRule X_BadRule X_NoHalves X_BadNumber X_BadOther X_BadText X_FairError) (c_law_top : Ev.GC P w K mg base 1 "_law_top" (spP K cm 2 m_law_top) []) : Ev.GOk P w K mg base (L2.CX P w) 2 f fd ["_law_some", "_law_y"] (spP K cm 2 m_law_least) := by
  refine qfnX (by decide) F sc_law_least fun cdv A outer s H E hcode hgd hr => ?_
  have hu : _ + 64 < cLine := hr.units
  refine ⟨_, (pss_cons (ps_par (i := 2) (j := 3) rfl sc_law_least.nd rfl rfl (by decide) rfl rfl (pa_cons pe_int (pa_cons (pv 1) pa_nil)) (by rfl))
    (pss_cons (ps_while (passes_of rfl) (pt_cmpR op_lt (pv 2) (pv 3) (nomark _))
    (pss_cons (ps_set (i := 4) sc_law_least.nd rfl (.inl rfl) (pe_op op_fdivW (pe_op op_add (pv 2) (pv 3)) pe_int))
    (pss_one (ps_if (pt_cmpR op_le (pv 1) (Ev.pe_cE c_law_top hgd hr (by decide) (Ev.passE (takes_of rfl rfl rfl rfl)) (by rfl) (pa_cons (pv 0) (pa_cons (pv 4) pa_nil))) (nomark _))
    (pss_one (ps_set (i := 3) sc_law_least.nd rfl (.inl rfl) (pv 4)))
    (pss_one (ps_set (i := 2) sc_law_least.nd rfl (.inl rfl) (pe_op op_add (pv 4) pe_int)))))))
    (pss_one (ps_ret (pv 2))))), fun z hK hcm hW hl => ?_⟩
  subst hK hcm
  unfold b_law_least
  walk_at "ev s0"
  with_reducible exact (sim_seq (sim_par (sim_cons (by first | with_reducible exact (sim_c fun _ => .int _) | with_reducible exact sim_cval T.cv_WeightRule_MOST fun _ => .int _) (sim_cons sim_var sim_nil))) (sim_seq (sim_while (by (first | with_reducible refine sim_b ?_ | with_reducible refine sim_test ?_); exact (sim_op simR_lt sim_var sim_var)) (sim_seq (sim_asg (sim_op simR_div (sim_op simR_add sim_var sim_var) (by first | with_reducible exact (sim_c fun _ => .int _) | with_reducible exact sim_cval T.cv_WeightRule_MOST fun _ => .int _)) sim_gN) (sim_ifS (by (first | with_reducible refine sim_b ?_ | with_reducible refine sim_test ?_); exact (sim_op simR_le sim_var (sim_call (by first | exact hl3 | exact hl2 | exact hl | exact link0 (by first | exact hW | rfl)) (fun _ => .nil) (sim_cons sim_var (sim_cons sim_var sim_nil))))) (sim_asg sim_var sim_gN) (sim_asg (sim_op simR_add sim_var (by first | with_reducible exact (sim_c fun _ => .int _) | with_reducible exact sim_cval T.cv_WeightRule_MOST fun _ => .int _)) sim_gN)))) (sim_ret sim_var)))
end
end K31
set_option hygiene false
namespace K31
open PySem L2 Pu
theorem sc_law_halves : FnScope ["_law_many"] ["_law_many"] (C8.fnScope (top 54)) := C8.fnScope_by (by decide +kernel)
def b_law_halves : (List PV → M PV) → MS := fun rr => (mRet (mIf (mB (mOp pEq (mVar 0) (mC (.int 0)))) (mTup mNil) (mTup (mCons (mCall 1 rr [] (mCons (mOp pDiv (mVar 0) (mC (.int 2))) mNil)) (mCons (mCall 1 rr [] (mCons (mOp pDiv (mOp pSub (mVar 0) (mC (.int 1))) (mC (.int 2))) mNil)) mNil)))))
def mr_law_halves : Nat → List PV → M PV
  | 0 => fun _ _ _ _ => False
  | d + 1 => mFnX 1 (b_law_halves (mr_law_halves d))
def m_law_halves : List PV → M PV := mr_law_halves 14
theorem run_law_halves {d : Nat} {a0 : PV} {W : XP} {n : Nat} {Q : PV → Nat → Prop} (h : b_law_halves (mr_law_halves d) (fun _ => W) { nx := fun _ n' => Q .non n', rt := Q } [.val a0] n) : mr_law_halves (d + 1) [a0] W n Q := h
section
variable {P : Program} {w : World} {K : PySem.W.Frag} {mg : Str → Option Value} {base : Heap} {cm : Pu.Md} {C_Rule : Addr} {C_WeightRule : Addr} {C_TurnRule : Addr} {C_TryRule : Addr} {X_BadRule : Addr} {X_NoHalves : Addr} {X_BadNumber : Addr} {X_BadOther : Addr} {X_BadText : Addr} {X_FairError : Addr}
theorem okr_law_halves {f : Addr} {fd : FuncData} (F : Ev.Fn K "_law_halves" "_law_halves" (top 54) f fd) (T : Tx K mg cm C_Rule C_WeightRule C_TurnRule C_TryRule X_BadRule X_NoHalves X_BadNumber X_BadOther X_BadText X_FairError) (hmf : mg "_law_halves" = some (.ref f)) (hkf : PySem.W.keepIn K (.ref f) = true) (hbf : Binds K fd ["_law_many"] []) : ∀ d : Nat, Ev.GOk P w K mg base (L2.CX P w) (0 + d) f fd ["_law_many"] (spP K cm 1 (mr_law_halves d)) := by
  intro d
  induction d with
  | zero => exact gok_none fun _ _ _ _ h => h
  | succ d ih =>
    have c_rec : Ev.GC P w K mg base (0 + d) "_law_halves" (spP K cm 1 (mr_law_halves d)) [] := ⟨⟨_, _, _, _, ih, hmf, hkf, hbf, .nil⟩⟩
    show Ev.GOk P w K mg base (L2.CX P w) (0 + d + 1) f fd ["_law_many"] (spP K cm 1 (mFnX 1 (b_law_halves (mr_law_halves d))))
    refine qfnX (k := 0 + d) (by decide) F sc_law_halves fun cdv A outer s H E hcode hgd hr => ?_
    have hu : _ + 64 < cLine := hr.units
    refine ⟨_, (pss_one (ps_ret (pe_ifExp (pt_cmpR op_eq (pv 0) pe_int (nomark _)) (pe_tup pa_nil) (pe_tup (pa_cons (Ev.pe_cE c_rec hgd hr (by omega) (Ev.passE (takes_of rfl rfl rfl rfl)) (by rfl) (pa_cons (pe_op op_fdivW (pv 0) pe_int) pa_nil)) (pa_cons (Ev.pe_cE c_rec hgd hr (by omega) (Ev.passE (takes_of rfl rfl rfl rfl)) (by rfl) (pa_cons (pe_op op_fdivW (pe_op op_sub (pv 0) pe_int) pe_int) pa_nil)) pa_nil)))))), fun z hK hcm hW hl => ?_⟩
    subst hK hcm
    unfold b_law_halves
    walk_at "ev s0"
    with_reducible exact (sim_ret (sim_if (by (first | with_reducible refine sim_b ?_ | with_reducible refine sim_test ?_); exact (sim_op simR_eq sim_var (by first | with_reducible exact (sim_c fun _ => .int _) | with_reducible exact sim_cval T.cv_WeightRule_MOST fun _ => .int _))) (sim_tup sim_nil) (sim_tup (sim_cons (sim_call (by first | exact hl3 | exact hl2 | exact hl | exact link0 (by first | exact hW | rfl)) (fun _ => .nil) (sim_cons (sim_op simR_div sim_var (by first | with_reducible exact (sim_c fun _ => .int _) | with_reducible exact sim_cval T.cv_WeightRule_MOST fun _ => .int _)) sim_nil)) (sim_cons (sim_call (by first | exact hl3 | exact hl2 | exact hl | exact link0 (by first | exact hW | rfl)) (fun _ => .nil) (sim_cons (sim_op simR_div (sim_op simR_sub sim_var (by first | with_reducible exact (sim_c fun _ => .int _) | with_reducible exact sim_cval T.cv_WeightRule_MOST fun _ => .int _)) (by first | with_reducible exact (sim_c fun _ => .int _) | with_reducible exact sim_cval T.cv_WeightRule_MOST fun _ => .int _)) sim_nil)) sim_nil)))))
theorem ok_law_halves {f : Addr} {fd : FuncData} (F : Ev.Fn K "_law_halves" "_law_halves" (top 54) f fd) (T : Tx K mg cm C_Rule C_WeightRule C_TurnRule C_TryRule X_BadRule X_NoHalves X_BadNumber X_BadOther X_BadText X_FairError) (hmf : mg "_law_halves" = some (.ref f)) (hkf : PySem.W.keepIn K (.ref f) = true) (hbf : Binds K fd ["_law_many"] []) : Ev.GOk P w K mg base (L2.CX P w) 14 f fd ["_law_many"] (spP K cm 1 m_law_halves) := okr_law_halves F T hmf hkf hbf 14
end
end K31
set_option hygiene false
namespace K31
open PySem L2 Pu
theorem sc_law_tall : FnScope ["_law_some", "_law_weight", "_law_below", "_law_least_so", "_law_heavy"] ["_law_some", "_law_weight"] (C8.fnScope (top 55)) := C8.fnScope_by (by decide +kernel)
def b_law_tall : (List PV → M PV) → MS := fun rr => (mSeq (mIfS (mB (mOp pEq (mVar 1) (mC (.int 1))))
  (mRet (mTup mNil))
  mNext)
  (mSeq (mAsg (mTup (mCons (mC (.int 1)) (mCons (mC (.int 2)) mNil))) (mgT 2 (mgCons (mgN 2) (mgCons (mgN 3) mgNil))))
  (mSeq (mWhile (mB (mOp pLe (mOp pAdd (mVar 3) (mCall 2 m_law_least [] (mCons (mVar 0) (mCons (mVar 3) mNil)))) (mVar 1)))
  (mPar 2 3 (mCons (mVar 3) (mCons (mOp pAdd (mVar 3) (mCall 2 m_law_least [] (mCons (mVar 0) (mCons (mVar 3) mNil)))) mNil))))
  (mSeq (mAsg (mCB pMax2 (mCons (mCB pInt1 (mCons (mVar 2) mNil)) (mCons (mOp pDiv (mCB pInt1 (mCons (mOp pAdd (mVar 1) (mC (.int 1))) mNil)) (mC (.int 2))) mNil))) (mgN 4))
  (mRet (mTup (mCons (mCall 2 rr [] (mCons (mVar 0) (mCons (mVar 4) mNil))) (mCons (mCall 1 m_law_halves [] (mCons (mOp pSub (mOp pSub (mVar 1) (mVar 4)) (mC (.int 1))) mNil)) mNil))))))))
def mr_law_tall : Nat → List PV → M PV
  | 0 => fun _ _ _ _ => False
  | d + 1 => mFnX 5 (b_law_tall (mr_law_tall d))
def m_law_tall : List PV → M PV := mr_law_tall 60
theorem run_law_tall {d : Nat} {a0 a1 : PV} {W : XP} {n : Nat} {Q : PV → Nat → Prop} (h : b_law_tall (mr_law_tall d) (fun _ => W) { nx := fun _ n' => Q .non n', rt := Q } [.val a0, .val a1, .no, .no, .no] n) : mr_law_tall (d + 1) [a0, a1] W n Q := h
section
variable {P : Program} {w : World} {K : PySem.W.Frag} {mg : Str → Option Value} {base : Heap} {cm : Pu.Md} {C_Rule : Addr} {C_WeightRule : Addr} {C_TurnRule : Addr} {C_TryRule : Addr} {X_BadRule : Addr} {X_NoHalves : Addr} {X_BadNumber : Addr} {X_BadOther : Addr} {X_BadText : Addr} {X_FairError : Addr}
theorem okr_law_tall {f : Addr} {fd : FuncData} (F : Ev.Fn K "_law_tall" "_law_tall" (top 55) f fd) (T : Tx K mg cm C_Rule C_WeightRule C_TurnRule C_TryRule X_BadRule X_NoHalves X_BadNumber X_BadOther X_BadText X_FairError) (c_law_least : Ev.GC P w K mg base 2 "_law_least" (spP K cm 2 m_law_least) []) (c_law_halves : Ev.GC P w K mg base 14 "_law_halves" (spP K cm 1 m_law_halves) []) (hmf : mg "_law_tall" = some (.ref f)) (hkf : PySem.W.keepIn K (.ref f) = true) (hbf : Binds K fd ["_law_some", "_law_weight"] []) : ∀ d : Nat, Ev.GOk P w K mg base (L2.CX P w) (14 + d) f fd ["_law_some", "_law_weight"] (spP K cm 2 (mr_law_tall d)) := by
  intro d
  induction d with
  | zero => exact gok_none fun _ _ _ _ h => h
  | succ d ih =>
    have c_rec : Ev.GC P w K mg base (14 + d) "_law_tall" (spP K cm 2 (mr_law_tall d)) [] := ⟨⟨_, _, _, _, ih, hmf, hkf, hbf, .nil⟩⟩
    show Ev.GOk P w K mg base (L2.CX P w) (14 + d + 1) f fd ["_law_some", "_law_weight"] (spP K cm 2 (mFnX 5 (b_law_tall (mr_law_tall d))))
    refine qfnX (k := 14 + d) (by decide) F sc_law_tall fun cdv A outer s H E hcode hgd hr => ?_
    have hu : _ + 64 < cLine := hr.units
    refine ⟨_, (pss_cons (ps_if (pt_cmpR op_eq (pv 1) pe_int (nomark _))
      (pss_one (ps_ret (pe_tup pa_nil)))
      pss_nil)
      (pss_cons (ps_asg (pe_tup (pa_cons pe_int (pa_cons pe_int pa_nil))) (by exact (pg_tup (n := 2) rfl (pgs_cons (pg_name (i := 2) sc_law_tall.nd rfl (.inl rfl)) (pgs_cons (pg_name (i := 3) sc_law_tall.nd rfl (.inl rfl)) pgs_nil)))))
      (pss_cons (ps_while (passes_of rfl) (pt_cmpR op_le (pe_op op_add (pv 3) (Ev.pe_cE c_law_least hgd hr (by omega) (Ev.passE (takes_of rfl rfl rfl rfl)) (by rfl) (pa_cons (pv 0) (pa_cons (pv 3) pa_nil)))) (pv 1) (nomark _))
      (pss_one (ps_par (i := 2) (j := 3) rfl sc_law_tall.nd rfl rfl (by decide) rfl rfl (pa_cons (pv 3) (pa_cons (pe_op op_add (pv 3) (Ev.pe_cE c_law_least hgd hr (by omega) (Ev.passE (takes_of rfl rfl rfl rfl)) (by rfl) (pa_cons (pv 0) (pa_cons (pv 3) pa_nil)))) pa_nil)) (by rfl))))
      (pss_cons (ps_set (i := 4) sc_law_tall.nd rfl (.inl rfl) (pe_callB (call_max2 rfl) (by rfl) T.m_max (by decide +kernel) (pa_cons (pe_callTy call_int1 (by rfl) T.m_int (by decide +kernel) (pa_cons (pv 2) pa_nil)) (pa_cons (pe_op op_fdivW (pe_callTy call_int1 (by rfl) T.m_int (by decide +kernel) (pa_cons (pe_op op_add (pv 1) pe_int) pa_nil)) pe_int) pa_nil))))
      (pss_one (ps_ret (pe_tup (pa_cons (Ev.pe_cE c_rec hgd hr (by omega) (Ev.passE (takes_of rfl rfl rfl rfl)) (by rfl) (pa_cons (pv 0) (pa_cons (pv 4) pa_nil))) (pa_cons (Ev.pe_cE c_law_halves hgd hr (by omega) (Ev.passE (takes_of rfl rfl rfl rfl)) (by rfl) (pa_cons (pe_op op_sub (pe_op op_sub (pv 1) (pv 4)) pe_int) pa_nil)) pa_nil))))))))), fun z hK hcm hW hl => ?_⟩
    subst hK hcm
    unfold b_law_tall
    walk_at "ev s0"
    with_reducible exact (sim_seq (sim_ifS (by (first | with_reducible refine sim_b ?_ | with_reducible refine sim_test ?_); exact (sim_op simR_eq sim_var (by first | with_reducible exact (sim_c fun _ => .int _) | with_reducible exact sim_cval T.cv_WeightRule_MOST fun _ => .int _))) (sim_ret (sim_tup sim_nil)) sim_next) (sim_seq (sim_asg (sim_tup (sim_cons (by first | with_reducible exact (sim_c fun _ => .int _) | with_reducible exact sim_cval T.cv_WeightRule_MOST fun _ => .int _) (sim_cons (by first | with_reducible exact (sim_c fun _ => .int _) | with_reducible exact sim_cval T.cv_WeightRule_MOST fun _ => .int _) sim_nil))) (sim_gT (sim_gCons sim_gN (sim_gCons sim_gN sim_gNil)))) (sim_seq (sim_while (by (first | with_reducible refine sim_b ?_ | with_reducible refine sim_test ?_); exact (sim_op simR_le (sim_op simR_add sim_var (sim_call (by first | exact hl3 | exact hl2 | exact hl | exact link0 (by first | exact hW | rfl)) (fun _ => .nil) (sim_cons sim_var (sim_cons sim_var sim_nil)))) sim_var)) (sim_par (sim_cons sim_var (sim_cons (sim_op simR_add sim_var (sim_call (by first | exact hl3 | exact hl2 | exact hl | exact link0 (by first | exact hW | rfl)) (fun _ => .nil) (sim_cons sim_var (sim_cons sim_var sim_nil)))) sim_nil)))) (sim_seq (sim_asg (sim_cb simC_max2 (sim_cons (sim_cb simC_int1 (sim_cons sim_var sim_nil)) (sim_cons (sim_op simR_div (sim_cb simC_int1 (sim_cons (sim_op simR_add sim_var (by first | with_reducible exact (sim_c fun _ => .int _) | with_reducible exact sim_cval T.cv_WeightRule_MOST fun _ => .int _)) sim_nil)) (by first | with_reducible exact (sim_c fun _ => .int _) | with_reducible exact sim_cval T.cv_WeightRule_MOST fun _ => .int _)) sim_nil))) sim_gN) (sim_ret (sim_tup (sim_cons (sim_call (by first | exact hl3 | exact hl2 | exact hl | exact link0 (by first | exact hW | rfl)) (fun _ => .nil) (sim_cons sim_var (sim_cons sim_var sim_nil))) (sim_cons (sim_call (by first | exact hl3 | exact hl2 | exact hl | exact link0 (by first | exact hW | rfl)) (fun _ => .nil) (sim_cons (sim_op simR_sub (sim_op simR_sub sim_var sim_var) (by first | with_reducible exact (sim_c fun _ => .int _) | with_reducible exact sim_cval T.cv_WeightRule_MOST fun _ => .int _)) sim_nil)) sim_nil))))))))
theorem ok_law_tall {f : Addr} {fd : FuncData} (F : Ev.Fn K "_law_tall" "_law_tall" (top 55) f fd) (T : Tx K mg cm C_Rule C_WeightRule C_TurnRule C_TryRule X_BadRule X_NoHalves X_BadNumber X_BadOther X_BadText X_FairError) (c_law_least : Ev.GC P w K mg base 2 "_law_least" (spP K cm 2 m_law_least) []) (c_law_halves : Ev.GC P w K mg base 14 "_law_halves" (spP K cm 1 m_law_halves) []) (hmf : mg "_law_tall" = some (.ref f)) (hkf : PySem.W.keepIn K (.ref f) = true) (hbf : Binds K fd ["_law_some", "_law_weight"] []) : Ev.GOk P w K mg base (L2.CX P w) 74 f fd ["_law_some", "_law_weight"] (spP K cm 2 m_law_tall) := okr_law_tall F T c_law_least c_law_halves hmf hkf hbf 60
end
end K31
set_option hygiene false
namespace K31
open PySem L2 Pu
theorem sc_is_pair : FnScope ["value"] ["value"] (C8.fnScope (top 39)) := C8.fnScope_by (by decide +kernel)
def b_is_pair : MS := (mRet (mAndV (mIsiT "tuple" (mVar 0)) (mOp (pIn false) (mCB pLen (mCons (mVar 0) mNil)) (mTup (mCons (mC (.int 0)) (mCons (mC (.int 2)) mNil))))))
def m_is_pair : List PV → M PV := mFnX 1 b_is_pair
theorem run_is_pair {a0 : PV} {W : XP} {n : Nat} {Q : PV → Nat → Prop} (h : b_is_pair (fun _ => W) { nx := fun _ n' => Q .non n', rt := Q } [.val a0] n) : m_is_pair [a0] W n Q := h
section
variable {P : Program} {w : World} {K : PySem.W.Frag} {mg : Str → Option Value} {base : Heap} {cm : Pu.Md} {C_Rule : Addr} {C_WeightRule : Addr} {C_TurnRule : Addr} {C_TryRule : Addr} {X_BadRule : Addr} {X_NoHalves : Addr} {X_BadNumber : Addr} {X_BadOther : Addr} {X_BadText : Addr} {X_FairError : Addr}
theorem ok_is_pair {f : Addr} {fd : FuncData} (F : Ev.Fn K "is_pair" "is_pair" (top 39) f fd) (T : Tx K mg cm C_Rule C_WeightRule C_TurnRule C_TryRule X_BadRule X_NoHalves X_BadNumber X_BadOther X_BadText X_FairError) : Ev.GOk P w K mg base (L2.CX P w) 1 f fd ["value"] (spP K cm 1 m_is_pair) := by
  refine qfnX (by decide) F sc_is_pair fun cdv A outer s H E hcode hgd hr => ?_
  have hu : _ + 64 < cLine := hr.units
  refine ⟨_, (pss_one (ps_ret (pe_and (pe_callB call_isi (by rfl) T.m_isinstance (by decide +kernel) (pa_cons (pv 0) (pa_cons (pe_bltn (v := .ty "tuple") (u := .type "tuple") (by rfl) T.m_tuple (by decide +kernel) rfl) pa_nil))) (pe_one (pe_cmpR op_in_seq (pe_callB call_len_seq (by rfl) T.m_len (by decide +kernel) (pa_cons (pv 0) pa_nil)) (pe_tup (pa_cons pe_int (pa_cons pe_int pa_nil))) (by rfl)))))), fun z hK hcm hW hl => ?_⟩
  subst hK hcm
  unfold b_is_pair
  walk_at "ev s0"
  with_reducible exact (sim_ret (sim_andV (sim_isiT (by decide) T.kt sim_var) (sim_op simR_in (sim_cb simC_len (sim_cons sim_var sim_nil)) (sim_tup (sim_cons (by first | with_reducible exact (sim_c fun _ => .int _) | with_reducible exact sim_cval T.cv_WeightRule_MOST fun _ => .int _) (sim_cons (by first | with_reducible exact (sim_c fun _ => .int _) | with_reducible exact sim_cval T.cv_WeightRule_MOST fun _ => .int _) sim_nil))))))
end
end K31
set_option hygiene false
namespace K31
open PySem L2 Pu
theorem sc_WeightRule_is_fair : FnScope ["self", "one", "other"] ["self", "one", "other"] (C8.fnScope (inClass (top 18) 5)) := C8.fnScope_by (by decide +kernel)
def b_WeightRule_is_fair : MS := (mRet (mOp pLe (mCB pMax2 (mCons (mCB pInt1 (mCons (mVar 1) mNil)) (mCons (mCB pInt1 (mCons (mVar 2) mNil)) mNil))) (mMethD [("TurnRule", m_WeightRule_beside), ("TryRule", m_WeightRule_beside)] "beside" 2 [] (mVar 0) (mCons (mCB pMin2 (mCons (mCB pInt1 (mCons (mVar 1) mNil)) (mCons (mCB pInt1 (mCons (mVar 2) mNil)) mNil))) mNil))))
def m_WeightRule_is_fair : List PV → M PV := mFnX 3 b_WeightRule_is_fair
theorem run_WeightRule_is_fair {a0 a1 a2 : PV} {W : XP} {n : Nat} {Q : PV → Nat → Prop} (h : b_WeightRule_is_fair (fun _ => W) { nx := fun _ n' => Q .non n', rt := Q } [.val a0, .val a1, .val a2] n) : m_WeightRule_is_fair [a0, a1, a2] W n Q := h
section
variable {P : Program} {w : World} {K : PySem.W.Frag} {mg : Str → Option Value} {base : Heap} {cm : Pu.Md} {C_Rule : Addr} {C_WeightRule : Addr} {C_TurnRule : Addr} {C_TryRule : Addr} {X_BadRule : Addr} {X_NoHalves : Addr} {X_BadNumber : Addr} {X_BadOther : Addr} {X_BadText : Addr} {X_FairError : Addr}
theorem ok_WeightRule_is_fair {f : Addr} {fd : FuncData} (F : Ev.Fn K "is_fair" "WeightRule.is_fair" (inClass (top 18) 5) f fd) (T : Tx K mg cm C_Rule C_WeightRule C_TurnRule C_TryRule X_BadRule X_NoHalves X_BadNumber X_BadOther X_BadText X_FairError) (c_pbeside_TurnRule_TryRule : ∀ C sp, ((C = C_TurnRule ∧ sp = spP K cm 2 m_WeightRule_beside) ∨ (C = C_TryRule ∧ sp = spP K cm 2 m_WeightRule_beside)) → Ev.GM P w K mg base 1 C "beside" sp []) : Ev.GOk P w K mg base (L2.CX P w) 2 f fd ["self", "one", "other"] (spP K cm 3 m_WeightRule_is_fair) := by
  refine qfnX (by decide) F sc_WeightRule_is_fair fun cdv A outer s H E hcode hgd hr => ?_
  have hu : _ + 64 < cLine := hr.units
  refine ⟨_, (pss_one (ps_ret (pe_cmpR op_le (pe_callB (call_max2 rfl) (by rfl) T.m_max (by decide +kernel) (pa_cons (pe_callTy call_int1 (by rfl) T.m_int (by decide +kernel) (pa_cons (pv 1) pa_nil)) (pa_cons (pe_callTy call_int1 (by rfl) T.m_int (by decide +kernel) (pa_cons (pv 2) pa_nil)) pa_nil))) (Ev.pe_mD (D := fun C sp => (C = C_TurnRule ∧ sp = spP K cm 2 m_WeightRule_beside) ∨ (C = C_TryRule ∧ sp = spP K cm 2 m_WeightRule_beside)) c_pbeside_TurnRule_TryRule hgd hr (by decide) (Ev.passE (takes_of rfl rfl rfl rfl)) (pv 0) (pa_cons (pe_callB (call_min2 rfl) (by rfl) T.m_min (by decide +kernel) (pa_cons (pe_callTy call_int1 (by rfl) T.m_int (by decide +kernel) (pa_cons (pv 1) pa_nil)) (pa_cons (pe_callTy call_int1 (by rfl) T.m_int (by decide +kernel) (pa_cons (pv 2) pa_nil)) pa_nil))) pa_nil)) (nomark _)))), fun z hK hcm hW hl => ?_⟩
  subst hK hcm
  unfold b_WeightRule_is_fair
  walk_at "ev s0"
  with_reducible exact (sim_ret (sim_op simR_le (sim_cb simC_max2 (sim_cons (sim_cb simC_int1 (sim_cons sim_var sim_nil)) (sim_cons (sim_cb simC_int1 (sim_cons sim_var sim_nil)) sim_nil))) (sim_methD (by first | exact hl3 | exact hl2 | exact hl | exact link0 (by first | exact hW | rfl)) (by (intro c m C h1 h2; replace h1 := lk_mem h1; simp only [List.mem_cons, Prod.mk.injEq, List.not_mem_nil, or_false] at h1; (repeat' (refine Or.elim h1 ?_ ?_ <;> clear h1 <;> intro h1)); all_goals (obtain ⟨rfl, rfl⟩ := h1; (simp only [T.cm_Rule, T.cm_WeightRule, T.cm_TurnRule, T.cm_TryRule, Option.some.injEq] at h2; subst h2; simp)))) (fun _ => .nil) sim_var (sim_cons (sim_cb simC_min2 (sim_cons (sim_cb simC_int1 (sim_cons sim_var sim_nil)) (sim_cons (sim_cb simC_int1 (sim_cons sim_var sim_nil)) sim_nil))) sim_nil))))
end
end K31
set_option hygiene false
namespace K31
open PySem L2 Pu
theorem sc_fair_weight : FnScope ["rule", "value", "left", "right"] ["rule", "value"] (C8.fnScope (top 44)) := C8.fnScope_by (by decide +kernel)
def b_fair_weight : (List PV → M PV) → MS := fun rr => (mSeq (mIfS (mNot (mB (mCall 1 m_is_pair [] (mCons (mVar 1) mNil))))
  (mRet (mC .non))
  mNext)
  (mSeq (mIfS (mB (mOp pEq (mCB pLen (mCons (mVar 1) mNil)) (mC (.int 0))))
  (mRet (mC (.int 1)))
  mNext)
  (mSeq (mPar 2 3 (mCons (mCall 2 rr [] (mCons (mVar 0) (mCons (mOp pIxT (mVar 1) (mC (.int 0))) mNil))) (mCons (mCall 2 rr [] (mCons (mVar 0) (mCons (mOp pIxT (mVar 1) (mC (.int 1))) mNil))) mNil)))
  (mSeq (mIfS (mOr (mB (mOp pIsN (mVar 2) (mC .non))) (mOr (mB (mOp pIsN (mVar 3) (mC .non))) (mNot (mB (mMethD [("TryRule", m_WeightRule_is_fair), ("TurnRule", m_WeightRule_is_fair)] "is_fair" 3 [] (mVar 0) (mCons (mVar 2) (mCons (mVar 3) mNil)))))))
  (mRet (mC .non))
  mNext)
  (mRet (mOp pAdd (mVar 2) (mVar 3)))))))
def mr_fair_weight : Nat → List PV → M PV
  | 0 => fun _ _ _ _ => False
  | d + 1 => mFnX 4 (b_fair_weight (mr_fair_weight d))
def m_fair_weight : List PV → M PV := mr_fair_weight 60
theorem run_fair_weight {d : Nat} {a0 a1 : PV} {W : XP} {n : Nat} {Q : PV → Nat → Prop} (h : b_fair_weight (mr_fair_weight d) (fun _ => W) { nx := fun _ n' => Q .non n', rt := Q } [.val a0, .val a1, .no, .no] n) : mr_fair_weight (d + 1) [a0, a1] W n Q := h
section
variable {P : Program} {w : World} {K : PySem.W.Frag} {mg : Str → Option Value} {base : Heap} {cm : Pu.Md} {C_Rule : Addr} {C_WeightRule : Addr} {C_TurnRule : Addr} {C_TryRule : Addr} {X_BadRule : Addr} {X_NoHalves : Addr} {X_BadNumber : Addr} {X_BadOther : Addr} {X_BadText : Addr} {X_FairError : Addr}
theorem okr_fair_weight {f : Addr} {fd : FuncData} (F : Ev.Fn K "fair_weight" "fair_weight" (top 44) f fd) (T : Tx K mg cm C_Rule C_WeightRule C_TurnRule C_TryRule X_BadRule X_NoHalves X_BadNumber X_BadOther X_BadText X_FairError) (c_is_pair : Ev.GC P w K mg base 1 "is_pair" (spP K cm 1 m_is_pair) []) (c_pis_fair_TryRule_TurnRule : ∀ C sp, ((C = C_TryRule ∧ sp = spP K cm 3 m_WeightRule_is_fair) ∨ (C = C_TurnRule ∧ sp = spP K cm 3 m_WeightRule_is_fair)) → Ev.GM P w K mg base 2 C "is_fair" sp []) (hmf : mg "fair_weight" = some (.ref f)) (hkf : PySem.W.keepIn K (.ref f) = true) (hbf : Binds K fd ["rule", "value"] []) : ∀ d : Nat, Ev.GOk P w K mg base (L2.CX P w) (2 + d) f fd ["rule", "value"] (spP K cm 2 (mr_fair_weight d)) := by
  intro d
  induction d with
  | zero => exact gok_none fun _ _ _ _ h => h
  | succ d ih =>
    have c_rec : Ev.GC P w K mg base (2 + d) "fair_weight" (spP K cm 2 (mr_fair_weight d)) [] := ⟨⟨_, _, _, _, ih, hmf, hkf, hbf, .nil⟩⟩
    show Ev.GOk P w K mg base (L2.CX P w) (2 + d + 1) f fd ["rule", "value"] (spP K cm 2 (mFnX 4 (b_fair_weight (mr_fair_weight d))))
    refine qfnX (k := 2 + d) (by decide) F sc_fair_weight fun cdv A outer s H E hcode hgd hr => ?_
    have hu : _ + 64 < cLine := hr.units
    refine ⟨_, (pss_cons (ps_if (pt_not (pt_val (Ev.pe_cE c_is_pair hgd hr (by omega) (Ev.passE (takes_of rfl rfl rfl rfl)) (by rfl) (pa_cons (pv 1) pa_nil))))
      (pss_one (ps_ret pe_non))
      pss_nil)
      (pss_cons (ps_if (pt_cmpR op_eq (pe_callB call_len_seq (by rfl) T.m_len (by decide +kernel) (pa_cons (pv 1) pa_nil)) pe_int (nomark _))
      (pss_one (ps_ret pe_int))
      pss_nil)
      (pss_cons (ps_par (i := 2) (j := 3) rfl sc_fair_weight.nd rfl rfl (by decide) rfl rfl (pa_cons (Ev.pe_cE c_rec hgd hr (by omega) (Ev.passE (takes_of rfl rfl rfl rfl)) (by rfl) (pa_cons (pv 0) (pa_cons (pe_ix ix_tup (pv 1) pe_int (fun _ _ => rfl)) pa_nil))) (pa_cons (Ev.pe_cE c_rec hgd hr (by omega) (Ev.passE (takes_of rfl rfl rfl rfl)) (by rfl) (pa_cons (pv 0) (pa_cons (pe_ix ix_tup (pv 1) pe_int (fun _ _ => rfl)) pa_nil))) pa_nil)) (by rfl))
      (pss_cons (ps_if (pw_or (pt_cmpR op_isN (pv 2) pe_non (nomark _)) (pw_or (pt_cmpR op_isN (pv 3) pe_non (nomark _)) (pw_or1 (pt_not (pt_val (Ev.pe_mD (D := fun C sp => (C = C_TryRule ∧ sp = spP K cm 3 m_WeightRule_is_fair) ∨ (C = C_TurnRule ∧ sp = spP K cm 3 m_WeightRule_is_fair)) c_pis_fair_TryRule_TurnRule hgd hr (by omega) (Ev.passE (takes_of rfl rfl rfl rfl)) (pv 0) (pa_cons (pv 2) (pa_cons (pv 3) pa_nil)))))))).pt
      (pss_one (ps_ret pe_non))
      pss_nil)
      (pss_one (ps_ret (pe_op op_add (pv 2) (pv 3)))))))), fun z hK hcm hW hl => ?_⟩
    subst hK hcm
    unfold b_fair_weight
    walk_at "ev s0"
    with_reducible exact (sim_seq (sim_ifS (sim_not (by (first | with_reducible refine sim_b ?_ | with_reducible refine sim_test ?_); exact (sim_call (by first | exact hl3 | exact hl2 | exact hl | exact link0 (by first | exact hW | rfl)) (fun _ => .nil) (sim_cons sim_var sim_nil)))) (sim_ret (sim_c fun _ => .non)) sim_next) (sim_seq (sim_ifS (by (first | with_reducible refine sim_b ?_ | with_reducible refine sim_test ?_); exact (sim_op simR_eq (sim_cb simC_len (sim_cons sim_var sim_nil)) (by first | with_reducible exact (sim_c fun _ => .int _) | with_reducible exact sim_cval T.cv_WeightRule_MOST fun _ => .int _))) (sim_ret (by first | with_reducible exact (sim_c fun _ => .int _) | with_reducible exact sim_cval T.cv_WeightRule_MOST fun _ => .int _)) sim_next) (sim_seq (sim_par (sim_cons (sim_call (by first | exact hl3 | exact hl2 | exact hl | exact link0 (by first | exact hW | rfl)) (fun _ => .nil) (sim_cons sim_var (sim_cons (sim_op simR_ixT sim_var (by first | with_reducible exact (sim_c fun _ => .int _) | with_reducible exact sim_cval T.cv_WeightRule_MOST fun _ => .int _)) sim_nil))) (sim_cons (sim_call (by first | exact hl3 | exact hl2 | exact hl | exact link0 (by first | exact hW | rfl)) (fun _ => .nil) (sim_cons sim_var (sim_cons (sim_op simR_ixT sim_var (by first | with_reducible exact (sim_c fun _ => .int _) | with_reducible exact sim_cval T.cv_WeightRule_MOST fun _ => .int _)) sim_nil))) sim_nil))) (sim_seq (sim_ifS (sim_or (by (first | with_reducible refine sim_b ?_ | with_reducible refine sim_test ?_); exact (sim_op simR_isN sim_var (sim_c fun _ => .non))) (sim_or (by (first | with_reducible refine sim_b ?_ | with_reducible refine sim_test ?_); exact (sim_op simR_isN sim_var (sim_c fun _ => .non))) (sim_not (by (first | with_reducible refine sim_b ?_ | with_reducible refine sim_test ?_); exact (sim_methD (by first | exact hl3 | exact hl2 | exact hl | exact link0 (by first | exact hW | rfl)) (by (intro c m C h1 h2; replace h1 := lk_mem h1; simp only [List.mem_cons, Prod.mk.injEq, List.not_mem_nil, or_false] at h1; (repeat' (refine Or.elim h1 ?_ ?_ <;> clear h1 <;> intro h1)); all_goals (obtain ⟨rfl, rfl⟩ := h1; (simp only [T.cm_Rule, T.cm_WeightRule, T.cm_TurnRule, T.cm_TryRule, Option.some.injEq] at h2; subst h2; simp)))) (fun _ => .nil) sim_var (sim_cons sim_var (sim_cons sim_var sim_nil))))))) (sim_ret (sim_c fun _ => .non)) sim_next) (sim_ret (sim_op simR_add sim_var sim_var))))))
theorem ok_fair_weight {f : Addr} {fd : FuncData} (F : Ev.Fn K "fair_weight" "fair_weight" (top 44) f fd) (T : Tx K mg cm C_Rule C_WeightRule C_TurnRule C_TryRule X_BadRule X_NoHalves X_BadNumber X_BadOther X_BadText X_FairError) (c_is_pair : Ev.GC P w K mg base 1 "is_pair" (spP K cm 1 m_is_pair) []) (c_pis_fair_TryRule_TurnRule : ∀ C sp, ((C = C_TryRule ∧ sp = spP K cm 3 m_WeightRule_is_fair) ∨ (C = C_TurnRule ∧ sp = spP K cm 3 m_WeightRule_is_fair)) → Ev.GM P w K mg base 2 C "is_fair" sp []) (hmf : mg "fair_weight" = some (.ref f)) (hkf : PySem.W.keepIn K (.ref f) = true) (hbf : Binds K fd ["rule", "value"] []) : Ev.GOk P w K mg base (L2.CX P w) 62 f fd ["rule", "value"] (spP K cm 2 m_fair_weight) := okr_fair_weight F T c_is_pair c_pis_fair_TryRule_TurnRule hmf hkf hbf 60
end
end K31
set_option hygiene false
namespace K31
open PySem L2 Pu
theorem sc_is_fair : FnScope ["rule", "shape"] ["rule", "shape"] (C8.fnScope (top 45)) := C8.fnScope_by (by decide +kernel)
def b_is_fair : MS := (mSeq (mDrop (mCall 1 m_need_weight_rule [] (mCons (mVar 0) mNil)))
  (mRet (mOp pNotN (mCall 2 m_fair_weight [] (mCons (mVar 0) (mCons (mVar 1) mNil))) (mC .non))))
def m_is_fair : List PV → M PV := mFnX 2 b_is_fair
theorem run_is_fair {a0 a1 : PV} {W : XP} {n : Nat} {Q : PV → Nat → Prop} (h : b_is_fair (fun _ => W) { nx := fun _ n' => Q .non n', rt := Q } [.val a0, .val a1] n) : m_is_fair [a0, a1] W n Q := h
section
variable {P : Program} {w : World} {K : PySem.W.Frag} {mg : Str → Option Value} {base : Heap} {cm : Pu.Md} {C_Rule : Addr} {C_WeightRule : Addr} {C_TurnRule : Addr} {C_TryRule : Addr} {X_BadRule : Addr} {X_NoHalves : Addr} {X_BadNumber : Addr} {X_BadOther : Addr} {X_BadText : Addr} {X_FairError : Addr}
theorem ok_is_fair {f : Addr} {fd : FuncData} (F : Ev.Fn K "is_fair" "is_fair" (top 45) f fd) (T : Tx K mg cm C_Rule C_WeightRule C_TurnRule C_TryRule X_BadRule X_NoHalves X_BadNumber X_BadOther X_BadText X_FairError) (c_need_weight_rule : Ev.GC P w K mg base 3 "need_weight_rule" (spP K cm 1 m_need_weight_rule) []) (c_fair_weight : Ev.GC P w K mg base 62 "fair_weight" (spP K cm 2 m_fair_weight) []) : Ev.GOk P w K mg base (L2.CX P w) 63 f fd ["rule", "shape"] (spP K cm 2 m_is_fair) := by
  refine qfnX (by decide) F sc_is_fair fun cdv A outer s H E hcode hgd hr => ?_
  have hu : _ + 64 < cLine := hr.units
  refine ⟨_, (pss_cons (ps_expr (Ev.pe_cE c_need_weight_rule hgd hr (by decide) (Ev.passE (takes_of rfl rfl rfl rfl)) (by rfl) (pa_cons (pv 0) pa_nil)))
    (pss_one (ps_ret (pe_cmpR op_notN (Ev.pe_cE c_fair_weight hgd hr (by decide) (Ev.passE (takes_of rfl rfl rfl rfl)) (by rfl) (pa_cons (pv 0) (pa_cons (pv 1) pa_nil))) pe_non (nomark _))))), fun z hK hcm hW hl => ?_⟩
  subst hK hcm
  unfold b_is_fair
  walk_at "ev s0"
  with_reducible exact (sim_seq (sim_drop (sim_call (by first | exact hl3 | exact hl2 | exact hl | exact link0 (by first | exact hW | rfl)) (fun _ => .nil) (sim_cons sim_var sim_nil))) (sim_ret (sim_op simR_notN (sim_call (by first | exact hl3 | exact hl2 | exact hl | exact link0 (by first | exact hW | rfl)) (fun _ => .nil) (sim_cons sim_var (sim_cons sim_var sim_nil))) (sim_c fun _ => .non))))
end
end K31
set_option hygiene false
namespace K31
open PySem L2 Pu
theorem sc_measured : FnScope ["value", "left", "right"] ["value"] (C8.fnScope (top 40)) := C8.fnScope_by (by decide +kernel)
def b_measured : (List PV → M PV) → MS := fun rr => (mSeq (mIfS (mNot (mB (mCall 1 m_is_pair [] (mCons (mVar 0) mNil))))
  (mRet (mC .non))
  mNext)
  (mSeq (mIfS (mB (mOp pEq (mCB pLen (mCons (mVar 0) mNil)) (mC (.int 0))))
  (mRet (mTup (mCons (mC (.int 1)) (mCons (mC (.int 0)) mNil))))
  mNext)
  (mSeq (mPar 1 2 (mCons (mCall 1 rr [] (mCons (mOp pIxT (mVar 0) (mC (.int 0))) mNil)) (mCons (mCall 1 rr [] (mCons (mOp pIxT (mVar 0) (mC (.int 1))) mNil)) mNil)))
  (mSeq (mIfS (mOr (mB (mOp pIsN (mVar 1) (mC .non))) (mB (mOp pIsN (mVar 2) (mC .non))))
  (mRet (mC .non))
  mNext)
  (mRet (mTup (mCons (mOp pAdd (mOp pIxT (mVar 1) (mC (.int 0))) (mOp pIxT (mVar 2) (mC (.int 0)))) (mCons (mOp pAdd (mC (.int 1)) (mCB pMax2 (mCons (mCB pInt1 (mCons (mOp pIxT (mVar 1) (mC (.int 1))) mNil)) (mCons (mCB pInt1 (mCons (mOp pIxT (mVar 2) (mC (.int 1))) mNil)) mNil)))) mNil))))))))
def mr_measured : Nat → List PV → M PV
  | 0 => fun _ _ _ _ => False
  | d + 1 => mFnX 3 (b_measured (mr_measured d))
def m_measured : List PV → M PV := mr_measured 60
theorem run_measured {d : Nat} {a0 : PV} {W : XP} {n : Nat} {Q : PV → Nat → Prop} (h : b_measured (mr_measured d) (fun _ => W) { nx := fun _ n' => Q .non n', rt := Q } [.val a0, .no, .no] n) : mr_measured (d + 1) [a0] W n Q := h
section
variable {P : Program} {w : World} {K : PySem.W.Frag} {mg : Str → Option Value} {base : Heap} {cm : Pu.Md} {C_Rule : Addr} {C_WeightRule : Addr} {C_TurnRule : Addr} {C_TryRule : Addr} {X_BadRule : Addr} {X_NoHalves : Addr} {X_BadNumber : Addr} {X_BadOther : Addr} {X_BadText : Addr} {X_FairError : Addr}
theorem okr_measured {f : Addr} {fd : FuncData} (F : Ev.Fn K "measured" "measured" (top 40) f fd) (T : Tx K mg cm C_Rule C_WeightRule C_TurnRule C_TryRule X_BadRule X_NoHalves X_BadNumber X_BadOther X_BadText X_FairError) (c_is_pair : Ev.GC P w K mg base 1 "is_pair" (spP K cm 1 m_is_pair) []) (hmf : mg "measured" = some (.ref f)) (hkf : PySem.W.keepIn K (.ref f) = true) (hbf : Binds K fd ["value"] []) : ∀ d : Nat, Ev.GOk P w K mg base (L2.CX P w) (1 + d) f fd ["value"] (spP K cm 1 (mr_measured d)) := by
  intro d
  induction d with
  | zero => exact gok_none fun _ _ _ _ h => h
  | succ d ih =>
    have c_rec : Ev.GC P w K mg base (1 + d) "measured" (spP K cm 1 (mr_measured d)) [] := ⟨⟨_, _, _, _, ih, hmf, hkf, hbf, .nil⟩⟩
    show Ev.GOk P w K mg base (L2.CX P w) (1 + d + 1) f fd ["value"] (spP K cm 1 (mFnX 3 (b_measured (mr_measured d))))
    refine qfnX (k := 1 + d) (by decide) F sc_measured fun cdv A outer s H E hcode hgd hr => ?_
    have hu : _ + 64 < cLine := hr.units
    refine ⟨_, (pss_cons (ps_if (pt_not (pt_val (Ev.pe_cE c_is_pair hgd hr (by omega) (Ev.passE (takes_of rfl rfl rfl rfl)) (by rfl) (pa_cons (pv 0) pa_nil))))
      (pss_one (ps_ret pe_non))
      pss_nil)
      (pss_cons (ps_if (pt_cmpR op_eq (pe_callB call_len_seq (by rfl) T.m_len (by decide +kernel) (pa_cons (pv 0) pa_nil)) pe_int (nomark _))
      (pss_one (ps_ret (pe_tup (pa_cons pe_int (pa_cons pe_int pa_nil)))))
      pss_nil)
      (pss_cons (ps_par (i := 1) (j := 2) rfl sc_measured.nd rfl rfl (by decide) rfl rfl (pa_cons (Ev.pe_cE c_rec hgd hr (by omega) (Ev.passE (takes_of rfl rfl rfl rfl)) (by rfl) (pa_cons (pe_ix ix_tup (pv 0) pe_int (fun _ _ => rfl)) pa_nil)) (pa_cons (Ev.pe_cE c_rec hgd hr (by omega) (Ev.passE (takes_of rfl rfl rfl rfl)) (by rfl) (pa_cons (pe_ix ix_tup (pv 0) pe_int (fun _ _ => rfl)) pa_nil)) pa_nil)) (by rfl))
      (pss_cons (ps_if (pw_or (pt_cmpR op_isN (pv 1) pe_non (nomark _)) (pw_or1 (pt_cmpR op_isN (pv 2) pe_non (nomark _)))).pt
      (pss_one (ps_ret pe_non))
      pss_nil)
      (pss_one (ps_ret (pe_tup (pa_cons (pe_op op_add (pe_ix ix_tup (pv 1) pe_int (fun _ _ => rfl)) (pe_ix ix_tup (pv 2) pe_int (fun _ _ => rfl))) (pa_cons (pe_op op_add pe_int (pe_callB (call_max2 rfl) (by rfl) T.m_max (by decide +kernel) (pa_cons (pe_callTy call_int1 (by rfl) T.m_int (by decide +kernel) (pa_cons (pe_ix ix_tup (pv 1) pe_int (fun _ _ => rfl)) pa_nil)) (pa_cons (pe_callTy call_int1 (by rfl) T.m_int (by decide +kernel) (pa_cons (pe_ix ix_tup (pv 2) pe_int (fun _ _ => rfl)) pa_nil)) pa_nil)))) pa_nil))))))))), fun z hK hcm hW hl => ?_⟩
    subst hK hcm
    unfold b_measured
    walk_at "ev s0"
    with_reducible exact (sim_seq (sim_ifS (sim_not (by (first | with_reducible refine sim_b ?_ | with_reducible refine sim_test ?_); exact (sim_call (by first | exact hl3 | exact hl2 | exact hl | exact link0 (by first | exact hW | rfl)) (fun _ => .nil) (sim_cons sim_var sim_nil)))) (sim_ret (sim_c fun _ => .non)) sim_next) (sim_seq (sim_ifS (by (first | with_reducible refine sim_b ?_ | with_reducible refine sim_test ?_); exact (sim_op simR_eq (sim_cb simC_len (sim_cons sim_var sim_nil)) (by first | with_reducible exact (sim_c fun _ => .int _) | with_reducible exact sim_cval T.cv_WeightRule_MOST fun _ => .int _))) (sim_ret (sim_tup (sim_cons (by first | with_reducible exact (sim_c fun _ => .int _) | with_reducible exact sim_cval T.cv_WeightRule_MOST fun _ => .int _) (sim_cons (by first | with_reducible exact (sim_c fun _ => .int _) | with_reducible exact sim_cval T.cv_WeightRule_MOST fun _ => .int _) sim_nil)))) sim_next) (sim_seq (sim_par (sim_cons (sim_call (by first | exact hl3 | exact hl2 | exact hl | exact link0 (by first | exact hW | rfl)) (fun _ => .nil) (sim_cons (sim_op simR_ixT sim_var (by first | with_reducible exact (sim_c fun _ => .int _) | with_reducible exact sim_cval T.cv_WeightRule_MOST fun _ => .int _)) sim_nil)) (sim_cons (sim_call (by first | exact hl3 | exact hl2 | exact hl | exact link0 (by first | exact hW | rfl)) (fun _ => .nil) (sim_cons (sim_op simR_ixT sim_var (by first | with_reducible exact (sim_c fun _ => .int _) | with_reducible exact sim_cval T.cv_WeightRule_MOST fun _ => .int _)) sim_nil)) sim_nil))) (sim_seq (sim_ifS (sim_or (by (first | with_reducible refine sim_b ?_ | with_reducible refine sim_test ?_); exact (sim_op simR_isN sim_var (sim_c fun _ => .non))) (by (first | with_reducible refine sim_b ?_ | with_reducible refine sim_test ?_); exact (sim_op simR_isN sim_var (sim_c fun _ => .non)))) (sim_ret (sim_c fun _ => .non)) sim_next) (sim_ret (sim_tup (sim_cons (sim_op simR_add (sim_op simR_ixT sim_var (by first | with_reducible exact (sim_c fun _ => .int _) | with_reducible exact sim_cval T.cv_WeightRule_MOST fun _ => .int _)) (sim_op simR_ixT sim_var (by first | with_reducible exact (sim_c fun _ => .int _) | with_reducible exact sim_cval T.cv_WeightRule_MOST fun _ => .int _))) (sim_cons (sim_op simR_add (by first | with_reducible exact (sim_c fun _ => .int _) | with_reducible exact sim_cval T.cv_WeightRule_MOST fun _ => .int _) (sim_cb simC_max2 (sim_cons (sim_cb simC_int1 (sim_cons (sim_op simR_ixT sim_var (by first | with_reducible exact (sim_c fun _ => .int _) | with_reducible exact sim_cval T.cv_WeightRule_MOST fun _ => .int _)) sim_nil)) (sim_cons (sim_cb simC_int1 (sim_cons (sim_op simR_ixT sim_var (by first | with_reducible exact (sim_c fun _ => .int _) | with_reducible exact sim_cval T.cv_WeightRule_MOST fun _ => .int _)) sim_nil)) sim_nil)))) sim_nil))))))))
theorem ok_measured {f : Addr} {fd : FuncData} (F : Ev.Fn K "measured" "measured" (top 40) f fd) (T : Tx K mg cm C_Rule C_WeightRule C_TurnRule C_TryRule X_BadRule X_NoHalves X_BadNumber X_BadOther X_BadText X_FairError) (c_is_pair : Ev.GC P w K mg base 1 "is_pair" (spP K cm 1 m_is_pair) []) (hmf : mg "measured" = some (.ref f)) (hkf : PySem.W.keepIn K (.ref f) = true) (hbf : Binds K fd ["value"] []) : Ev.GOk P w K mg base (L2.CX P w) 61 f fd ["value"] (spP K cm 1 m_measured) := okr_measured F T c_is_pair hmf hkf hbf 60
end
end K31
namespace K31
open PySem L2 Pu
theorem sc_BadOther_init : FnScope ["self", "part"] ["self", "part"] (C8.fnScope (inClass (top 5) 0)) := C8.fnScope_by (by decide +kernel)
section
variable {P : Program} {w : World} {K : PySem.W.Frag} {mg : Str → Option Value} {base : Heap} {cm : Pu.Md} {C_Rule : Addr} {C_WeightRule : Addr} {C_TurnRule : Addr} {C_TryRule : Addr} {X_BadRule : Addr} {X_NoHalves : Addr} {X_BadNumber : Addr} {X_BadOther : Addr} {X_BadText : Addr} {X_FairError : Addr}
theorem ok_BadOther_init {f : Addr} {fd : FuncData} (F : Ev.Fn K "__init__" "BadOther.__init__" (inClass (top 5) 0) f fd) : FnOk P w K mg base (L2.CX P w) 1 f fd ["self", "part"] (Ev.spX1 K "part") := by
  obtain ⟨oc, od, dV, kV, doc, pm, an, cdv, ct, osl, rfl, lk, hcd⟩ := F.ex
  refine fn_of (N := ["self", "part"]) lk hcd sc_BadOther_init (fun vs H Q E h => by obtain ⟨a, C, y, rfl, _⟩ := h; rfl) fun A outer s H vs Q E hr h => ?_
  obtain ⟨a, C, y, rfl, T, h1, ha, k⟩ := h
  refine ⟨_, pss_one (ps_ost (pv 0) (pv 1)), ?_⟩
  exact ⟨y, rfl, .ref a, rfl, a, C, rfl, T, h1, .inl ⟨ha, fun dx n1 n2 => k dx n1 n2⟩⟩
end
end K31
set_option hygiene false
namespace K31
open PySem L2 Pu
theorem sc_needed : FnScope ["shape", "found"] ["shape"] (C8.fnScope (top 41)) := C8.fnScope_by (by decide +kernel)
def b_needed : MS := (mSeq (mAsg (mCall 1 m_measured [] (mCons (mVar 0) mNil)) (mgN 1))
  (mSeq (mIfS (mB (mOp pIsN (mVar 1) (mC .non)))
  (mRai1 "BadOther" "part" (mCons (mC (.str "shape")) mNil))
  mNext)
  (mRet (mVar 1))))
def m_needed : List PV → M PV := mFnX 2 b_needed
theorem run_needed {a0 : PV} {W : XP} {n : Nat} {Q : PV → Nat → Prop} (h : b_needed (fun _ => W) { nx := fun _ n' => Q .non n', rt := Q } [.val a0, .no] n) : m_needed [a0] W n Q := h
section
variable {P : Program} {w : World} {K : PySem.W.Frag} {mg : Str → Option Value} {base : Heap} {cm : Pu.Md} {C_Rule : Addr} {C_WeightRule : Addr} {C_TurnRule : Addr} {C_TryRule : Addr} {X_BadRule : Addr} {X_NoHalves : Addr} {X_BadNumber : Addr} {X_BadOther : Addr} {X_BadText : Addr} {X_FairError : Addr}
theorem ok_needed {f : Addr} {fd : FuncData} (F : Ev.Fn K "needed" "needed" (top 41) f fd) (T : Tx K mg cm C_Rule C_WeightRule C_TurnRule C_TryRule X_BadRule X_NoHalves X_BadNumber X_BadOther X_BadText X_FairError) (c_measured : Ev.GC P w K mg base 61 "measured" (spP K cm 1 m_measured) []) (xc_BadOther : Ev.XC P w K mg base "BadOther" X_BadOther (Ev.spX1 K "part") 1) : Ev.GOk P w K mg base (L2.CX P w) 62 f fd ["shape"] (spP K cm 1 m_needed) := by
  refine qfnX (by decide) F sc_needed fun cdv A outer s H E hcode hgd hr => ?_
  have hu : _ + 64 < cLine := hr.units
  refine ⟨_, (pss_cons (ps_set (i := 1) sc_needed.nd rfl (.inl rfl) (Ev.pe_cE c_measured hgd hr (by decide) (Ev.passE (takes_of rfl rfl rfl rfl)) (by rfl) (pa_cons (pv 0) pa_nil)))
    (pss_cons (ps_if (pt_cmpR op_isN (pv 1) pe_non (nomark _))
    (pss_one (Ev.ps_rai xc_BadOther rfl (takes_of rfl rfl rfl rfl) (hr.mono (by decide)) (by rfl) (pa_cons pe_str pa_nil)))
    pss_nil)
    (pss_one (ps_ret (pv 1))))), fun z hK hcm hW hl => ?_⟩
  subst hK hcm
  unfold b_needed
  walk_at "ev s0"
  with_reducible exact (sim_seq (sim_asg (sim_call (by first | exact hl3 | exact hl2 | exact hl | exact link0 (by first | exact hW | rfl)) (fun _ => .nil) (sim_cons sim_var sim_nil)) sim_gN) (sim_seq (sim_ifS (by (first | with_reducible refine sim_b ?_ | with_reducible refine sim_test ?_); exact (sim_op simR_isN sim_var (sim_c fun _ => .non))) (sim_rai1 (by first | exact hl3 | exact hl2 | exact hl | exact link0 (by first | exact hW | rfl)) T.cx_BadOther T.oe_BadOther (T.xn_part _ _ T.cx_BadOther) (sim_cons (by first | with_reducible exact (sim_c fun _ => .str _) | with_reducible exact sim_cval T.cv_WeightRule_MOST fun _ => .int _) sim_nil)) sim_next) (sim_ret sim_var)))
end
end K31
set_option hygiene false
namespace K31
open PySem L2 Pu
theorem sc_keys_of : FnScope ["shape"] ["shape"] (C8.fnScope (top 42)) := C8.fnScope_by (by decide +kernel)
def b_keys_of : MS := (mRet (mOp pSub (mOp pIxT (mCall 1 m_needed [] (mCons (mVar 0) mNil)) (mC (.int 0))) (mC (.int 1))))
def m_keys_of : List PV → M PV := mFnX 1 b_keys_of
theorem run_keys_of {a0 : PV} {W : XP} {n : Nat} {Q : PV → Nat → Prop} (h : b_keys_of (fun _ => W) { nx := fun _ n' => Q .non n', rt := Q } [.val a0] n) : m_keys_of [a0] W n Q := h
section
variable {P : Program} {w : World} {K : PySem.W.Frag} {mg : Str → Option Value} {base : Heap} {cm : Pu.Md} {C_Rule : Addr} {C_WeightRule : Addr} {C_TurnRule : Addr} {C_TryRule : Addr} {X_BadRule : Addr} {X_NoHalves : Addr} {X_BadNumber : Addr} {X_BadOther : Addr} {X_BadText : Addr} {X_FairError : Addr}
theorem ok_keys_of {f : Addr} {fd : FuncData} (F : Ev.Fn K "keys_of" "keys_of" (top 42) f fd) (T : Tx K mg cm C_Rule C_WeightRule C_TurnRule C_TryRule X_BadRule X_NoHalves X_BadNumber X_BadOther X_BadText X_FairError) (c_needed : Ev.GC P w K mg base 62 "needed" (spP K cm 1 m_needed) []) : Ev.GOk P w K mg base (L2.CX P w) 63 f fd ["shape"] (spP K cm 1 m_keys_of) := by
  refine qfnX (by decide) F sc_keys_of fun cdv A outer s H E hcode hgd hr => ?_
  have hu : _ + 64 < cLine := hr.units
  refine ⟨_, (pss_one (ps_ret (pe_op op_sub (pe_ix ix_tup (Ev.pe_cE c_needed hgd hr (by decide) (Ev.passE (takes_of rfl rfl rfl rfl)) (by rfl) (pa_cons (pv 0) pa_nil)) pe_int (fun _ _ => rfl)) pe_int))), fun z hK hcm hW hl => ?_⟩
  subst hK hcm
  unfold b_keys_of
  walk_at "ev s0"
  with_reducible exact (sim_ret (sim_op simR_sub (sim_op simR_ixT (sim_call (by first | exact hl3 | exact hl2 | exact hl | exact link0 (by first | exact hW | rfl)) (fun _ => .nil) (sim_cons sim_var sim_nil)) (by first | with_reducible exact (sim_c fun _ => .int _) | with_reducible exact sim_cval T.cv_WeightRule_MOST fun _ => .int _)) (by first | with_reducible exact (sim_c fun _ => .int _) | with_reducible exact sim_cval T.cv_WeightRule_MOST fun _ => .int _)))
end
end K31
set_option hygiene false
namespace K31
open PySem L2 Pu
theorem sc_height_of : FnScope ["shape"] ["shape"] (C8.fnScope (top 43)) := C8.fnScope_by (by decide +kernel)
def b_height_of : MS := (mRet (mOp pIxT (mCall 1 m_needed [] (mCons (mVar 0) mNil)) (mC (.int 1))))
def m_height_of : List PV → M PV := mFnX 1 b_height_of
theorem run_height_of {a0 : PV} {W : XP} {n : Nat} {Q : PV → Nat → Prop} (h : b_height_of (fun _ => W) { nx := fun _ n' => Q .non n', rt := Q } [.val a0] n) : m_height_of [a0] W n Q := h
section
variable {P : Program} {w : World} {K : PySem.W.Frag} {mg : Str → Option Value} {base : Heap} {cm : Pu.Md} {C_Rule : Addr} {C_WeightRule : Addr} {C_TurnRule : Addr} {C_TryRule : Addr} {X_BadRule : Addr} {X_NoHalves : Addr} {X_BadNumber : Addr} {X_BadOther : Addr} {X_BadText : Addr} {X_FairError : Addr}
theorem ok_height_of {f : Addr} {fd : FuncData} (F : Ev.Fn K "height_of" "height_of" (top 43) f fd) (T : Tx K mg cm C_Rule C_WeightRule C_TurnRule C_TryRule X_BadRule X_NoHalves X_BadNumber X_BadOther X_BadText X_FairError) (c_needed : Ev.GC P w K mg base 62 "needed" (spP K cm 1 m_needed) []) : Ev.GOk P w K mg base (L2.CX P w) 63 f fd ["shape"] (spP K cm 1 m_height_of) := by
  refine qfnX (by decide) F sc_height_of fun cdv A outer s H E hcode hgd hr => ?_
  have hu : _ + 64 < cLine := hr.units
  refine ⟨_, (pss_one (ps_ret (pe_ix ix_tup (Ev.pe_cE c_needed hgd hr (by decide) (Ev.passE (takes_of rfl rfl rfl rfl)) (by rfl) (pa_cons (pv 0) pa_nil)) pe_int (fun _ _ => rfl)))), fun z hK hcm hW hl => ?_⟩
  subst hK hcm
  unfold b_height_of
  walk_at "ev s0"
  with_reducible exact (sim_ret (sim_op simR_ixT (sim_call (by first | exact hl3 | exact hl2 | exact hl | exact link0 (by first | exact hW | rfl)) (fun _ => .nil) (sim_cons sim_var sim_nil)) (by first | with_reducible exact (sim_c fun _ => .int _) | with_reducible exact sim_cval T.cv_WeightRule_MOST fun _ => .int _)))
end
end K31
set_option hygiene false
namespace K31
open PySem L2 Pu
theorem sc_least_height : FnScope ["keys", "height", "power"] ["keys"] (C8.fnScope (top 34)) := C8.fnScope_by (by decide +kernel)
def b_least_height : MS := (mSeq (mDrop (mCall 2 m_need_number [] (mCons (mVar 0) (mCons (mC (.int 1000000000000000000000000000000)) mNil))))
  (mSeq (mAsg (mTup (mCons (mC (.int 0)) (mCons (mC (.int 1)) mNil))) (mgT 2 (mgCons (mgN 1) (mgCons (mgN 2) mgNil))))
  (mSeq (mWhile (mB (mOp pLe (mVar 2) (mVar 0)))
  (mPar 1 2 (mCons (mOp pAdd (mVar 1) (mC (.int 1))) (mCons (mOp pMul (mC (.int 2)) (mVar 2)) mNil))))
  (mRet (mVar 1)))))
def m_least_height : List PV → M PV := mFnX 3 b_least_height
theorem run_least_height {a0 : PV} {W : XP} {n : Nat} {Q : PV → Nat → Prop} (h : b_least_height (fun _ => W) { nx := fun _ n' => Q .non n', rt := Q } [.val a0, .no, .no] n) : m_least_height [a0] W n Q := h
section
variable {P : Program} {w : World} {K : PySem.W.Frag} {mg : Str → Option Value} {base : Heap} {cm : Pu.Md} {C_Rule : Addr} {C_WeightRule : Addr} {C_TurnRule : Addr} {C_TryRule : Addr} {X_BadRule : Addr} {X_NoHalves : Addr} {X_BadNumber : Addr} {X_BadOther : Addr} {X_BadText : Addr} {X_FairError : Addr}
theorem ok_least_height {f : Addr} {fd : FuncData} (F : Ev.Fn K "least_height" "least_height" (top 34) f fd) (T : Tx K mg cm C_Rule C_WeightRule C_TurnRule C_TryRule X_BadRule X_NoHalves X_BadNumber X_BadOther X_BadText X_FairError) (c_need_number : Ev.GC P w K mg base 3 "need_number" (spP K cm 2 m_need_number) []) : Ev.GOk P w K mg base (L2.CX P w) 4 f fd ["keys"] (spP K cm 1 m_least_height) := by
  refine qfnX (by decide) F sc_least_height fun cdv A outer s H E hcode hgd hr => ?_
  have hu : _ + 64 < cLine := hr.units
  obtain ⟨_, hk_MOST_KEYS⟩ := T.k_MOST_KEYS
  refine ⟨_, (pss_cons (ps_expr (Ev.pe_cE c_need_number hgd hr (by decide) (Ev.passE (takes_of rfl rfl rfl rfl)) (by rfl) (pa_cons (pv 0) (pa_cons (pe_glob (by rfl) hk_MOST_KEYS Ev.rel_int) pa_nil))))
    (pss_cons (ps_asg (pe_tup (pa_cons pe_int (pa_cons pe_int pa_nil))) (by exact (pg_tup (n := 2) rfl (pgs_cons (pg_name (i := 1) sc_least_height.nd rfl (.inl rfl)) (pgs_cons (pg_name (i := 2) sc_least_height.nd rfl (.inl rfl)) pgs_nil)))))
    (pss_cons (ps_while (passes_of rfl) (pt_cmpR op_le (pv 2) (pv 0) (nomark _))
    (pss_one (ps_par (i := 1) (j := 2) rfl sc_least_height.nd rfl rfl (by decide) rfl rfl (pa_cons (pe_op op_add (pv 1) pe_int) (pa_cons (pe_op op_mulW pe_int (pv 2)) pa_nil)) (by rfl))))
    (pss_one (ps_ret (pv 1)))))), fun z hK hcm hW hl => ?_⟩
  subst hK hcm
  unfold b_least_height
  walk_at "ev s0"
  with_reducible exact (sim_seq (sim_drop (sim_call (by first | exact hl3 | exact hl2 | exact hl | exact link0 (by first | exact hW | rfl)) (fun _ => .nil) (sim_cons sim_var (sim_cons (by first | with_reducible exact (sim_c fun _ => .int _) | with_reducible exact sim_cval T.cv_WeightRule_MOST fun _ => .int _) sim_nil)))) (sim_seq (sim_asg (sim_tup (sim_cons (by first | with_reducible exact (sim_c fun _ => .int _) | with_reducible exact sim_cval T.cv_WeightRule_MOST fun _ => .int _) (sim_cons (by first | with_reducible exact (sim_c fun _ => .int _) | with_reducible exact sim_cval T.cv_WeightRule_MOST fun _ => .int _) sim_nil))) (sim_gT (sim_gCons sim_gN (sim_gCons sim_gN sim_gNil)))) (sim_seq (sim_while (by (first | with_reducible refine sim_b ?_ | with_reducible refine sim_test ?_); exact (sim_op simR_le sim_var sim_var)) (sim_par (sim_cons (sim_op simR_add sim_var (by first | with_reducible exact (sim_c fun _ => .int _) | with_reducible exact sim_cval T.cv_WeightRule_MOST fun _ => .int _)) (sim_cons (sim_op simR_mul (by first | with_reducible exact (sim_c fun _ => .int _) | with_reducible exact sim_cval T.cv_WeightRule_MOST fun _ => .int _) sim_var) sim_nil)))) (sim_ret sim_var))))
end
end K31
set_option hygiene false
namespace K31
open PySem L2 Pu
theorem sc_greatest_height : FnScope ["rule", "keys"] ["rule", "keys"] (C8.fnScope (top 33)) := C8.fnScope_by (by decide +kernel)
def b_greatest_height : MS := (mSeq (mDrop (mCall 1 m_need_weight_rule [] (mCons (mVar 0) mNil)))
  (mSeq (mDrop (mCall 2 m_need_number [] (mCons (mVar 1) (mCons (mC (.int 1000000000000000000000000000000)) mNil))))
  (mRet (mOp pIxT (mCall 2 m_highest [] (mCons (mVar 0) (mCons (mOp pAdd (mVar 1) (mC (.int 1))) mNil))) (mC (.int 0))))))
def m_greatest_height : List PV → M PV := mFnX 2 b_greatest_height
theorem run_greatest_height {a0 a1 : PV} {W : XP} {n : Nat} {Q : PV → Nat → Prop} (h : b_greatest_height (fun _ => W) { nx := fun _ n' => Q .non n', rt := Q } [.val a0, .val a1] n) : m_greatest_height [a0, a1] W n Q := h
section
variable {P : Program} {w : World} {K : PySem.W.Frag} {mg : Str → Option Value} {base : Heap} {cm : Pu.Md} {C_Rule : Addr} {C_WeightRule : Addr} {C_TurnRule : Addr} {C_TryRule : Addr} {X_BadRule : Addr} {X_NoHalves : Addr} {X_BadNumber : Addr} {X_BadOther : Addr} {X_BadText : Addr} {X_FairError : Addr}
theorem ok_greatest_height {f : Addr} {fd : FuncData} (F : Ev.Fn K "greatest_height" "greatest_height" (top 33) f fd) (T : Tx K mg cm C_Rule C_WeightRule C_TurnRule C_TryRule X_BadRule X_NoHalves X_BadNumber X_BadOther X_BadText X_FairError) (c_need_weight_rule : Ev.GC P w K mg base 3 "need_weight_rule" (spP K cm 1 m_need_weight_rule) []) (c_need_number : Ev.GC P w K mg base 3 "need_number" (spP K cm 2 m_need_number) []) (c_highest : Ev.GC P w K mg base 2 "highest" (spP K cm 2 m_highest) []) : Ev.GOk P w K mg base (L2.CX P w) 4 f fd ["rule", "keys"] (spP K cm 2 m_greatest_height) := by
  refine qfnX (by decide) F sc_greatest_height fun cdv A outer s H E hcode hgd hr => ?_
  have hu : _ + 64 < cLine := hr.units
  obtain ⟨_, hk_MOST_KEYS⟩ := T.k_MOST_KEYS
  refine ⟨_, (pss_cons (ps_expr (Ev.pe_cE c_need_weight_rule hgd hr (by decide) (Ev.passE (takes_of rfl rfl rfl rfl)) (by rfl) (pa_cons (pv 0) pa_nil)))
    (pss_cons (ps_expr (Ev.pe_cE c_need_number hgd hr (by decide) (Ev.passE (takes_of rfl rfl rfl rfl)) (by rfl) (pa_cons (pv 1) (pa_cons (pe_glob (by rfl) hk_MOST_KEYS Ev.rel_int) pa_nil))))
    (pss_one (ps_ret (pe_ix ix_tup (Ev.pe_cE c_highest hgd hr (by decide) (Ev.passE (takes_of rfl rfl rfl rfl)) (by rfl) (pa_cons (pv 0) (pa_cons (pe_op op_add (pv 1) pe_int) pa_nil))) pe_int (fun _ _ => rfl)))))), fun z hK hcm hW hl => ?_⟩
  subst hK hcm
  unfold b_greatest_height
  walk_at "ev s0"
  with_reducible exact (sim_seq (sim_drop (sim_call (by first | exact hl3 | exact hl2 | exact hl | exact link0 (by first | exact hW | rfl)) (fun _ => .nil) (sim_cons sim_var sim_nil))) (sim_seq (sim_drop (sim_call (by first | exact hl3 | exact hl2 | exact hl | exact link0 (by first | exact hW | rfl)) (fun _ => .nil) (sim_cons sim_var (sim_cons (by first | with_reducible exact (sim_c fun _ => .int _) | with_reducible exact sim_cval T.cv_WeightRule_MOST fun _ => .int _) sim_nil)))) (sim_ret (sim_op simR_ixT (sim_call (by first | exact hl3 | exact hl2 | exact hl | exact link0 (by first | exact hW | rfl)) (fun _ => .nil) (sim_cons sim_var (sim_cons (sim_op simR_add sim_var (by first | with_reducible exact (sim_c fun _ => .int _) | with_reducible exact sim_cval T.cv_WeightRule_MOST fun _ => .int _)) sim_nil))) (by first | with_reducible exact (sim_c fun _ => .int _) | with_reducible exact sim_cval T.cv_WeightRule_MOST fun _ => .int _)))))
end
end K31
set_option hygiene false
namespace K31
open PySem L2 Pu
theorem sc_law_right : FnScope ["_law_pen_here", "_law_many", "_law_some", "_law_rule_so", "_law_low", "_law_high"] ["_law_pen_here", "_law_many"] (C8.fnScope (top 56)) := C8.fnScope_by (by decide +kernel)
def b_law_right : MS := (mSeq (mAsg (mCall 1 m_law_numbers [] (mCons (mVar 0) mNil)) (mgN 2))
  (mSeq (mAsg (mCall 2 m_law_rule [] (mCons (mVar 2) (mCons (mOp pEq (mDraw (mCons (mVar 0) (mCons (mC (.int 2)) mNil))) (mC (.int 0))) mNil))) (mgN 3))
  (mSeq (mPar 4 5 (mCons (mCall 1 m_halves_shape [] (mCons (mVar 1) mNil)) (mCons (mCall 2 m_tall_shape [] (mCons (mVar 3) (mCons (mVar 1) mNil))) mNil)))
  (mSeq (mIfS (mOr (mB (mOp pNeD (mVar 4) (mCall 1 m_law_halves [] (mCons (mVar 1) mNil)))) (mB (mOp pNeD (mVar 5) (mCall 2 m_law_tall [] (mCons (mVar 2) (mCons (mOp pAdd (mVar 1) (mC (.int 1))) mNil))))))
  (mRet (mC (.bl false)))
  mNext)
  (mSeq (mIfS (mOr (mB (mOp pNeD (mLst (mCons (mCall 1 m_keys_of [] (mCons (mVar 4) mNil)) (mCons (mCall 1 m_keys_of [] (mCons (mVar 5) mNil)) mNil))) (mLst (mCons (mVar 1) (mCons (mVar 1) mNil))))) (mOr (mNot (mB (mCall 2 m_is_fair [] (mCons (mVar 3) (mCons (mVar 4) mNil))))) (mNot (mB (mCall 2 m_is_fair [] (mCons (mVar 3) (mCons (mVar 5) mNil)))))))
  (mRet (mC (.bl false)))
  mNext)
  (mRet (mOp pEqD (mLst (mCons (mCall 1 m_height_of [] (mCons (mVar 4) mNil)) (mCons (mCall 1 m_height_of [] (mCons (mVar 5) mNil)) mNil))) (mLst (mCons (mCall 1 m_least_height [] (mCons (mVar 1) mNil)) (mCons (mCall 2 m_greatest_height [] (mCons (mVar 3) (mCons (mVar 1) mNil))) mNil))))))))))
def m_law_right : List PV → M PV := mFnX 6 b_law_right
theorem run_law_right {a0 a1 : PV} {W : XP} {n : Nat} {Q : PV → Nat → Prop} (h : b_law_right (fun _ => W) { nx := fun _ n' => Q .non n', rt := Q } [.val a0, .val a1, .no, .no, .no, .no] n) : m_law_right [a0, a1] W n Q := h
section
variable {P : Program} {w : World} {K : PySem.W.Frag} {mg : Str → Option Value} {base : Heap} {cm : Pu.Md} {C_Rule : Addr} {C_WeightRule : Addr} {C_TurnRule : Addr} {C_TryRule : Addr} {X_BadRule : Addr} {X_NoHalves : Addr} {X_BadNumber : Addr} {X_BadOther : Addr} {X_BadText : Addr} {X_FairError : Addr}
theorem ok_law_right {f : Addr} {fd : FuncData} (F : Ev.Fn K "_law_right" "_law_right" (top 56) f fd) (T : Tx K mg cm C_Rule C_WeightRule C_TurnRule C_TryRule X_BadRule X_NoHalves X_BadNumber X_BadOther X_BadText X_FairError) (c_law_numbers : Ev.GC P w K mg base 3 "_law_numbers" (spP K cm 1 m_law_numbers) []) (c_draw : Ev.GC P w K mg base 1 "_law_draw" spDraw []) (c_law_rule : Ev.GC P w K mg base 8 "_law_rule" (spP K cm 2 m_law_rule) []) (c_halves_shape : Ev.GC P w K mg base 15 "halves_shape" (spP K cm 1 m_halves_shape) []) (c_tall_shape : Ev.GC P w K mg base 75 "tall_shape" (spP K cm 2 m_tall_shape) []) (c_law_tall : Ev.GC P w K mg base 74 "_law_tall" (spP K cm 2 m_law_tall) []) (c_law_halves : Ev.GC P w K mg base 14 "_law_halves" (spP K cm 1 m_law_halves) []) (c_is_fair : Ev.GC P w K mg base 63 "is_fair" (spP K cm 2 m_is_fair) []) (c_keys_of : Ev.GC P w K mg base 63 "keys_of" (spP K cm 1 m_keys_of) []) (c_height_of : Ev.GC P w K mg base 63 "height_of" (spP K cm 1 m_height_of) []) (c_least_height : Ev.GC P w K mg base 4 "least_height" (spP K cm 1 m_least_height) []) (c_greatest_height : Ev.GC P w K mg base 4 "greatest_height" (spP K cm 2 m_greatest_height) []) : Ev.GOk P w K mg base (L2.CX P w) 76 f fd ["_law_pen_here", "_law_many"] (spP K cm 2 m_law_right) := by
  refine qfnX (by decide) F sc_law_right fun cdv A outer s H E hcode hgd hr => ?_
  have hu : _ + 64 < cLine := hr.units
  refine ⟨_, (pss_cons (ps_set (i := 2) sc_law_right.nd rfl (.inl rfl) (Ev.pe_cE c_law_numbers hgd hr (by decide) (Ev.passE (takes_of rfl rfl rfl rfl)) (by rfl) (pa_cons (pv 0) pa_nil)))
    (pss_cons (ps_set (i := 3) sc_law_right.nd rfl (.inl rfl) (Ev.pe_cE c_law_rule hgd hr (by decide) (Ev.passE (takes_of rfl rfl rfl rfl)) (by rfl) (pa_cons (pv 2) (pa_cons (pe_cmpR op_eq (Ev.pe_cE c_draw hgd hr (by decide) (Ev.passE (takes_of rfl rfl rfl rfl)) (by rfl) (pa_cons (pv 0) (pa_cons pe_int pa_nil))) pe_int (nomark _)) pa_nil))))
    (pss_cons (ps_par (i := 4) (j := 5) rfl sc_law_right.nd rfl rfl (by decide) rfl rfl (pa_cons (Ev.pe_cE c_halves_shape hgd hr (by decide) (Ev.passE (takes_of rfl rfl rfl rfl)) (by rfl) (pa_cons (pv 1) pa_nil)) (pa_cons (Ev.pe_cE c_tall_shape hgd hr (by decide) (Ev.passE (takes_of rfl rfl rfl rfl)) (by rfl) (pa_cons (pv 3) (pa_cons (pv 1) pa_nil))) pa_nil)) (by rfl))
    (pss_cons (ps_if (pw_or (pt_cmpR (op_neD hu) (pv 4) (Ev.pe_cE c_law_halves hgd hr (by decide) (Ev.passE (takes_of rfl rfl rfl rfl)) (by rfl) (pa_cons (pv 1) pa_nil)) (nomark _)) (pw_or1 (pt_cmpR (op_neD hu) (pv 5) (Ev.pe_cE c_law_tall hgd hr (by decide) (Ev.passE (takes_of rfl rfl rfl rfl)) (by rfl) (pa_cons (pv 2) (pa_cons (pe_op op_add (pv 1) pe_int) pa_nil))) (nomark _)))).pt
    (pss_one (ps_ret pe_bl))
    pss_nil)
    (pss_cons (ps_if (pw_or (pt_cmpR (op_neD hu) (pe_lst (pa_cons (Ev.pe_cE c_keys_of hgd hr (by decide) (Ev.passE (takes_of rfl rfl rfl rfl)) (by rfl) (pa_cons (pv 4) pa_nil)) (pa_cons (Ev.pe_cE c_keys_of hgd hr (by decide) (Ev.passE (takes_of rfl rfl rfl rfl)) (by rfl) (pa_cons (pv 5) pa_nil)) pa_nil))) (pe_lst (pa_cons (pv 1) (pa_cons (pv 1) pa_nil))) (nomark _)) (pw_or (pt_not (pt_val (Ev.pe_cE c_is_fair hgd hr (by decide) (Ev.passE (takes_of rfl rfl rfl rfl)) (by rfl) (pa_cons (pv 3) (pa_cons (pv 4) pa_nil))))) (pw_or1 (pt_not (pt_val (Ev.pe_cE c_is_fair hgd hr (by decide) (Ev.passE (takes_of rfl rfl rfl rfl)) (by rfl) (pa_cons (pv 3) (pa_cons (pv 5) pa_nil)))))))).pt
    (pss_one (ps_ret pe_bl))
    pss_nil)
    (pss_one (ps_ret (pe_cmpR (op_eqD hu) (pe_lst (pa_cons (Ev.pe_cE c_height_of hgd hr (by decide) (Ev.passE (takes_of rfl rfl rfl rfl)) (by rfl) (pa_cons (pv 4) pa_nil)) (pa_cons (Ev.pe_cE c_height_of hgd hr (by decide) (Ev.passE (takes_of rfl rfl rfl rfl)) (by rfl) (pa_cons (pv 5) pa_nil)) pa_nil))) (pe_lst (pa_cons (Ev.pe_cE c_least_height hgd hr (by decide) (Ev.passE (takes_of rfl rfl rfl rfl)) (by rfl) (pa_cons (pv 1) pa_nil)) (pa_cons (Ev.pe_cE c_greatest_height hgd hr (by decide) (Ev.passE (takes_of rfl rfl rfl rfl)) (by rfl) (pa_cons (pv 3) (pa_cons (pv 1) pa_nil))) pa_nil))) (nomark _))))))))), fun z hK hcm hW hl => ?_⟩
  subst hK hcm
  unfold b_law_right
  walk_at "ev s0"
  with_reducible exact (sim_seq (sim_asg (sim_call (by first | exact hl3 | exact hl2 | exact hl | exact link0 (by first | exact hW | rfl)) (fun _ => .nil) (sim_cons sim_var sim_nil)) sim_gN) (sim_seq (sim_asg (sim_call (by first | exact hl3 | exact hl2 | exact hl | exact link0 (by first | exact hW | rfl)) (fun _ => .nil) (sim_cons sim_var (sim_cons (sim_op simR_eq (sim_draw draw_sp (sim_cons sim_var (sim_cons (by first | with_reducible exact (sim_c fun _ => .int _) | with_reducible exact sim_cval T.cv_WeightRule_MOST fun _ => .int _) sim_nil))) (by first | with_reducible exact (sim_c fun _ => .int _) | with_reducible exact sim_cval T.cv_WeightRule_MOST fun _ => .int _)) sim_nil))) sim_gN) (sim_seq (sim_par (sim_cons (sim_call (by first | exact hl3 | exact hl2 | exact hl | exact link0 (by first | exact hW | rfl)) (fun _ => .nil) (sim_cons sim_var sim_nil)) (sim_cons (sim_call (by first | exact hl3 | exact hl2 | exact hl | exact link0 (by first | exact hW | rfl)) (fun _ => .nil) (sim_cons sim_var (sim_cons sim_var sim_nil))) sim_nil))) (sim_seq (sim_ifS (sim_or (by (first | with_reducible refine sim_b ?_ | with_reducible refine sim_test ?_); exact (sim_op simR_neD sim_var (sim_call (by first | exact hl3 | exact hl2 | exact hl | exact link0 (by first | exact hW | rfl)) (fun _ => .nil) (sim_cons sim_var sim_nil)))) (by (first | with_reducible refine sim_b ?_ | with_reducible refine sim_test ?_); exact (sim_op simR_neD sim_var (sim_call (by first | exact hl3 | exact hl2 | exact hl | exact link0 (by first | exact hW | rfl)) (fun _ => .nil) (sim_cons sim_var (sim_cons (sim_op simR_add sim_var (by first | with_reducible exact (sim_c fun _ => .int _) | with_reducible exact sim_cval T.cv_WeightRule_MOST fun _ => .int _)) sim_nil)))))) (sim_ret (sim_c fun _ => .bl _)) sim_next) (sim_seq (sim_ifS (sim_or (by (first | with_reducible refine sim_b ?_ | with_reducible refine sim_test ?_); exact (sim_op simR_neD (sim_lst (sim_cons (sim_call (by first | exact hl3 | exact hl2 | exact hl | exact link0 (by first | exact hW | rfl)) (fun _ => .nil) (sim_cons sim_var sim_nil)) (sim_cons (sim_call (by first | exact hl3 | exact hl2 | exact hl | exact link0 (by first | exact hW | rfl)) (fun _ => .nil) (sim_cons sim_var sim_nil)) sim_nil))) (sim_lst (sim_cons sim_var (sim_cons sim_var sim_nil))))) (sim_or (sim_not (by (first | with_reducible refine sim_b ?_ | with_reducible refine sim_test ?_); exact (sim_call (by first | exact hl3 | exact hl2 | exact hl | exact link0 (by first | exact hW | rfl)) (fun _ => .nil) (sim_cons sim_var (sim_cons sim_var sim_nil))))) (sim_not (by (first | with_reducible refine sim_b ?_ | with_reducible refine sim_test ?_); exact (sim_call (by first | exact hl3 | exact hl2 | exact hl | exact link0 (by first | exact hW | rfl)) (fun _ => .nil) (sim_cons sim_var (sim_cons sim_var sim_nil))))))) (sim_ret (sim_c fun _ => .bl _)) sim_next) (sim_ret (sim_op simR_eqD (sim_lst (sim_cons (sim_call (by first | exact hl3 | exact hl2 | exact hl | exact link0 (by first | exact hW | rfl)) (fun _ => .nil) (sim_cons sim_var sim_nil)) (sim_cons (sim_call (by first | exact hl3 | exact hl2 | exact hl | exact link0 (by first | exact hW | rfl)) (fun _ => .nil) (sim_cons sim_var sim_nil)) sim_nil))) (sim_lst (sim_cons (sim_call (by first | exact hl3 | exact hl2 | exact hl | exact link0 (by first | exact hW | rfl)) (fun _ => .nil) (sim_cons sim_var sim_nil)) (sim_cons (sim_call (by first | exact hl3 | exact hl2 | exact hl | exact link0 (by first | exact hW | rfl)) (fun _ => .nil) (sim_cons sim_var (sim_cons sim_var sim_nil))) sim_nil))))))))))
end
end K31
set_option hygiene false
namespace K31
open PySem L2 Pu
theorem sc_law : FnScope ["_law_script", "_law_pen_here", "_law_turn"] ["_law_script"] (C8.fnScope (top 57)) := C8.fnScope_by (by decide +kernel)
def b_law : MS := (mSeq (mFor (mRng1 (mCons (mC (.int 8)) mNil)) (mgN 2)
  (mIfS (mNot (mB (mCall 2 m_law_right [] (mCons (mVar 1) (mCons (mCall 2 m_law_pick [] (mCons (mVar 1) (mCons (mLst (mCons (mVar 2) (mCons (mDraw (mCons (mVar 1) (mCons (mC (.int 60)) mNil))) (mCons (mDraw (mCons (mVar 1) (mCons (mC (.int 300)) mNil))) mNil)))) mNil))) mNil)))))
  (mRet (mC (.bl false)))
  mNext))
  (mSeq (mIfS (mNot (mB (mCall 2 m_law_right [] (mCons (mVar 1) (mCons (mCall 2 m_law_pick [] (mCons (mVar 1) (mCons (mLst (mCons (mC (.int 2000)) (mCons (mC (.int 1999)) (mCons (mC (.int 1023)) (mCons (mC (.int 1024)) (mCons (mC (.int 1500)) mNil)))))) mNil))) mNil)))))
  (mRet (mC (.bl false)))
  mNext)
  (mSeq (mIfS (mB (mOp pNeD (mLst (mCons (mCallK 0 1 1 (pkP [] [] [(3, 0)]) m_halves_shape mNil (mCons (mC (.int 1)) mNil)) (mCons (mCallK 0 2 2 (pkP [] [] [(3, 1), (3, 0)]) m_tall_shape mNil (mCons (mC (.int 2)) (mCons (mMake "TryRule" 2 0 3 (pkP [.int 0] [] [(0, 0), (0, 1)]) m_TryRule_init (mCons (mTup (mCons (mC (.int 6)) (mCons (mC (.int 1)) mNil))) (mCons (mC (.int 6)) mNil)) mNil) mNil))) mNil))) (mLst (mCons (mTup (mCons (mTup mNil) (mCons (mTup mNil) mNil))) (mCons (mTup (mCons (mTup (mCons (mTup mNil) (mCons (mTup mNil) mNil))) (mCons (mTup mNil) mNil))) mNil)))))
  (mRet (mC (.bl false)))
  mNext)
  (mRet (mOp pEqD (mCall 2 m_tall_shape [] (mCons (mMake "TryRule" 1 0 3 (pkP [.int 0] [] [(0, 0), (1, 0)]) m_TryRule_init (mCons (mTup (mCons (mC (.int 3)) (mCons (mC (.int 1)) mNil))) mNil) mNil) (mCons (mC (.int 3)) mNil))) (mTup (mCons (mTup (mCons (mTup (mCons (mTup mNil) (mCons (mTup mNil) mNil))) (mCons (mTup mNil) mNil))) (mCons (mTup mNil) mNil))))))))
def spLaw (K : PySem.W.Frag) (T : List (Addr × Str)) : Sp := fun vs H Q _ => ∃ (a : Addr) (ns : List Int), vs = [.ref a] ∧ SqL K H a (ns.map V.int) ∧ ns.length ≤ 63 ∧ LamX.Tabs T H ∧ ∀ H', Q (.bl true) H'
def LawPure : Prop := b_law (fun _ => W0) { nx := fun _ _ => False, rt := fun q _ => q = .bl true } (.no :: .val .pen :: List.replicate 1 .no) 90000
section
variable {P : Program} {w : World} {K : PySem.W.Frag} {mg : Str → Option Value} {base : Heap} {cm : Pu.Md} {C_Rule : Addr} {C_WeightRule : Addr} {C_TurnRule : Addr} {C_TryRule : Addr} {X_BadRule : Addr} {X_NoHalves : Addr} {X_BadNumber : Addr} {X_BadOther : Addr} {X_BadText : Addr} {X_FairError : Addr}
theorem ok_law {f : Addr} {fd : FuncData} (F : Ev.Fn K "law" "law" (top 57) f fd) (T : Tx K mg cm C_Rule C_WeightRule C_TurnRule C_TryRule X_BadRule X_NoHalves X_BadNumber X_BadOther X_BadText X_FairError) (pure : LawPure) (c_draw : Ev.GC P w K mg base 1 "_law_draw" spDraw []) (c_law_pick : Ev.GC P w K mg base 2 "_law_pick" (spP K cm 2 m_law_pick) []) (c_law_right : Ev.GC P w K mg base 76 "_law_right" (spP K cm 2 m_law_right) []) (c_halves_shape_0_keys : Ev.GCK P w K mg base 15 "halves_shape" (spP K cm 1 m_halves_shape) 0 ["keys"] (pk [] [] [(3, 0)])) (c_mk_TryRule_2_ : Ev.GN P w K mg base 6 "TryRule" C_TryRule (spI K cm 3 m_TryRule_init) 2 [] (pkS [.int 0] [] [(0, 0), (0, 1)])) (c_tall_shape_0_keys_rule : Ev.GCK P w K mg base 75 "tall_shape" (spP K cm 2 m_tall_shape) 0 ["keys", "rule"] (pk [] [] [(3, 1), (3, 0)])) (c_mk_TryRule_1_ : Ev.GN P w K mg base 6 "TryRule" C_TryRule (spI K cm 3 m_TryRule_init) 1 [] (pkS [.int 0] [] [(0, 0), (1, 0)])) (c_tall_shape : Ev.GC P w K mg base 75 "tall_shape" (spP K cm 2 m_tall_shape) []) (c_pen : Ev.GC P w K mg base 1 "_law_pen" (spPen K) []) : Ev.GOk P w K mg base (L2.CX P w) 77 f fd ["_law_script"] (spLaw K cm.T) := by
  refine Ev.gfn0c F sc_law (fun vs H Q E h => ?_) (fun cdv A outer s H vs Q E hcode hgd hr h => ?_)
  · obtain ⟨a, ns, rfl, _⟩ := h
    rfl
  · obtain ⟨a, ns, rfl, hS, hl, htb, k⟩ := h
    have hu : _ + 64 < cLine := hr.units
    refine ⟨_, (pss_cons (ps_set (i := 1) sc_law.nd rfl (.inl rfl) (Ev.pe_c c_pen hgd hr (by decide) (by rfl) (pa_cons (pv 0) pa_nil)))
      (pss_cons (ps_for PassesOwn.never rfl (pi_range1 (by rfl) T.m_range (pa_cons pe_int pa_nil)) (pg_name (i := 2) sc_law.nd rfl (.inl rfl))
      (pss_one (ps_if (pt_not (pt_val (Ev.pe_cE c_law_right hgd hr (by decide) passL (by rfl) (pa_cons (pv 1) (pa_cons (Ev.pe_cE c_law_pick hgd hr (by decide) passL (by rfl) (pa_cons (pv 1) (pa_cons (pe_lst (pa_cons (pv 2) (pa_cons (Ev.pe_cE c_draw hgd hr (by decide) passL (by rfl) (pa_cons (pv 1) (pa_cons pe_int pa_nil))) (pa_cons (Ev.pe_cE c_draw hgd hr (by decide) passL (by rfl) (pa_cons (pv 1) (pa_cons pe_int pa_nil))) pa_nil)))) pa_nil))) pa_nil)))))
      (pss_one (ps_ret pe_bl))
      pss_nil)))
      (pss_cons (ps_if (pt_not (pt_val (Ev.pe_cE c_law_right hgd hr (by decide) passL (by rfl) (pa_cons (pv 1) (pa_cons (Ev.pe_cE c_law_pick hgd hr (by decide) passL (by rfl) (pa_cons (pv 1) (pa_cons (pe_lst (pa_cons pe_int (pa_cons pe_int (pa_cons pe_int (pa_cons pe_int (pa_cons pe_int pa_nil)))))) pa_nil))) pa_nil)))))
      (pss_one (ps_ret pe_bl))
      pss_nil)
      (pss_cons (ps_if (pt_cmpR (op_neD hu) (pe_lst (pa_cons (Ev.pe_cK0E c_halves_shape_0_keys hgd hr (by decide) passL (by rfl) (pk_cons pe_int pk_nil)) (pa_cons (Ev.pe_cK0E c_tall_shape_0_keys_rule hgd hr (by decide) passL (by rfl) (pk_cons pe_int (pk_cons (Ev.pe_nE c_mk_TryRule_2_ hgd hr (by decide) passL (by rfl) (pa_cons (pe_tup (pa_cons pe_int (pa_cons pe_int pa_nil))) (pa_cons pe_int pa_nil)) pk_nil) pk_nil))) pa_nil))) (pe_lst (pa_cons (pe_tup (pa_cons (pe_tup pa_nil) (pa_cons (pe_tup pa_nil) pa_nil))) (pa_cons (pe_tup (pa_cons (pe_tup (pa_cons (pe_tup pa_nil) (pa_cons (pe_tup pa_nil) pa_nil))) (pa_cons (pe_tup pa_nil) pa_nil))) pa_nil))) (nomark _))
      (pss_one (ps_ret pe_bl))
      pss_nil)
      (pss_one (ps_ret (pe_cmpR (op_eqD hu) (Ev.pe_cE c_tall_shape hgd hr (by decide) passL (by rfl) (pa_cons (Ev.pe_nE c_mk_TryRule_1_ hgd hr (by decide) passL (by rfl) (pa_cons (pe_tup (pa_cons pe_int (pa_cons pe_int pa_nil))) pa_nil) pk_nil) (pa_cons pe_int pa_nil))) (pe_tup (pa_cons (pe_tup (pa_cons (pe_tup (pa_cons (pe_tup pa_nil) (pa_cons (pe_tup pa_nil) pa_nil))) (pa_cons (pe_tup pa_nil) pa_nil))) (pa_cons (pe_tup pa_nil) pa_nil))) (nomark _)))))))), ?_⟩
    refine ⟨_, rfl, a, ns, rfl, hS, hl, fun p c H1 s1 np pen1 => ?_⟩
    dsimp only
    refine law_first (K := K) (cm := cm) (b := b_law) (a := a) (x := "_law_script") (y := "_law_pen_here") (N := ["_law_turn"]) (p := p) (Q := Q) (fun z hK hcm hW => ?_) pen1 (LamX.Tabs.ext htb s1) pure k
    subst hK hcm
    unfold b_law
    walk_at "ev s0"
    with_reducible exact (sim_seq (sim_for (sim_iRng1 (sim_cons (by first | with_reducible exact (sim_c fun _ => .int _) | with_reducible exact sim_cval T.cv_WeightRule_MOST fun _ => .int _) sim_nil)) sim_gN (sim_ifS (sim_not (by (first | with_reducible refine sim_b ?_ | with_reducible refine sim_test ?_); exact (sim_call (by first | exact hl3 | exact hl2 | exact hl | exact link0 (by first | exact hW | rfl)) (fun _ => .nil) (sim_cons sim_var (sim_cons (sim_call (by first | exact hl3 | exact hl2 | exact hl | exact link0 (by first | exact hW | rfl)) (fun _ => .nil) (sim_cons sim_var (sim_cons (sim_lst (sim_cons sim_var (sim_cons (sim_draw draw_sp (sim_cons sim_var (sim_cons (by first | with_reducible exact (sim_c fun _ => .int _) | with_reducible exact sim_cval T.cv_WeightRule_MOST fun _ => .int _) sim_nil))) (sim_cons (sim_draw draw_sp (sim_cons sim_var (sim_cons (by first | with_reducible exact (sim_c fun _ => .int _) | with_reducible exact sim_cval T.cv_WeightRule_MOST fun _ => .int _) sim_nil))) sim_nil)))) sim_nil))) sim_nil))))) (sim_ret (sim_c fun _ => .bl _)) sim_next)) (sim_seq (sim_ifS (sim_not (by (first | with_reducible refine sim_b ?_ | with_reducible refine sim_test ?_); exact (sim_call (by first | exact hl3 | exact hl2 | exact hl | exact link0 (by first | exact hW | rfl)) (fun _ => .nil) (sim_cons sim_var (sim_cons (sim_call (by first | exact hl3 | exact hl2 | exact hl | exact link0 (by first | exact hW | rfl)) (fun _ => .nil) (sim_cons sim_var (sim_cons (sim_lst (sim_cons (by first | with_reducible exact (sim_c fun _ => .int _) | with_reducible exact sim_cval T.cv_WeightRule_MOST fun _ => .int _) (sim_cons (by first | with_reducible exact (sim_c fun _ => .int _) | with_reducible exact sim_cval T.cv_WeightRule_MOST fun _ => .int _) (sim_cons (by first | with_reducible exact (sim_c fun _ => .int _) | with_reducible exact sim_cval T.cv_WeightRule_MOST fun _ => .int _) (sim_cons (by first | with_reducible exact (sim_c fun _ => .int _) | with_reducible exact sim_cval T.cv_WeightRule_MOST fun _ => .int _) (sim_cons (by first | with_reducible exact (sim_c fun _ => .int _) | with_reducible exact sim_cval T.cv_WeightRule_MOST fun _ => .int _) sim_nil)))))) sim_nil))) sim_nil))))) (sim_ret (sim_c fun _ => .bl _)) sim_next) (sim_seq (sim_ifS (by (first | with_reducible refine sim_b ?_ | with_reducible refine sim_test ?_); exact (sim_op simR_neD (sim_lst (sim_cons (by first | with_reducible exact (sim_callK (by first | exact hl3 | exact hl2 | exact hl | exact link0 (by first | exact hW | rfl)) (pk_rep (fun _ => by repeat (first | exact .nil | refine .cons (by first | exact .int _ | exact .non | exact .bl _ | exact .str _) ?_)) (fun _ => by repeat (first | exact .nil | refine .cons (by first | exact .int _ | exact .non | exact .bl _ | exact .str _) ?_))) sim_nil (sim_cons (by first | with_reducible exact (sim_c fun _ => .int _) | with_reducible exact sim_cval T.cv_WeightRule_MOST fun _ => .int _) sim_nil)) | with_reducible exact (sim_cc (by first | exact hl3 | exact hl2 | exact hl | exact link0 (by first | exact hW | rfl)) (pkS_rep (fun _ => by repeat (first | exact .nil | refine .cons (by first | exact .int _ | exact .non | exact .bl _ | exact .str _) ?_)) (fun _ => by repeat (first | exact .nil | refine .cons (by first | exact .int _ | exact .non | exact .bl _ | exact .str _) ?_))) sim_nil (sim_cons (by first | with_reducible exact (sim_c fun _ => .int _) | with_reducible exact sim_cval T.cv_WeightRule_MOST fun _ => .int _) sim_nil))) (sim_cons (by first | with_reducible exact (sim_callK (by first | exact hl3 | exact hl2 | exact hl | exact link0 (by first | exact hW | rfl)) (pk_rep (fun _ => by repeat (first | exact .nil | refine .cons (by first | exact .int _ | exact .non | exact .bl _ | exact .str _) ?_)) (fun _ => by repeat (first | exact .nil | refine .cons (by first | exact .int _ | exact .non | exact .bl _ | exact .str _) ?_))) sim_nil (sim_cons (by first | with_reducible exact (sim_c fun _ => .int _) | with_reducible exact sim_cval T.cv_WeightRule_MOST fun _ => .int _) (sim_cons (sim_make (by first | exact hl3 | exact hl2 | exact hl | exact link0 (by first | exact hW | rfl)) (by first | exact T.cm_Rule | exact T.cm_WeightRule | exact T.cm_TurnRule | exact T.cm_TryRule) (pkS_rep (fun _ => by repeat (first | exact .nil | refine .cons (by first | exact .int _ | exact .non | exact .bl _ | exact .str _) ?_)) (fun _ => by repeat (first | exact .nil | refine .cons (by first | exact .int _ | exact .non | exact .bl _ | exact .str _) ?_))) (sim_cons (sim_tup (sim_cons (by first | with_reducible exact (sim_c fun _ => .int _) | with_reducible exact sim_cval T.cv_WeightRule_MOST fun _ => .int _) (sim_cons (by first | with_reducible exact (sim_c fun _ => .int _) | with_reducible exact sim_cval T.cv_WeightRule_MOST fun _ => .int _) sim_nil))) (sim_cons (by first | with_reducible exact (sim_c fun _ => .int _) | with_reducible exact sim_cval T.cv_WeightRule_MOST fun _ => .int _) sim_nil)) sim_nil) sim_nil))) | with_reducible exact (sim_cc (by first | exact hl3 | exact hl2 | exact hl | exact link0 (by first | exact hW | rfl)) (pkS_rep (fun _ => by repeat (first | exact .nil | refine .cons (by first | exact .int _ | exact .non | exact .bl _ | exact .str _) ?_)) (fun _ => by repeat (first | exact .nil | refine .cons (by first | exact .int _ | exact .non | exact .bl _ | exact .str _) ?_))) sim_nil (sim_cons (by first | with_reducible exact (sim_c fun _ => .int _) | with_reducible exact sim_cval T.cv_WeightRule_MOST fun _ => .int _) (sim_cons (sim_make (by first | exact hl3 | exact hl2 | exact hl | exact link0 (by first | exact hW | rfl)) (by first | exact T.cm_Rule | exact T.cm_WeightRule | exact T.cm_TurnRule | exact T.cm_TryRule) (pkS_rep (fun _ => by repeat (first | exact .nil | refine .cons (by first | exact .int _ | exact .non | exact .bl _ | exact .str _) ?_)) (fun _ => by repeat (first | exact .nil | refine .cons (by first | exact .int _ | exact .non | exact .bl _ | exact .str _) ?_))) (sim_cons (sim_tup (sim_cons (by first | with_reducible exact (sim_c fun _ => .int _) | with_reducible exact sim_cval T.cv_WeightRule_MOST fun _ => .int _) (sim_cons (by first | with_reducible exact (sim_c fun _ => .int _) | with_reducible exact sim_cval T.cv_WeightRule_MOST fun _ => .int _) sim_nil))) (sim_cons (by first | with_reducible exact (sim_c fun _ => .int _) | with_reducible exact sim_cval T.cv_WeightRule_MOST fun _ => .int _) sim_nil)) sim_nil) sim_nil)))) sim_nil))) (sim_lst (sim_cons (sim_tup (sim_cons (sim_tup sim_nil) (sim_cons (sim_tup sim_nil) sim_nil))) (sim_cons (sim_tup (sim_cons (sim_tup (sim_cons (sim_tup sim_nil) (sim_cons (sim_tup sim_nil) sim_nil))) (sim_cons (sim_tup sim_nil) sim_nil))) sim_nil))))) (sim_ret (sim_c fun _ => .bl _)) sim_next) (sim_ret (sim_op simR_eqD (sim_call (by first | exact hl3 | exact hl2 | exact hl | exact link0 (by first | exact hW | rfl)) (fun _ => .nil) (sim_cons (sim_make (by first | exact hl3 | exact hl2 | exact hl | exact link0 (by first | exact hW | rfl)) (by first | exact T.cm_Rule | exact T.cm_WeightRule | exact T.cm_TurnRule | exact T.cm_TryRule) (pkS_rep (fun _ => by repeat (first | exact .nil | refine .cons (by first | exact .int _ | exact .non | exact .bl _ | exact .str _) ?_)) (fun _ => by repeat (first | exact .nil | refine .cons (by first | exact .int _ | exact .non | exact .bl _ | exact .str _) ?_))) (sim_cons (sim_tup (sim_cons (by first | with_reducible exact (sim_c fun _ => .int _) | with_reducible exact sim_cval T.cv_WeightRule_MOST fun _ => .int _) (sim_cons (by first | with_reducible exact (sim_c fun _ => .int _) | with_reducible exact sim_cval T.cv_WeightRule_MOST fun _ => .int _) sim_nil))) sim_nil) sim_nil) (sim_cons (by first | with_reducible exact (sim_c fun _ => .int _) | with_reducible exact sim_cval T.cv_WeightRule_MOST fun _ => .int _) sim_nil))) (sim_tup (sim_cons (sim_tup (sim_cons (sim_tup (sim_cons (sim_tup sim_nil) (sim_cons (sim_tup sim_nil) sim_nil))) (sim_cons (sim_tup sim_nil) sim_nil))) (sim_cons (sim_tup sim_nil) sim_nil))))))))
end
end K31
namespace K31
open PySem L2 Pu
theorem gp_0 {a0 a1 b0 b1 : PV} : pkP [.int 0] [] [(0, 0), (0, 1), (3, 0), (3, 1)] [a0, a1] [b0, b1] = [a0, a1, b0, b1] := rfl
theorem gp_1 {a0 a1 : PV} : pkP [.int 0] [] [(0, 0), (0, 1)] [a0, a1] [] = [a0, a1] := rfl
theorem gp_2 {b0 : PV} : pkP [] [] [(3, 0)] [] [b0] = [b0] := rfl
theorem gp_3 {b0 b1 : PV} : pkP [] [] [(3, 1), (3, 0)] [] [b0, b1] = [b1, b0] := rfl
theorem gp_4 {a0 : PV} : pkP [.int 0] [] [(0, 0), (1, 0)] [a0] [] = [a0, .int 0] := rfl
end K31
namespace K31
open PySem
theorem se_0_1 : (Str.ofString "times" = Str.ofString "plus") = False := eq_false (by decide +kernel)
theorem sb_0_1 : (Str.ofString "times" == Str.ofString "plus") = false := by decide +kernel
theorem se_0_2 : (Str.ofString "times" = Str.ofString "turn") = False := eq_false (by decide +kernel)
theorem sb_0_2 : (Str.ofString "times" == Str.ofString "turn") = false := by decide +kernel
theorem se_0_3 : (Str.ofString "times" = Str.ofString "turn_plus") = False := eq_false (by decide +kernel)
theorem sb_0_3 : (Str.ofString "times" == Str.ofString "turn_plus") = false := by decide +kernel
theorem se_0_4 : (Str.ofString "times" = Str.ofString "TryRule") = False := eq_false (by decide +kernel)
theorem sb_0_4 : (Str.ofString "times" == Str.ofString "TryRule") = false := by decide +kernel
theorem se_0_5 : (Str.ofString "times" = Str.ofString "TurnRule") = False := eq_false (by decide +kernel)
theorem sb_0_5 : (Str.ofString "times" == Str.ofString "TurnRule") = false := by decide +kernel
theorem se_0_6 : (Str.ofString "times" = Str.ofString "WeightRule") = False := eq_false (by decide +kernel)
theorem sb_0_6 : (Str.ofString "times" == Str.ofString "WeightRule") = false := by decide +kernel
theorem se_0_7 : (Str.ofString "times" = Str.ofString "beside") = False := eq_false (by decide +kernel)
theorem sb_0_7 : (Str.ofString "times" == Str.ofString "beside") = false := by decide +kernel
theorem se_0_8 : (Str.ofString "times" = Str.ofString "is_fair") = False := eq_false (by decide +kernel)
theorem sb_0_8 : (Str.ofString "times" == Str.ofString "is_fair") = false := by decide +kernel
theorem se_0_9 : (Str.ofString "times" = Str.ofString "greatest") = False := eq_false (by decide +kernel)
theorem sb_0_9 : (Str.ofString "times" == Str.ofString "greatest") = false := by decide +kernel
theorem se_0_10 : (Str.ofString "times" = Str.ofString "turns") = False := eq_false (by decide +kernel)
theorem sb_0_10 : (Str.ofString "times" == Str.ofString "turns") = false := by decide +kernel
theorem se_1_0 : (Str.ofString "plus" = Str.ofString "times") = False := eq_false (by decide +kernel)
theorem sb_1_0 : (Str.ofString "plus" == Str.ofString "times") = false := by decide +kernel
theorem se_1_2 : (Str.ofString "plus" = Str.ofString "turn") = False := eq_false (by decide +kernel)
theorem sb_1_2 : (Str.ofString "plus" == Str.ofString "turn") = false := by decide +kernel
theorem se_1_3 : (Str.ofString "plus" = Str.ofString "turn_plus") = False := eq_false (by decide +kernel)
theorem sb_1_3 : (Str.ofString "plus" == Str.ofString "turn_plus") = false := by decide +kernel
theorem se_1_4 : (Str.ofString "plus" = Str.ofString "TryRule") = False := eq_false (by decide +kernel)
theorem sb_1_4 : (Str.ofString "plus" == Str.ofString "TryRule") = false := by decide +kernel
theorem se_1_5 : (Str.ofString "plus" = Str.ofString "TurnRule") = False := eq_false (by decide +kernel)
theorem sb_1_5 : (Str.ofString "plus" == Str.ofString "TurnRule") = false := by decide +kernel
theorem se_1_6 : (Str.ofString "plus" = Str.ofString "WeightRule") = False := eq_false (by decide +kernel)
theorem sb_1_6 : (Str.ofString "plus" == Str.ofString "WeightRule") = false := by decide +kernel
theorem se_1_7 : (Str.ofString "plus" = Str.ofString "beside") = False := eq_false (by decide +kernel)
theorem sb_1_7 : (Str.ofString "plus" == Str.ofString "beside") = false := by decide +kernel
theorem se_1_8 : (Str.ofString "plus" = Str.ofString "is_fair") = False := eq_false (by decide +kernel)
theorem sb_1_8 : (Str.ofString "plus" == Str.ofString "is_fair") = false := by decide +kernel
theorem se_1_9 : (Str.ofString "plus" = Str.ofString "greatest") = False := eq_false (by decide +kernel)
theorem sb_1_9 : (Str.ofString "plus" == Str.ofString "greatest") = false := by decide +kernel
theorem se_1_10 : (Str.ofString "plus" = Str.ofString "turns") = False := eq_false (by decide +kernel)
theorem sb_1_10 : (Str.ofString "plus" == Str.ofString "turns") = false := by decide +kernel
theorem se_2_0 : (Str.ofString "turn" = Str.ofString "times") = False := eq_false (by decide +kernel)
theorem sb_2_0 : (Str.ofString "turn" == Str.ofString "times") = false := by decide +kernel
theorem se_2_1 : (Str.ofString "turn" = Str.ofString "plus") = False := eq_false (by decide +kernel)
theorem sb_2_1 : (Str.ofString "turn" == Str.ofString "plus") = false := by decide +kernel
theorem se_2_3 : (Str.ofString "turn" = Str.ofString "turn_plus") = False := eq_false (by decide +kernel)
theorem sb_2_3 : (Str.ofString "turn" == Str.ofString "turn_plus") = false := by decide +kernel
theorem se_2_4 : (Str.ofString "turn" = Str.ofString "TryRule") = False := eq_false (by decide +kernel)
theorem sb_2_4 : (Str.ofString "turn" == Str.ofString "TryRule") = false := by decide +kernel
theorem se_2_5 : (Str.ofString "turn" = Str.ofString "TurnRule") = False := eq_false (by decide +kernel)
theorem sb_2_5 : (Str.ofString "turn" == Str.ofString "TurnRule") = false := by decide +kernel
theorem se_2_6 : (Str.ofString "turn" = Str.ofString "WeightRule") = False := eq_false (by decide +kernel)
theorem sb_2_6 : (Str.ofString "turn" == Str.ofString "WeightRule") = false := by decide +kernel
theorem se_2_7 : (Str.ofString "turn" = Str.ofString "beside") = False := eq_false (by decide +kernel)
theorem sb_2_7 : (Str.ofString "turn" == Str.ofString "beside") = false := by decide +kernel
theorem se_2_8 : (Str.ofString "turn" = Str.ofString "is_fair") = False := eq_false (by decide +kernel)
theorem sb_2_8 : (Str.ofString "turn" == Str.ofString "is_fair") = false := by decide +kernel
theorem se_2_9 : (Str.ofString "turn" = Str.ofString "greatest") = False := eq_false (by decide +kernel)
theorem sb_2_9 : (Str.ofString "turn" == Str.ofString "greatest") = false := by decide +kernel
theorem se_2_10 : (Str.ofString "turn" = Str.ofString "turns") = False := eq_false (by decide +kernel)
theorem sb_2_10 : (Str.ofString "turn" == Str.ofString "turns") = false := by decide +kernel
theorem se_3_0 : (Str.ofString "turn_plus" = Str.ofString "times") = False := eq_false (by decide +kernel)
theorem sb_3_0 : (Str.ofString "turn_plus" == Str.ofString "times") = false := by decide +kernel
theorem se_3_1 : (Str.ofString "turn_plus" = Str.ofString "plus") = False := eq_false (by decide +kernel)
theorem sb_3_1 : (Str.ofString "turn_plus" == Str.ofString "plus") = false := by decide +kernel
theorem se_3_2 : (Str.ofString "turn_plus" = Str.ofString "turn") = False := eq_false (by decide +kernel)
theorem sb_3_2 : (Str.ofString "turn_plus" == Str.ofString "turn") = false := by decide +kernel
theorem se_3_4 : (Str.ofString "turn_plus" = Str.ofString "TryRule") = False := eq_false (by decide +kernel)
theorem sb_3_4 : (Str.ofString "turn_plus" == Str.ofString "TryRule") = false := by decide +kernel
theorem se_3_5 : (Str.ofString "turn_plus" = Str.ofString "TurnRule") = False := eq_false (by decide +kernel)
theorem sb_3_5 : (Str.ofString "turn_plus" == Str.ofString "TurnRule") = false := by decide +kernel
theorem se_3_6 : (Str.ofString "turn_plus" = Str.ofString "WeightRule") = False := eq_false (by decide +kernel)
theorem sb_3_6 : (Str.ofString "turn_plus" == Str.ofString "WeightRule") = false := by decide +kernel
theorem se_3_7 : (Str.ofString "turn_plus" = Str.ofString "beside") = False := eq_false (by decide +kernel)
theorem sb_3_7 : (Str.ofString "turn_plus" == Str.ofString "beside") = false := by decide +kernel
theorem se_3_8 : (Str.ofString "turn_plus" = Str.ofString "is_fair") = False := eq_false (by decide +kernel)
theorem sb_3_8 : (Str.ofString "turn_plus" == Str.ofString "is_fair") = false := by decide +kernel
theorem se_3_9 : (Str.ofString "turn_plus" = Str.ofString "greatest") = False := eq_false (by decide +kernel)
theorem sb_3_9 : (Str.ofString "turn_plus" == Str.ofString "greatest") = false := by decide +kernel
theorem se_3_10 : (Str.ofString "turn_plus" = Str.ofString "turns") = False := eq_false (by decide +kernel)
theorem sb_3_10 : (Str.ofString "turn_plus" == Str.ofString "turns") = false := by decide +kernel
theorem se_4_0 : (Str.ofString "TryRule" = Str.ofString "times") = False := eq_false (by decide +kernel)
theorem sb_4_0 : (Str.ofString "TryRule" == Str.ofString "times") = false := by decide +kernel
theorem se_4_1 : (Str.ofString "TryRule" = Str.ofString "plus") = False := eq_false (by decide +kernel)
theorem sb_4_1 : (Str.ofString "TryRule" == Str.ofString "plus") = false := by decide +kernel
theorem se_4_2 : (Str.ofString "TryRule" = Str.ofString "turn") = False := eq_false (by decide +kernel)
theorem sb_4_2 : (Str.ofString "TryRule" == Str.ofString "turn") = false := by decide +kernel
theorem se_4_3 : (Str.ofString "TryRule" = Str.ofString "turn_plus") = False := eq_false (by decide +kernel)
theorem sb_4_3 : (Str.ofString "TryRule" == Str.ofString "turn_plus") = false := by decide +kernel
theorem se_4_5 : (Str.ofString "TryRule" = Str.ofString "TurnRule") = False := eq_false (by decide +kernel)
theorem sb_4_5 : (Str.ofString "TryRule" == Str.ofString "TurnRule") = false := by decide +kernel
theorem se_4_6 : (Str.ofString "TryRule" = Str.ofString "WeightRule") = False := eq_false (by decide +kernel)
theorem sb_4_6 : (Str.ofString "TryRule" == Str.ofString "WeightRule") = false := by decide +kernel
theorem se_4_7 : (Str.ofString "TryRule" = Str.ofString "beside") = False := eq_false (by decide +kernel)
theorem sb_4_7 : (Str.ofString "TryRule" == Str.ofString "beside") = false := by decide +kernel
theorem se_4_8 : (Str.ofString "TryRule" = Str.ofString "is_fair") = False := eq_false (by decide +kernel)
theorem sb_4_8 : (Str.ofString "TryRule" == Str.ofString "is_fair") = false := by decide +kernel
theorem se_4_9 : (Str.ofString "TryRule" = Str.ofString "greatest") = False := eq_false (by decide +kernel)
theorem sb_4_9 : (Str.ofString "TryRule" == Str.ofString "greatest") = false := by decide +kernel
theorem se_4_10 : (Str.ofString "TryRule" = Str.ofString "turns") = False := eq_false (by decide +kernel)
theorem sb_4_10 : (Str.ofString "TryRule" == Str.ofString "turns") = false := by decide +kernel
theorem se_5_0 : (Str.ofString "TurnRule" = Str.ofString "times") = False := eq_false (by decide +kernel)
theorem sb_5_0 : (Str.ofString "TurnRule" == Str.ofString "times") = false := by decide +kernel
theorem se_5_1 : (Str.ofString "TurnRule" = Str.ofString "plus") = False := eq_false (by decide +kernel)
theorem sb_5_1 : (Str.ofString "TurnRule" == Str.ofString "plus") = false := by decide +kernel
theorem se_5_2 : (Str.ofString "TurnRule" = Str.ofString "turn") = False := eq_false (by decide +kernel)
theorem sb_5_2 : (Str.ofString "TurnRule" == Str.ofString "turn") = false := by decide +kernel
theorem se_5_3 : (Str.ofString "TurnRule" = Str.ofString "turn_plus") = False := eq_false (by decide +kernel)
theorem sb_5_3 : (Str.ofString "TurnRule" == Str.ofString "turn_plus") = false := by decide +kernel
theorem se_5_4 : (Str.ofString "TurnRule" = Str.ofString "TryRule") = False := eq_false (by decide +kernel)
theorem sb_5_4 : (Str.ofString "TurnRule" == Str.ofString "TryRule") = false := by decide +kernel
theorem se_5_6 : (Str.ofString "TurnRule" = Str.ofString "WeightRule") = False := eq_false (by decide +kernel)
theorem sb_5_6 : (Str.ofString "TurnRule" == Str.ofString "WeightRule") = false := by decide +kernel
theorem se_5_7 : (Str.ofString "TurnRule" = Str.ofString "beside") = False := eq_false (by decide +kernel)
theorem sb_5_7 : (Str.ofString "TurnRule" == Str.ofString "beside") = false := by decide +kernel
theorem se_5_8 : (Str.ofString "TurnRule" = Str.ofString "is_fair") = False := eq_false (by decide +kernel)
theorem sb_5_8 : (Str.ofString "TurnRule" == Str.ofString "is_fair") = false := by decide +kernel
theorem se_5_9 : (Str.ofString "TurnRule" = Str.ofString "greatest") = False := eq_false (by decide +kernel)
theorem sb_5_9 : (Str.ofString "TurnRule" == Str.ofString "greatest") = false := by decide +kernel
theorem se_5_10 : (Str.ofString "TurnRule" = Str.ofString "turns") = False := eq_false (by decide +kernel)
theorem sb_5_10 : (Str.ofString "TurnRule" == Str.ofString "turns") = false := by decide +kernel
theorem se_6_0 : (Str.ofString "WeightRule" = Str.ofString "times") = False := eq_false (by decide +kernel)
theorem sb_6_0 : (Str.ofString "WeightRule" == Str.ofString "times") = false := by decide +kernel
theorem se_6_1 : (Str.ofString "WeightRule" = Str.ofString "plus") = False := eq_false (by decide +kernel)
theorem sb_6_1 : (Str.ofString "WeightRule" == Str.ofString "plus") = false := by decide +kernel
theorem se_6_2 : (Str.ofString "WeightRule" = Str.ofString "turn") = False := eq_false (by decide +kernel)
theorem sb_6_2 : (Str.ofString "WeightRule" == Str.ofString "turn") = false := by decide +kernel
theorem se_6_3 : (Str.ofString "WeightRule" = Str.ofString "turn_plus") = False := eq_false (by decide +kernel)
theorem sb_6_3 : (Str.ofString "WeightRule" == Str.ofString "turn_plus") = false := by decide +kernel
theorem se_6_4 : (Str.ofString "WeightRule" = Str.ofString "TryRule") = False := eq_false (by decide +kernel)
theorem sb_6_4 : (Str.ofString "WeightRule" == Str.ofString "TryRule") = false := by decide +kernel
theorem se_6_5 : (Str.ofString "WeightRule" = Str.ofString "TurnRule") = False := eq_false (by decide +kernel)
theorem sb_6_5 : (Str.ofString "WeightRule" == Str.ofString "TurnRule") = false := by decide +kernel
theorem se_6_7 : (Str.ofString "WeightRule" = Str.ofString "beside") = False := eq_false (by decide +kernel)
theorem sb_6_7 : (Str.ofString "WeightRule" == Str.ofString "beside") = false := by decide +kernel
theorem se_6_8 : (Str.ofString "WeightRule" = Str.ofString "is_fair") = False := eq_false (by decide +kernel)
theorem sb_6_8 : (Str.ofString "WeightRule" == Str.ofString "is_fair") = false := by decide +kernel
theorem se_6_9 : (Str.ofString "WeightRule" = Str.ofString "greatest") = False := eq_false (by decide +kernel)
theorem sb_6_9 : (Str.ofString "WeightRule" == Str.ofString "greatest") = false := by decide +kernel
theorem se_6_10 : (Str.ofString "WeightRule" = Str.ofString "turns") = False := eq_false (by decide +kernel)
theorem sb_6_10 : (Str.ofString "WeightRule" == Str.ofString "turns") = false := by decide +kernel
theorem se_7_0 : (Str.ofString "beside" = Str.ofString "times") = False := eq_false (by decide +kernel)
theorem sb_7_0 : (Str.ofString "beside" == Str.ofString "times") = false := by decide +kernel
theorem se_7_1 : (Str.ofString "beside" = Str.ofString "plus") = False := eq_false (by decide +kernel)
theorem sb_7_1 : (Str.ofString "beside" == Str.ofString "plus") = false := by decide +kernel
theorem se_7_2 : (Str.ofString "beside" = Str.ofString "turn") = False := eq_false (by decide +kernel)
theorem sb_7_2 : (Str.ofString "beside" == Str.ofString "turn") = false := by decide +kernel
theorem se_7_3 : (Str.ofString "beside" = Str.ofString "turn_plus") = False := eq_false (by decide +kernel)
theorem sb_7_3 : (Str.ofString "beside" == Str.ofString "turn_plus") = false := by decide +kernel
theorem se_7_4 : (Str.ofString "beside" = Str.ofString "TryRule") = False := eq_false (by decide +kernel)
theorem sb_7_4 : (Str.ofString "beside" == Str.ofString "TryRule") = false := by decide +kernel
theorem se_7_5 : (Str.ofString "beside" = Str.ofString "TurnRule") = False := eq_false (by decide +kernel)
theorem sb_7_5 : (Str.ofString "beside" == Str.ofString "TurnRule") = false := by decide +kernel
theorem se_7_6 : (Str.ofString "beside" = Str.ofString "WeightRule") = False := eq_false (by decide +kernel)
theorem sb_7_6 : (Str.ofString "beside" == Str.ofString "WeightRule") = false := by decide +kernel
theorem se_7_8 : (Str.ofString "beside" = Str.ofString "is_fair") = False := eq_false (by decide +kernel)
theorem sb_7_8 : (Str.ofString "beside" == Str.ofString "is_fair") = false := by decide +kernel
theorem se_7_9 : (Str.ofString "beside" = Str.ofString "greatest") = False := eq_false (by decide +kernel)
theorem sb_7_9 : (Str.ofString "beside" == Str.ofString "greatest") = false := by decide +kernel
theorem se_7_10 : (Str.ofString "beside" = Str.ofString "turns") = False := eq_false (by decide +kernel)
theorem sb_7_10 : (Str.ofString "beside" == Str.ofString "turns") = false := by decide +kernel
theorem se_8_0 : (Str.ofString "is_fair" = Str.ofString "times") = False := eq_false (by decide +kernel)
theorem sb_8_0 : (Str.ofString "is_fair" == Str.ofString "times") = false := by decide +kernel
theorem se_8_1 : (Str.ofString "is_fair" = Str.ofString "plus") = False := eq_false (by decide +kernel)
theorem sb_8_1 : (Str.ofString "is_fair" == Str.ofString "plus") = false := by decide +kernel
theorem se_8_2 : (Str.ofString "is_fair" = Str.ofString "turn") = False := eq_false (by decide +kernel)
theorem sb_8_2 : (Str.ofString "is_fair" == Str.ofString "turn") = false := by decide +kernel
theorem se_8_3 : (Str.ofString "is_fair" = Str.ofString "turn_plus") = False := eq_false (by decide +kernel)
theorem sb_8_3 : (Str.ofString "is_fair" == Str.ofString "turn_plus") = false := by decide +kernel
theorem se_8_4 : (Str.ofString "is_fair" = Str.ofString "TryRule") = False := eq_false (by decide +kernel)
theorem sb_8_4 : (Str.ofString "is_fair" == Str.ofString "TryRule") = false := by decide +kernel
theorem se_8_5 : (Str.ofString "is_fair" = Str.ofString "TurnRule") = False := eq_false (by decide +kernel)
theorem sb_8_5 : (Str.ofString "is_fair" == Str.ofString "TurnRule") = false := by decide +kernel
theorem se_8_6 : (Str.ofString "is_fair" = Str.ofString "WeightRule") = False := eq_false (by decide +kernel)
theorem sb_8_6 : (Str.ofString "is_fair" == Str.ofString "WeightRule") = false := by decide +kernel
theorem se_8_7 : (Str.ofString "is_fair" = Str.ofString "beside") = False := eq_false (by decide +kernel)
theorem sb_8_7 : (Str.ofString "is_fair" == Str.ofString "beside") = false := by decide +kernel
theorem se_8_9 : (Str.ofString "is_fair" = Str.ofString "greatest") = False := eq_false (by decide +kernel)
theorem sb_8_9 : (Str.ofString "is_fair" == Str.ofString "greatest") = false := by decide +kernel
theorem se_8_10 : (Str.ofString "is_fair" = Str.ofString "turns") = False := eq_false (by decide +kernel)
theorem sb_8_10 : (Str.ofString "is_fair" == Str.ofString "turns") = false := by decide +kernel
theorem se_9_0 : (Str.ofString "greatest" = Str.ofString "times") = False := eq_false (by decide +kernel)
theorem sb_9_0 : (Str.ofString "greatest" == Str.ofString "times") = false := by decide +kernel
theorem se_9_1 : (Str.ofString "greatest" = Str.ofString "plus") = False := eq_false (by decide +kernel)
theorem sb_9_1 : (Str.ofString "greatest" == Str.ofString "plus") = false := by decide +kernel
theorem se_9_2 : (Str.ofString "greatest" = Str.ofString "turn") = False := eq_false (by decide +kernel)
theorem sb_9_2 : (Str.ofString "greatest" == Str.ofString "turn") = false := by decide +kernel
theorem se_9_3 : (Str.ofString "greatest" = Str.ofString "turn_plus") = False := eq_false (by decide +kernel)
theorem sb_9_3 : (Str.ofString "greatest" == Str.ofString "turn_plus") = false := by decide +kernel
theorem se_9_4 : (Str.ofString "greatest" = Str.ofString "TryRule") = False := eq_false (by decide +kernel)
theorem sb_9_4 : (Str.ofString "greatest" == Str.ofString "TryRule") = false := by decide +kernel
theorem se_9_5 : (Str.ofString "greatest" = Str.ofString "TurnRule") = False := eq_false (by decide +kernel)
theorem sb_9_5 : (Str.ofString "greatest" == Str.ofString "TurnRule") = false := by decide +kernel
theorem se_9_6 : (Str.ofString "greatest" = Str.ofString "WeightRule") = False := eq_false (by decide +kernel)
theorem sb_9_6 : (Str.ofString "greatest" == Str.ofString "WeightRule") = false := by decide +kernel
theorem se_9_7 : (Str.ofString "greatest" = Str.ofString "beside") = False := eq_false (by decide +kernel)
theorem sb_9_7 : (Str.ofString "greatest" == Str.ofString "beside") = false := by decide +kernel
theorem se_9_8 : (Str.ofString "greatest" = Str.ofString "is_fair") = False := eq_false (by decide +kernel)
theorem sb_9_8 : (Str.ofString "greatest" == Str.ofString "is_fair") = false := by decide +kernel
theorem se_9_10 : (Str.ofString "greatest" = Str.ofString "turns") = False := eq_false (by decide +kernel)
theorem sb_9_10 : (Str.ofString "greatest" == Str.ofString "turns") = false := by decide +kernel
theorem se_10_0 : (Str.ofString "turns" = Str.ofString "times") = False := eq_false (by decide +kernel)
theorem sb_10_0 : (Str.ofString "turns" == Str.ofString "times") = false := by decide +kernel
theorem se_10_1 : (Str.ofString "turns" = Str.ofString "plus") = False := eq_false (by decide +kernel)
theorem sb_10_1 : (Str.ofString "turns" == Str.ofString "plus") = false := by decide +kernel
theorem se_10_2 : (Str.ofString "turns" = Str.ofString "turn") = False := eq_false (by decide +kernel)
theorem sb_10_2 : (Str.ofString "turns" == Str.ofString "turn") = false := by decide +kernel
theorem se_10_3 : (Str.ofString "turns" = Str.ofString "turn_plus") = False := eq_false (by decide +kernel)
theorem sb_10_3 : (Str.ofString "turns" == Str.ofString "turn_plus") = false := by decide +kernel
theorem se_10_4 : (Str.ofString "turns" = Str.ofString "TryRule") = False := eq_false (by decide +kernel)
theorem sb_10_4 : (Str.ofString "turns" == Str.ofString "TryRule") = false := by decide +kernel
theorem se_10_5 : (Str.ofString "turns" = Str.ofString "TurnRule") = False := eq_false (by decide +kernel)
theorem sb_10_5 : (Str.ofString "turns" == Str.ofString "TurnRule") = false := by decide +kernel
theorem se_10_6 : (Str.ofString "turns" = Str.ofString "WeightRule") = False := eq_false (by decide +kernel)
theorem sb_10_6 : (Str.ofString "turns" == Str.ofString "WeightRule") = false := by decide +kernel
theorem se_10_7 : (Str.ofString "turns" = Str.ofString "beside") = False := eq_false (by decide +kernel)
theorem sb_10_7 : (Str.ofString "turns" == Str.ofString "beside") = false := by decide +kernel
theorem se_10_8 : (Str.ofString "turns" = Str.ofString "is_fair") = False := eq_false (by decide +kernel)
theorem sb_10_8 : (Str.ofString "turns" == Str.ofString "is_fair") = false := by decide +kernel
theorem se_10_9 : (Str.ofString "turns" = Str.ofString "greatest") = False := eq_false (by decide +kernel)
theorem sb_10_9 : (Str.ofString "turns" == Str.ofString "greatest") = false := by decide +kernel
end K31
namespace K31
open PySem
theorem sc_Rule_Rule : subs "Rule" "Rule" = true := by decide +kernel
theorem sc_Rule_WeightRule : subs "Rule" "WeightRule" = false := by decide +kernel
theorem sc_Rule_TurnRule : subs "Rule" "TurnRule" = false := by decide +kernel
theorem sc_Rule_TryRule : subs "Rule" "TryRule" = false := by decide +kernel
theorem sc_WeightRule_Rule : subs "WeightRule" "Rule" = true := by decide +kernel
theorem sc_WeightRule_WeightRule : subs "WeightRule" "WeightRule" = true := by decide +kernel
theorem sc_WeightRule_TurnRule : subs "WeightRule" "TurnRule" = false := by decide +kernel
theorem sc_WeightRule_TryRule : subs "WeightRule" "TryRule" = false := by decide +kernel
theorem sc_TurnRule_Rule : subs "TurnRule" "Rule" = true := by decide +kernel
theorem sc_TurnRule_WeightRule : subs "TurnRule" "WeightRule" = true := by decide +kernel
theorem sc_TurnRule_TurnRule : subs "TurnRule" "TurnRule" = true := by decide +kernel
theorem sc_TurnRule_TryRule : subs "TurnRule" "TryRule" = false := by decide +kernel
theorem sc_TryRule_Rule : subs "TryRule" "Rule" = true := by decide +kernel
theorem sc_TryRule_WeightRule : subs "TryRule" "WeightRule" = true := by decide +kernel
theorem sc_TryRule_TurnRule : subs "TryRule" "TurnRule" = false := by decide +kernel
theorem sc_TryRule_TryRule : subs "TryRule" "TryRule" = true := by decide +kernel
theorem xc_BadRule_BadRule : xsubs "BadRule" "BadRule" = true := by decide +kernel
theorem xc_BadRule_NoHalves : xsubs "BadRule" "NoHalves" = false := by decide +kernel
theorem xc_BadRule_BadNumber : xsubs "BadRule" "BadNumber" = false := by decide +kernel
theorem xc_BadRule_BadOther : xsubs "BadRule" "BadOther" = false := by decide +kernel
theorem xc_BadRule_BadText : xsubs "BadRule" "BadText" = false := by decide +kernel
theorem xc_BadRule_FairError : xsubs "BadRule" "FairError" = true := by decide +kernel
theorem xc_NoHalves_BadRule : xsubs "NoHalves" "BadRule" = false := by decide +kernel
theorem xc_NoHalves_NoHalves : xsubs "NoHalves" "NoHalves" = true := by decide +kernel
theorem xc_NoHalves_BadNumber : xsubs "NoHalves" "BadNumber" = false := by decide +kernel
theorem xc_NoHalves_BadOther : xsubs "NoHalves" "BadOther" = false := by decide +kernel
theorem xc_NoHalves_BadText : xsubs "NoHalves" "BadText" = false := by decide +kernel
theorem xc_NoHalves_FairError : xsubs "NoHalves" "FairError" = true := by decide +kernel
theorem xc_BadNumber_BadRule : xsubs "BadNumber" "BadRule" = false := by decide +kernel
theorem xc_BadNumber_NoHalves : xsubs "BadNumber" "NoHalves" = false := by decide +kernel
theorem xc_BadNumber_BadNumber : xsubs "BadNumber" "BadNumber" = true := by decide +kernel
theorem xc_BadNumber_BadOther : xsubs "BadNumber" "BadOther" = false := by decide +kernel
theorem xc_BadNumber_BadText : xsubs "BadNumber" "BadText" = false := by decide +kernel
theorem xc_BadNumber_FairError : xsubs "BadNumber" "FairError" = true := by decide +kernel
theorem xc_BadOther_BadRule : xsubs "BadOther" "BadRule" = false := by decide +kernel
theorem xc_BadOther_NoHalves : xsubs "BadOther" "NoHalves" = false := by decide +kernel
theorem xc_BadOther_BadNumber : xsubs "BadOther" "BadNumber" = false := by decide +kernel
theorem xc_BadOther_BadOther : xsubs "BadOther" "BadOther" = true := by decide +kernel
theorem xc_BadOther_BadText : xsubs "BadOther" "BadText" = false := by decide +kernel
theorem xc_BadOther_FairError : xsubs "BadOther" "FairError" = true := by decide +kernel
theorem xc_BadText_BadRule : xsubs "BadText" "BadRule" = false := by decide +kernel
theorem xc_BadText_NoHalves : xsubs "BadText" "NoHalves" = false := by decide +kernel
theorem xc_BadText_BadNumber : xsubs "BadText" "BadNumber" = false := by decide +kernel
theorem xc_BadText_BadOther : xsubs "BadText" "BadOther" = false := by decide +kernel
theorem xc_BadText_BadText : xsubs "BadText" "BadText" = true := by decide +kernel
theorem xc_BadText_FairError : xsubs "BadText" "FairError" = true := by decide +kernel
end K31
namespace K31
open PySem L2 Pu
end K31
set_option hygiene false
local macro_rules | `(tactic| walk_at "ev lk") => `(tactic| (first | exact lkSelf | (simp only [List.lookup, beq_self_eq_true, sb_0_1, sb_0_2, sb_0_3, sb_0_4, sb_0_5, sb_0_6, sb_0_7, sb_0_8, sb_0_9, sb_0_10, sb_1_0, sb_1_2, sb_1_3, sb_1_4, sb_1_5, sb_1_6, sb_1_7, sb_1_8, sb_1_9, sb_1_10, sb_2_0, sb_2_1, sb_2_3, sb_2_4, sb_2_5, sb_2_6, sb_2_7, sb_2_8, sb_2_9, sb_2_10, sb_3_0, sb_3_1, sb_3_2, sb_3_4, sb_3_5, sb_3_6, sb_3_7, sb_3_8, sb_3_9, sb_3_10, sb_4_0, sb_4_1, sb_4_2, sb_4_3, sb_4_5, sb_4_6, sb_4_7, sb_4_8, sb_4_9, sb_4_10, sb_5_0, sb_5_1, sb_5_2, sb_5_3, sb_5_4, sb_5_6, sb_5_7, sb_5_8, sb_5_9, sb_5_10, sb_6_0, sb_6_1, sb_6_2, sb_6_3, sb_6_4, sb_6_5, sb_6_7, sb_6_8, sb_6_9, sb_6_10, sb_7_0, sb_7_1, sb_7_2, sb_7_3, sb_7_4, sb_7_5, sb_7_6, sb_7_8, sb_7_9, sb_7_10, sb_8_0, sb_8_1, sb_8_2, sb_8_3, sb_8_4, sb_8_5, sb_8_6, sb_8_7, sb_8_9, sb_8_10, sb_9_0, sb_9_1, sb_9_2, sb_9_3, sb_9_4, sb_9_5, sb_9_6, sb_9_7, sb_9_8, sb_9_10, sb_10_0, sb_10_1, sb_10_2, sb_10_3, sb_10_4, sb_10_5, sb_10_6, sb_10_7, sb_10_8, sb_10_9]; done) | (simp only [List.lookup, beq_self_eq_true, sb_0_1, sb_0_2, sb_0_3, sb_0_4, sb_0_5, sb_0_6, sb_0_7, sb_0_8, sb_0_9, sb_0_10, sb_1_0, sb_1_2, sb_1_3, sb_1_4, sb_1_5, sb_1_6, sb_1_7, sb_1_8, sb_1_9, sb_1_10, sb_2_0, sb_2_1, sb_2_3, sb_2_4, sb_2_5, sb_2_6, sb_2_7, sb_2_8, sb_2_9, sb_2_10, sb_3_0, sb_3_1, sb_3_2, sb_3_4, sb_3_5, sb_3_6, sb_3_7, sb_3_8, sb_3_9, sb_3_10, sb_4_0, sb_4_1, sb_4_2, sb_4_3, sb_4_5, sb_4_6, sb_4_7, sb_4_8, sb_4_9, sb_4_10, sb_5_0, sb_5_1, sb_5_2, sb_5_3, sb_5_4, sb_5_6, sb_5_7, sb_5_8, sb_5_9, sb_5_10, sb_6_0, sb_6_1, sb_6_2, sb_6_3, sb_6_4, sb_6_5, sb_6_7, sb_6_8, sb_6_9, sb_6_10, sb_7_0, sb_7_1, sb_7_2, sb_7_3, sb_7_4, sb_7_5, sb_7_6, sb_7_8, sb_7_9, sb_7_10, sb_8_0, sb_8_1, sb_8_2, sb_8_3, sb_8_4, sb_8_5, sb_8_6, sb_8_7, sb_8_9, sb_8_10, sb_9_0, sb_9_1, sb_9_2, sb_9_3, sb_9_4, sb_9_5, sb_9_6, sb_9_7, sb_9_8, sb_9_10, sb_10_0, sb_10_1, sb_10_2, sb_10_3, sb_10_4, sb_10_5, sb_10_6, sb_10_7, sb_10_8, sb_10_9]; rfl)))
local macro_rules | `(tactic| walk_at "ev dx") => `(tactic| dsimp only [mSeq, mNext, mBreak, mCont, mNever, mDrop, mRet, mRetN, mIfS, mAsg, mgN, mgNil, mgCons, mgT, mSetOwn, mPar, mPar3, mAug, mStore, mApp, mFreeze, mFor, wipeP, mLc, mYes, mVar, mC, mOp, mUn, mB, mAnd, mOr, mNot, mAndV, mOrV, mNotV, mIf, mChain, mNil, mCons, mTup, mLst, mCB, mFld, mFldO, pI0, pI, pAdd, pSub, pLt, pLe, pGt, pGe, pMul, pDiv, pMod, pPow, pNeg, pEq, pNe, PV.isNon, pIsN, pNotN, mCall, mCallK, mMeth, mMethO, mMake, mDraw, mList, mTupI, mRng1, mRng2, pIxL, pIxT, pIxA, pIxS, pLen, pLenS, pAbs, pMax2, pMin2, pInt1, pBool1, pStr1, pSum, pMaxL, pMinL, pAll, pAny, pTuple, pList, pRepr, pEqD, pNeD, PV.data, datas, toInts, toBools, mPeek, mPeekT, PV.tyName, PV.isTy, PV.isCls, mIsiT, mIsiT2, mIsiC, pOwnC, pOwn1, pOwnCD, pOwn1D, pC1, PV.isB, PV.isS, PV.isLen, PV.isAtom, mMethD, pputF, initEnd, mSup, mStatO, mStat, mMethOD, mMethDK, mNoPart, mPart, mSl, pSlT, pSlL, pSlS, mLrg1, mLrg2, pCatL, pCatT, pCatS, pRepL, mTryK, mTryKS, mTryO, blank, mIsVC, mIsVT, mXFld, mAsk, mGive, noOwn, mRai1, mRai2, mJoined, mJs, mFmt, mInstD, mInstDK, pIsB, pNotB, pMulS, pIntS, mDct, mPairs, merge0, merge1, pReprD, PV.dataD, datasD, datasK, mZip, seqB, zipP, mEnum, enP, mStar, PV.items, pRepT, mRai0, pSumT, pIxU, pLenU, mDctP, mPair1, mParOwn2, mParOwn3, mStrI, pInSign, PV.flt, flts, pIn, inV, strsP, pJoin, pSplit, mM1, mRev, mMakeV, mFnC, mSetIx, mOwnList, mParOwn, List.replicate_succ, List.replicate_zero, List.map, List.append_nil, List.nil_append, List.cons_append, List.length, List.getElem?_cons_zero, List.getElem?_cons_succ, List.set_cons_zero, List.set_cons_succ, Option.map_some, Option.map_none, Bool.not_true, Bool.not_false, Option.isSome_some, Bool.or_false, Bool.or_true, Bool.false_or, Bool.true_or, Bool.and_true, Bool.true_and, Bool.and_false, Bool.false_and, if_true, if_false, ↓reduceIte, Nat.reduceAdd, Nat.reduceSub, Int.reduceNeg, Nat.reduceLeDiff, Nat.reduceLT, Nat.reduceEqDiff, String.reduceBEq, ati_1_0, ati_1_m1, ati_2_0, ati_2_1, ati_2_m1, ati_3_0, ati_3_1, ati_3_2, ati_3_m1, ati_4_0, ati_4_1, ati_4_2, ati_4_3, ati_4_m1, ati_5_0, ati_5_1, ati_5_2, ati_5_3, ati_5_4, ati_5_m1, ati_6_0, ati_6_1, ati_6_2, ati_6_3, ati_6_4, ati_6_5, ati_6_m1, ati_7_0, ati_7_1, ati_7_2, ati_7_3, ati_7_4, ati_7_5, ati_7_6, ati_7_m1, gp_0, gp_1, gp_2, gp_3, gp_4])
local macro_rules | `(tactic| walk_at "ev sx") => `(tactic| simp only [List.lookup, lkSelf, Bool.true_eq_false, Bool.false_eq_true, Bool.not_true, Bool.not_false, Bool.or_false, Bool.or_true, Bool.false_or, Bool.true_or, Bool.and_true, Bool.true_and, Bool.and_false, Bool.false_and, if_true, if_false, ↓reduceIte, eq_self, decide_true, decide_false, not_true_eq_false, not_false_eq_true, true_and, and_true, decide_eq_true_eq, Bool.not_eq_eq_eq_not, decide_eq_false_iff_not, Nat.reduceAdd, Nat.reduceSub, Nat.reduceLeDiff, Nat.reduceLT, Nat.reduceEqDiff, Int.reduceNeg, Int.cast_ofNat_Int, Int.reduceToNat, Int.reduceSub, Int.reduceAdd, Int.reduceMul, Int.reducePow, List.flatten_cons, List.flatten_nil, String.reduceBEq, beq_self_eq_true, Int.reduceEq, Int.reduceLT, Int.reduceLE, se_0_1, sb_0_1, se_0_2, sb_0_2, se_0_3, sb_0_3, se_0_4, sb_0_4, se_0_5, sb_0_5, se_0_6, sb_0_6, se_0_7, sb_0_7, se_0_8, sb_0_8, se_0_9, sb_0_9, se_0_10, sb_0_10, se_1_0, sb_1_0, se_1_2, sb_1_2, se_1_3, sb_1_3, se_1_4, sb_1_4, se_1_5, sb_1_5, se_1_6, sb_1_6, se_1_7, sb_1_7, se_1_8, sb_1_8, se_1_9, sb_1_9, se_1_10, sb_1_10, se_2_0, sb_2_0, se_2_1, sb_2_1, se_2_3, sb_2_3, se_2_4, sb_2_4, se_2_5, sb_2_5, se_2_6, sb_2_6, se_2_7, sb_2_7, se_2_8, sb_2_8, se_2_9, sb_2_9, se_2_10, sb_2_10, se_3_0, sb_3_0, se_3_1, sb_3_1, se_3_2, sb_3_2, se_3_4, sb_3_4, se_3_5, sb_3_5, se_3_6, sb_3_6, se_3_7, sb_3_7, se_3_8, sb_3_8, se_3_9, sb_3_9, se_3_10, sb_3_10, se_4_0, sb_4_0, se_4_1, sb_4_1, se_4_2, sb_4_2, se_4_3, sb_4_3, se_4_5, sb_4_5, se_4_6, sb_4_6, se_4_7, sb_4_7, se_4_8, sb_4_8, se_4_9, sb_4_9, se_4_10, sb_4_10, se_5_0, sb_5_0, se_5_1, sb_5_1, se_5_2, sb_5_2, se_5_3, sb_5_3, se_5_4, sb_5_4, se_5_6, sb_5_6, se_5_7, sb_5_7, se_5_8, sb_5_8, se_5_9, sb_5_9, se_5_10, sb_5_10, se_6_0, sb_6_0, se_6_1, sb_6_1, se_6_2, sb_6_2, se_6_3, sb_6_3, se_6_4, sb_6_4, se_6_5, sb_6_5, se_6_7, sb_6_7, se_6_8, sb_6_8, se_6_9, sb_6_9, se_6_10, sb_6_10, se_7_0, sb_7_0, se_7_1, sb_7_1, se_7_2, sb_7_2, se_7_3, sb_7_3, se_7_4, sb_7_4, se_7_5, sb_7_5, se_7_6, sb_7_6, se_7_8, sb_7_8, se_7_9, sb_7_9, se_7_10, sb_7_10, se_8_0, sb_8_0, se_8_1, sb_8_1, se_8_2, sb_8_2, se_8_3, sb_8_3, se_8_4, sb_8_4, se_8_5, sb_8_5, se_8_6, sb_8_6, se_8_7, sb_8_7, se_8_9, sb_8_9, se_8_10, sb_8_10, se_9_0, sb_9_0, se_9_1, sb_9_1, se_9_2, sb_9_2, se_9_3, sb_9_3, se_9_4, sb_9_4, se_9_5, sb_9_5, se_9_6, sb_9_6, se_9_7, sb_9_7, se_9_8, sb_9_8, se_9_10, sb_9_10, se_10_0, sb_10_0, se_10_1, sb_10_1, se_10_2, sb_10_2, se_10_3, sb_10_3, se_10_4, sb_10_4, se_10_5, sb_10_5, se_10_6, sb_10_6, se_10_7, sb_10_7, se_10_8, sb_10_8, se_10_9, sb_10_9, sc_Rule_Rule, sc_Rule_WeightRule, sc_Rule_TurnRule, sc_Rule_TryRule, sc_WeightRule_Rule, sc_WeightRule_WeightRule, sc_WeightRule_TurnRule, sc_WeightRule_TryRule, sc_TurnRule_Rule, sc_TurnRule_WeightRule, sc_TurnRule_TurnRule, sc_TurnRule_TryRule, sc_TryRule_Rule, sc_TryRule_WeightRule, sc_TryRule_TurnRule, sc_TryRule_TryRule, xc_BadRule_BadRule, xc_BadRule_NoHalves, xc_BadRule_BadNumber, xc_BadRule_BadOther, xc_BadRule_BadText, xc_BadRule_FairError, xc_NoHalves_BadRule, xc_NoHalves_NoHalves, xc_NoHalves_BadNumber, xc_NoHalves_BadOther, xc_NoHalves_BadText, xc_NoHalves_FairError, xc_BadNumber_BadRule, xc_BadNumber_NoHalves, xc_BadNumber_BadNumber, xc_BadNumber_BadOther, xc_BadNumber_BadText, xc_BadNumber_FairError, xc_BadOther_BadRule, xc_BadOther_NoHalves, xc_BadOther_BadNumber, xc_BadOther_BadOther, xc_BadOther_BadText, xc_BadOther_FairError, xc_BadText_BadRule, xc_BadText_NoHalves, xc_BadText_BadNumber, xc_BadText_BadOther, xc_BadText_BadText, xc_BadText_FairError])
local macro_rules | `(tactic| walk_at "ev sd") => `(tactic| ((repeat' (with_reducible refine And.intro ?_ ?_)) <;> first | assumption | omega | exact big_of (by omega) (by omega) | (unfold CPow; omega) | decide +kernel))
local macro_rules | `(tactic| walk_at "ev g1") => `(tactic| with_reducible refine And.intro (by walk_at "ev sd") ?_)
local macro_rules | `(tactic| walk_at "ev g1") => `(tactic| rw [if_neg (by first | assumption | omega)])
local macro_rules | `(tactic| walk_at "ev g1") => `(tactic| rw [if_pos (by first | assumption | omega)])
local macro_rules | `(tactic| walk_at "ev g1") => `(tactic| with_reducible refine fun (d : Int) (dlo : 0 ≤ d) (dhi : d < _) => ?_)
local macro_rules | `(tactic| walk_at "ev go") => `(tactic| ((walk_at "ev px"); repeat ((walk_at "ev g1"); (walk_at "ev px"))))
local macro_rules | `(tactic| walk_at "ev run") => `(tactic| ((walk_at "ev go"); repeat' (split <;> (walk_at "ev go"))))
local macro_rules | `(tactic| walk_at "ev px") => `(tactic| ((try walk_at "ev dx"); (try simp only [mSeq, mNext, mBreak, mCont, mNever, mDrop, mRet, mRetN, mIfS, mAsg, mgN, mgNil, mgCons, mgT, mSetOwn, mPar, mPar3, mAug, mStore, mApp, mFreeze, mFor, wipeP, mLc, mYes, mVar, mC, mOp, mUn, mB, mAnd, mOr, mNot, mAndV, mOrV, mNotV, mIf, mChain, mNil, mCons, mTup, mLst, mCB, mFld, mFldO, pI0, pI, pAdd, pSub, pLt, pLe, pGt, pGe, pMul, pDiv, pMod, pPow, pNeg, pEq, pNe, PV.isNon, pIsN, pNotN, mCall, mCallK, mMeth, mMethO, mMake, mDraw, mList, mTupI, mRng1, mRng2, pIxL, pIxT, pIxA, pIxS, pLen, pLenS, pAbs, pMax2, pMin2, pInt1, pBool1, pStr1, pSum, pMaxL, pMinL, pAll, pAny, pTuple, pList, pRepr, pEqD, pNeD, PV.data, datas, toInts, toBools, mPeek, mPeekT, PV.tyName, PV.isTy, PV.isCls, mIsiT, mIsiT2, mIsiC, pOwnC, pOwn1, pOwnCD, pOwn1D, pC1, PV.isB, PV.isS, PV.isLen, PV.isAtom, mMethD, pputF, initEnd, mSup, mStatO, mStat, mMethOD, mMethDK, mNoPart, mPart, mSl, pSlT, pSlL, pSlS, mLrg1, mLrg2, pCatL, pCatT, pCatS, pRepL, mTryK, mTryKS, mTryO, blank, mIsVC, mIsVT, mXFld, mAsk, mGive, noOwn, mRai1, mRai2, mJoined, mJs, mFmt, mInstD, mInstDK, pIsB, pNotB, pMulS, pIntS, mDct, mPairs, merge0, merge1, pReprD, PV.dataD, datasD, datasK, mZip, seqB, zipP, mEnum, enP, mStar, PV.items, pRepT, mRai0, pSumT, pIxU, pLenU, mDctP, mPair1, mParOwn2, mParOwn3, mStrI, pInSign, PV.flt, flts, pIn, inV, strsP, pJoin, pSplit, mM1, mRev, mMakeV, mFnC, mSetIx, mOwnList, mParOwn, List.replicate_succ, List.replicate_zero, List.map, List.append_nil, List.nil_append, List.cons_append, List.length, List.getElem?_cons_zero, List.getElem?_cons_succ, List.set_cons_zero, List.set_cons_succ, Option.map_some, Option.map_none, Bool.not_true, Bool.not_false, Option.isSome_some, Bool.or_false, Bool.or_true, Bool.false_or, Bool.true_or, Bool.and_true, Bool.true_and, Bool.and_false, Bool.false_and, if_true, if_false, ↓reduceIte, Nat.reduceAdd, Nat.reduceSub, Int.reduceNeg, Nat.reduceLeDiff, Nat.reduceLT, Nat.reduceEqDiff, String.reduceBEq, List.lookup, lkSelf, Bool.true_eq_false, Bool.false_eq_true, Bool.not_true, Bool.not_false, Bool.or_false, Bool.or_true, Bool.false_or, Bool.true_or, Bool.and_true, Bool.true_and, Bool.and_false, Bool.false_and, if_true, if_false, ↓reduceIte, eq_self, decide_true, decide_false, not_true_eq_false, not_false_eq_true, true_and, and_true, decide_eq_true_eq, Bool.not_eq_eq_eq_not, decide_eq_false_iff_not, Nat.reduceAdd, Nat.reduceSub, Nat.reduceLeDiff, Nat.reduceLT, Nat.reduceEqDiff, Int.reduceNeg, Int.cast_ofNat_Int, Int.reduceToNat, Int.reduceSub, Int.reduceAdd, Int.reduceMul, Int.reducePow, List.flatten_cons, List.flatten_nil, String.reduceBEq, beq_self_eq_true, Int.reduceEq, Int.reduceLT, Int.reduceLE, at0, at1, at2, at3, at4, at5, se_0_1, sb_0_1, se_0_2, sb_0_2, se_0_3, sb_0_3, se_0_4, sb_0_4, se_0_5, sb_0_5, se_0_6, sb_0_6, se_0_7, sb_0_7, se_0_8, sb_0_8, se_0_9, sb_0_9, se_0_10, sb_0_10, se_1_0, sb_1_0, se_1_2, sb_1_2, se_1_3, sb_1_3, se_1_4, sb_1_4, se_1_5, sb_1_5, se_1_6, sb_1_6, se_1_7, sb_1_7, se_1_8, sb_1_8, se_1_9, sb_1_9, se_1_10, sb_1_10, se_2_0, sb_2_0, se_2_1, sb_2_1, se_2_3, sb_2_3, se_2_4, sb_2_4, se_2_5, sb_2_5, se_2_6, sb_2_6, se_2_7, sb_2_7, se_2_8, sb_2_8, se_2_9, sb_2_9, se_2_10, sb_2_10, se_3_0, sb_3_0, se_3_1, sb_3_1, se_3_2, sb_3_2, se_3_4, sb_3_4, se_3_5, sb_3_5, se_3_6, sb_3_6, se_3_7, sb_3_7, se_3_8, sb_3_8, se_3_9, sb_3_9, se_3_10, sb_3_10, se_4_0, sb_4_0, se_4_1, sb_4_1, se_4_2, sb_4_2, se_4_3, sb_4_3, se_4_5, sb_4_5, se_4_6, sb_4_6, se_4_7, sb_4_7, se_4_8, sb_4_8, se_4_9, sb_4_9, se_4_10, sb_4_10, se_5_0, sb_5_0, se_5_1, sb_5_1, se_5_2, sb_5_2, se_5_3, sb_5_3, se_5_4, sb_5_4, se_5_6, sb_5_6, se_5_7, sb_5_7, se_5_8, sb_5_8, se_5_9, sb_5_9, se_5_10, sb_5_10, se_6_0, sb_6_0, se_6_1, sb_6_1, se_6_2, sb_6_2, se_6_3, sb_6_3, se_6_4, sb_6_4, se_6_5, sb_6_5, se_6_7, sb_6_7, se_6_8, sb_6_8, se_6_9, sb_6_9, se_6_10, sb_6_10, se_7_0, sb_7_0, se_7_1, sb_7_1, se_7_2, sb_7_2, se_7_3, sb_7_3, se_7_4, sb_7_4, se_7_5, sb_7_5, se_7_6, sb_7_6, se_7_8, sb_7_8, se_7_9, sb_7_9, se_7_10, sb_7_10, se_8_0, sb_8_0, se_8_1, sb_8_1, se_8_2, sb_8_2, se_8_3, sb_8_3, se_8_4, sb_8_4, se_8_5, sb_8_5, se_8_6, sb_8_6, se_8_7, sb_8_7, se_8_9, sb_8_9, se_8_10, sb_8_10, se_9_0, sb_9_0, se_9_1, sb_9_1, se_9_2, sb_9_2, se_9_3, sb_9_3, se_9_4, sb_9_4, se_9_5, sb_9_5, se_9_6, sb_9_6, se_9_7, sb_9_7, se_9_8, sb_9_8, se_9_10, sb_9_10, se_10_0, sb_10_0, se_10_1, sb_10_1, se_10_2, sb_10_2, se_10_3, sb_10_3, se_10_4, sb_10_4, se_10_5, sb_10_5, se_10_6, sb_10_6, se_10_7, sb_10_7, se_10_8, sb_10_8, se_10_9, sb_10_9, sc_Rule_Rule, sc_Rule_WeightRule, sc_Rule_TurnRule, sc_Rule_TryRule, sc_WeightRule_Rule, sc_WeightRule_WeightRule, sc_WeightRule_TurnRule, sc_WeightRule_TryRule, sc_TurnRule_Rule, sc_TurnRule_WeightRule, sc_TurnRule_TurnRule, sc_TurnRule_TryRule, sc_TryRule_Rule, sc_TryRule_WeightRule, sc_TryRule_TurnRule, sc_TryRule_TryRule, xc_BadRule_BadRule, xc_BadRule_NoHalves, xc_BadRule_BadNumber, xc_BadRule_BadOther, xc_BadRule_BadText, xc_BadRule_FairError, xc_NoHalves_BadRule, xc_NoHalves_NoHalves, xc_NoHalves_BadNumber, xc_NoHalves_BadOther, xc_NoHalves_BadText, xc_NoHalves_FairError, xc_BadNumber_BadRule, xc_BadNumber_NoHalves, xc_BadNumber_BadNumber, xc_BadNumber_BadOther, xc_BadNumber_BadText, xc_BadNumber_FairError, xc_BadOther_BadRule, xc_BadOther_NoHalves, xc_BadOther_BadNumber, xc_BadOther_BadOther, xc_BadOther_BadText, xc_BadOther_FairError, xc_BadText_BadRule, xc_BadText_NoHalves, xc_BadText_BadNumber, xc_BadText_BadOther, xc_BadText_BadText, xc_BadText_FairError, gp_0, gp_1, gp_2, gp_3, gp_4])))
namespace K31
open PySem L2 Pu
theorem at_nat {α : Type} {xs : List α} {M : Int} {v : α} (h0 : 0 ≤ M) (h : xs[M.toNat]? = some v) : atI xs M = some v := by
  have hl : M.toNat < xs.length := (List.getElem?_eq_some_iff.mp h).1
  unfold atI ixN
  rw [if_pos h0, if_pos (by omega)]
  exact h
theorem pick_run {xs : List PV} {W : XP} {n : Nat} {Q : PV → Nat → Prop} (hn : 1 ≤ n) (h0 : 0 < xs.length) (h1 : xs.length ≤ 100000) (k : ∀ x ∈ xs, Q x (n - 1)) : m_law_pick [.pen, .lst xs] W n Q := by
  refine run_law_pick ?_
  unfold b_law_pick
  walk_at "ev px"
  refine ⟨hn, by omega, by omega, fun d d0 d1 => ?_⟩
  have hl : d.toNat < xs.length := by omega
  rw [at_nat d0 (List.getElem?_eq_getElem hl)]
  walk_at "ev px"
  exact k _ (List.getElem_mem hl)
theorem all_nil {P : Int → Prop} : ∀ x ∈ ([] : List PV), ∃ i, x = .int i ∧ P i := fun _ h => by cases h
theorem all_cons {P : Int → Prop} {x : Int} {xs : List PV} (h : P x) (t : ∀ y ∈ xs, ∃ i, y = .int i ∧ P i) : ∀ y ∈ PV.int x :: xs, ∃ i, y = .int i ∧ P i := fun y hy => by
  rcases List.mem_cons.mp hy with rfl | hy
  · exact ⟨_, rfl, h⟩
  · exact t y hy
theorem pick_int (P : Int → Prop) {xs : List PV} {W : XP} {n : Nat} {Q : PV → Nat → Prop} (hn : 1 ≤ n) (h0 : 0 < xs.length) (h1 : xs.length ≤ 100000) (hx : ∀ x ∈ xs, ∃ i, x = .int i ∧ P i) (k : ∀ i, P i → Q (.int i) (n - 1)) : m_law_pick [.pen, .lst xs] W n Q := by
  refine pick_run hn h0 h1 fun x h => ?_
  obtain ⟨i, rfl, hi⟩ := hx x h
  exact k i hi
theorem isint_run {i : Int} {W : XP} {n : Nat} {Q : PV → Nat → Prop} (k : Q (.bl true) n) : m_is_integer [.int i] W n Q := by
  refine run_is_integer ?_
  unfold b_is_integer
  walk_at "ev px"
  exact k
theorem within_run {i a b : Int} {W : XP} {n : Nat} {Q : PV → Nat → Prop} (k : Q (.bl (decide (a ≤ i) && decide (i ≤ b))) n) : m_is_within [.int i, .int a, .int b] W n Q := by
  refine run_is_within ?_
  unfold b_is_within
  walk_at "ev px"
  refine isint_run ?_
  walk_at "ev px"
  split
  · rename_i h
    rw [decide_eq_true h] at k
    exact k
  · rename_i h
    rw [decide_eq_false h] at k
    exact k
theorem istimes_run {a b m : Int} {W : XP} {n : Nat} {Q : PV → Nat → Prop} (h1 : 1 ≤ a ∧ a ≤ m) (h2 : 1 ≤ b ∧ b ≤ m) (k : Q (.bl true) n) : m_is_times [.tup [.int a, .int b], .int m] W n Q := by
  refine run_is_times ?_
  unfold b_is_times
  walk_at "ev px"
  unfold lcL lcL lcL
  walk_at "ev px"
  refine within_run ?_
  rw [decide_eq_true h1.1, decide_eq_true h1.2]
  refine within_run ?_
  rw [decide_eq_true h2.1, decide_eq_true h2.2]
  walk_at "ev px"
  exact k
theorem needplus_run {a : Int} {x : PV} {W : XP} {n : Nat} {Q : PV → Nat → Prop} (h : -6 ≤ a ∧ a ≤ 6) (k : Q .non n) : m_need_plus [.int a, x] W n Q := by
  refine run_need_plus ?_
  unfold b_need_plus
  walk_at "ev px"
  refine within_run ?_
  rw [decide_eq_true h.1, decide_eq_true h.2]
  walk_at "ev px"
  exact k
structure Ru (p q k : Int) : Prop where
  q1 : 1 ≤ q
  p1 : q ≤ p ∧ p ≤ 6
  k1 : -6 ≤ k ∧ k ≤ 6
  h1 : 2 * q ≤ p + k
theorem neednumbers_run {p q k : Int} {W : XP} {n : Nat} {Q : PV → Nat → Prop} (h : Ru p q k) (kk : Q .non n) : m_WeightRule_need_numbers [.tup [.int p, .int q], .int k] W n Q := by
  have hq := h.q1
  have hp := h.p1
  refine run_WeightRule_need_numbers ?_
  unfold b_WeightRule_need_numbers
  walk_at "ev px"
  refine istimes_run ⟨by omega, by omega⟩ ⟨by omega, by omega⟩ ?_
  walk_at "ev px"
  rw [if_neg (by omega)]
  refine needplus_run h.k1 ?_
  walk_at "ev px"
  exact kk
def bs (p q k x : Int) : Int := (p * x + k) / q
theorem beside_run {p q k x : Int} {c : Str} {fs : List (Str × PV)} {W : XP} {n : Nat} {Q : PV → Nat → Prop} (h : 1 ≤ q ∧ q ≤ p ∧ p ≤ 6) (hx : 0 ≤ x ∧ x ≤ 1000000000000000000000000000000000000000000000000000000000000000) (hT : fs.lookup ("times" : Str) = some (.tup [.int p, .int q])) (hP : fs.lookup ("plus" : Str) = some (.int k))
    (kk : Q (.int (bs p q k x)) n) : m_WeightRule_beside [.ins c fs, .int x] W n Q := by
  refine run_WeightRule_beside ?_
  unfold b_WeightRule_beside
  (try walk_at "ev dx")
  rw [hT]
  (try walk_at "ev dx")
  rw [hP]
  (try walk_at "ev dx")
  refine ⟨⟨big_of (by omega) (by omega), big_of (by omega) (by omega)⟩, ⟨by omega, big_of (by omega) (by omega)⟩, kk⟩
def wfl (p q k : Int) : List (Str × PV) := [("times", .tup [.int p, .int q]), ("plus", .int k)]
theorem bs1 {p q k : Int} (h : Ru p q k) : 2 ≤ bs p q k 1 := by
  have hq := h.q1
  have := h.h1
  unfold bs
  rw [Int.le_ediv_iff_mul_le (by omega)]
  omega
theorem winit_run {p q k : Int} {c : Str} {W : XP} {n : Nat} {Q : List (Str × PV) → Nat → Prop} (hc : c = "TurnRule" ∨ c = "TryRule") (h : Ru p q k) (kk : Q (wfl p q k) n) : m_WeightRule_init c [] [.tup [.int p, .int q], .int k] W n Q := by
  have hq := h.q1
  have hp := h.p1
  have h1 := bs1 h
  refine run_WeightRule_init ?_
  unfold b_WeightRule_init
  rcases hc with rfl | rfl
  all_goals
    (try walk_at "ev dx")
    refine ⟨by decide +kernel, rfl, rfl, neednumbers_run h ?_⟩
    walk_at "ev px"
    refine beside_run ⟨hq, hp.1, hp.2⟩ ⟨by decide, by decide⟩ (by walk_at "ev lk") (by walk_at "ev lk") ?_
    walk_at "ev px"
    rw [if_neg (by omega)]
    refine beside_run ⟨hq, hp.1, hp.2⟩ ⟨by decide, by decide⟩ (by walk_at "ev lk") (by walk_at "ev lk") ?_
    walk_at "ev px"
    rw [if_neg (by omega)]
    exact kk
abbrev tryv (p q k : Int) : PV := .ins "TryRule" (wfl p q k)
def ufl (p q k t s r : Int) : List (Str × PV) := [("times", .tup [.int p, .int q]), ("plus", .int k), ("turn", .tup [.int t, .int s]), ("turn_plus", .int r)]
abbrev turnv (p q k t s r : Int) : PV := .ins "TurnRule" (ufl p q k t s r)
theorem tinit_run {p q k : Int} {W : XP} {n : Nat} {Q : List (Str × PV) → Nat → Prop} (h : Ru p q k) (kk : Q (wfl p q k) n) : m_TryRule_init "TryRule" [] [.tup [.int p, .int q], .int k] W n Q := by
  refine run_TryRule_init ?_
  unfold b_TryRule_init b1_TryRule_init ba_TryRule_init b2_TryRule_init mSup
  (try walk_at "ev dx")
  exact ⟨rfl, rfl, winit_run (.inr rfl) h kk⟩
theorem uinit_run {p q k t s r : Int} {W : XP} {n : Nat} {Q : List (Str × PV) → Nat → Prop} (h : Ru p q k) (ht : 1 ≤ t ∧ t ≤ 8) (hs : 1 ≤ s ∧ s ≤ 8) (hr : -6 ≤ r ∧ r ≤ 6) (kk : Q (ufl p q k t s r) n) : m_TurnRule_init "TurnRule" [] [.tup [.int p, .int q], .int k, .tup [.int t, .int s], .int r] W n Q := by
  refine run_TurnRule_init ?_
  unfold b_TurnRule_init b1_TurnRule_init ba_TurnRule_init b2_TurnRule_init mSup
  (try walk_at "ev dx")
  refine ⟨by decide +kernel, rfl, rfl, neednumbers_run h ?_⟩
  (try walk_at "ev dx")
  refine ⟨rfl, istimes_run ht hs ?_⟩
  walk_at "ev px"
  refine needplus_run hr ?_
  walk_at "ev px"
  refine winit_run (.inl rfl) h ?_
  unfold wfl
  walk_at "ev px"
  exact kk
abbrev six (p q k t s r : Int) : PV := .tup [.int p, .int q, .int k, .int t, .int s, .int r]
local macro_rules | `(tactic| walk_at "ev g1") => `(tactic| with_reducible refine isint_run ?_)
local macro_rules | `(tactic| walk_at "ev g1") => `(tactic| with_reducible refine neednumbers_run (by assumption) ?_)
theorem within_ok {i a b : Int} {W : XP} {n : Nat} {Q : PV → Nat → Prop} (h : a ≤ i ∧ i ≤ b) (k : Q (.bl true) n) : m_is_within [.int i, .int a, .int b] W n Q := by
  refine within_run ?_
  rw [decide_eq_true h.1, decide_eq_true h.2]
  exact k
local macro_rules | `(tactic| walk_at "ev g1") => `(tactic| with_reducible refine within_ok (by walk_at "ev sd") ?_)
structure Rv (c : Str) (fs : List (Str × PV)) (p q k : Int) : Prop where
  cc : c = "TurnRule" ∨ c = "TryRule"
  tm : fs.lookup ("times" : Str) = some (.tup [.int p, .int q])
  pl : fs.lookup ("plus" : Str) = some (.int k)
  nb : fs.lookup ("beside" : Str) = none
  nf : fs.lookup ("is_fair" : Str) = none
  ng : fs.lookup ("greatest" : Str) = none
  nt : fs.lookup ("turns" : Str) = none
theorem rv_try {p q k : Int} : Rv "TryRule" (wfl p q k) p q k := by
  refine ⟨.inr rfl, ?_, ?_, ?_, ?_, ?_, ?_⟩ <;> unfold wfl <;> walk_at "ev lk"
def fair (p q k x y : Int) : Bool := decide (q * x ≤ p * y + k) && decide (q * y ≤ p * x + k)
theorem fair_max {p q k x y : Int} (h : 1 ≤ q ∧ q ≤ p) : decide ((if y > x then y else x) ≤ bs p q k (if y < x then y else x)) = fair p q k x y := by
  unfold bs fair
  rw [← Bool.decide_and]
  refine decide_eq_decide.mpr ?_
  have key : ∀ a b : Int, a ≤ b → (b ≤ (p * a + k) / q ↔ (q * a ≤ p * b + k ∧ q * b ≤ p * a + k)) := by
    intro a b hab
    rw [Int.le_ediv_iff_mul_le (by omega), Int.mul_comm b q]
    have h1 : q * a ≤ q * b := Int.mul_le_mul_of_nonneg_left hab (by omega)
    have h2 : p * a ≤ p * b := Int.mul_le_mul_of_nonneg_left hab (by omega)
    constructor
    · intro h3
      exact ⟨by omega, h3⟩
    · intro h3
      exact h3.2
  by_cases e : x ≤ y
  · by_cases e2 : x = y
    · subst e2
      simp only [gt_iff_lt, Int.lt_irrefl, if_false]
      exact key x x (Int.le_refl _)
    · rw [if_pos (by omega), if_neg (by omega)]
      exact key x y e
  · rw [if_neg (by omega), if_pos (by omega)]
    rw [key y x (by omega)]
    exact And.comm
theorem isfair_run {p q k x y : Int} {c : Str} {fs : List (Str × PV)} {W : XP} {n : Nat} {Q : PV → Nat → Prop} (h : 1 ≤ q ∧ q ≤ p ∧ p ≤ 6) (v : Rv c fs p q k) (hx : 0 ≤ x ∧ x ≤ 1000000000000000000000000000000000000000000000000000000000000) (hy : 0 ≤ y ∧ y ≤ 1000000000000000000000000000000000000000000000000000000000000)
    (kk : Q (.bl (fair p q k x y)) n) : m_WeightRule_is_fair [.ins c fs, .int x, .int y] W n Q := by
  refine run_WeightRule_is_fair ?_
  unfold b_WeightRule_is_fair
  rcases v.cc with rfl | rfl
  all_goals
    walk_at "ev go"
    refine ⟨v.nb, beside_run h ?_ v.tm v.pl ?_⟩
    · split <;> omega
    · walk_at "ev px"
      rw [fair_max ⟨h.1, h.2.1⟩]
      exact kk
theorem cut6 {a b c d e f : PV} : cutP [a, b, c, d, e, f] none (some 3) = [a, b, c] := rfl
theorem cut3 {a b c : PV} : cutP [a, b, c] none (some 3) = [a, b, c] := rfl
theorem rv_turn {p q k t s r : Int} : Rv "TurnRule" (ufl p q k t s r) p q k := by
  refine ⟨.inl rfl, ?_, ?_, ?_, ?_, ?_, ?_⟩ <;> unfold ufl <;> walk_at "ev lk"
def lst (p q k x : Int) : Int := if -((k - q * x) / p) > 1 then -((k - q * x) / p) else 1
section
variable {p q k : Int}
theorem lst_pos {x : Int} : 1 ≤ lst p q k x := by
  unfold lst
  split <;> omega
theorem lst_up {x : Int} (hp : 1 ≤ p) : q * x ≤ p * lst p q k x + k := by
  have e := Int.mul_ediv_self_le (x := k - q * x) (k := p) (by omega)
  have h1 : -((k - q * x) / p) ≤ lst p q k x := by
    unfold lst
    split <;> omega
  have h2 : p * (-((k - q * x) / p)) ≤ p * lst p q k x := Int.mul_le_mul_of_nonneg_left h1 (by omega)
  rw [Int.mul_neg] at h2
  omega
theorem lst_least {x y : Int} (hp : 1 ≤ p) (hy : 1 ≤ y) (h : q * x ≤ p * y + k) : lst p q k x ≤ y := by
  have h1 : -y ≤ (k - q * x) / p := by
    rw [Int.le_ediv_iff_mul_le (by omega), Int.neg_mul, Int.mul_comm y p]
    omega
  unfold lst
  split <;> omega
theorem lst_iff {x y : Int} (hp : 1 ≤ p) (hy : 1 ≤ y) : q * x ≤ p * y + k ↔ lst p q k x ≤ y := by
  refine ⟨lst_least hp hy, fun h => ?_⟩
  have h1 := lst_up (p := p) (q := q) (k := k) (x := x) hp
  have h2 : p * lst p q k x ≤ p * y := Int.mul_le_mul_of_nonneg_left h (by omega)
  omega
theorem lst_one (h : Ru p q k) : lst p q k 1 = 1 := by
  have hq := h.q1
  have hp := h.p1
  have h1 := h.h1
  have := lst_least (p := p) (q := q) (k := k) (x := 1) (y := 1) (by omega) (by omega) (by omega)
  have := lst_pos (p := p) (q := q) (k := k) (x := 1)
  omega
theorem lst_less {x : Int} (h : Ru p q k) (hx : 2 ≤ x) : lst p q k x ≤ x - 1 := by
  have hq := h.q1
  have hp := h.p1
  have h1 := h.h1
  refine lst_least (by omega) (by omega) ?_
  have e : (p - q) * 1 ≤ (p - q) * (x - 1) := Int.mul_le_mul_of_nonneg_left (by omega) (by omega)
  rw [Int.sub_mul, Int.sub_mul, Int.mul_sub, Int.mul_sub] at e
  rw [Int.mul_sub]
  omega
theorem lst_le {x : Int} (h : Ru p q k) (hx : 1 ≤ x) : lst p q k x ≤ x := by
  by_cases e : x = 1
  · subst e
    rw [lst_one h]
    omega
  · have := lst_less h (x := x) (by omega)
    omega
end
theorem bs_up {p q k x : Int} (h : Ru p q k) (hx : 1 ≤ x) : x + 1 ≤ bs p q k x := by
  have hq := h.q1
  have hp := h.p1
  have h1 := h.h1
  unfold bs
  have e2 : (p - q) * 1 ≤ (p - q) * x := Int.mul_le_mul_of_nonneg_left hx (by omega)
  rw [Int.sub_mul, Int.sub_mul] at e2
  rw [Int.le_ediv_iff_mul_le (by omega), Int.add_mul, Int.mul_comm x q]
  omega
theorem bs_top {p q k x : Int} (h : Ru p q k) (hx : 1 ≤ x) : bs p q k x ≤ 6 * x + 6 := by
  have hq := h.q1
  have hp := h.p1
  have h2 := h.k1
  have e1 : p * x ≤ 6 * x := Int.mul_le_mul_of_nonneg_right hp.2 (by omega)
  have e3 : 1 * (6 * x + 6) ≤ q * (6 * x + 6) := Int.mul_le_mul_of_nonneg_right hq (by omega)
  unfold bs
  refine Int.ediv_le_of_le_mul (by omega) ?_
  have e4 := Int.mul_comm q (6 * x + 6)
  omega
theorem bs_rise {p q k x : Int} (h : Ru p q k) : bs p q k x + 1 ≤ bs p q k (x + 1) := by
  have hq := h.q1
  have hp := h.p1
  unfold bs
  rw [Int.le_ediv_iff_mul_le (by omega), Int.add_mul]
  have := Int.ediv_mul_le (p * x + k) (b := q) (by omega)
  rw [Int.mul_add]
  omega
theorem bs_iff {p q k x y : Int} (h : Ru p q k) : y ≤ bs p q k x ↔ q * y ≤ p * x + k := by
  have hq := h.q1
  unfold bs
  rw [Int.le_ediv_iff_mul_le (by omega), Int.mul_comm]
theorem fair_le {p q k x y : Int} (h : Ru p q k) (hxy : x ≤ y) : fair p q k x y = decide (q * y ≤ p * x + k) := by
  have hq := h.q1
  have hp := h.p1
  unfold fair
  rw [← Bool.decide_and]
  refine decide_eq_decide.mpr ⟨fun h => h.2, fun h3 => ⟨?_, h3⟩⟩
  have h1 : q * x ≤ q * y := Int.mul_le_mul_of_nonneg_left hxy (by omega)
  have h2 : p * x ≤ p * y := Int.mul_le_mul_of_nonneg_left hxy (by omega)
  omega
theorem fair_comm {p q k x y : Int} : fair p q k x y = fair p q k y x := by
  unfold fair
  rw [Bool.and_comm]
inductive NoInt : PV → Prop
  | non : NoInt .non
  | bl (b : Bool) : NoInt (.bl b)
  | str (s : Str) : NoInt (.str s)
  | lst (xs : List PV) : NoInt (.lst xs)
  | tup (xs : List PV) : NoInt (.tup xs)
  | dct (xs : List (Key × PV)) : NoInt (.dct xs)
theorem isint_no {x : PV} {W : XP} {n : Nat} {Q : PV → Nat → Prop} (h : NoInt x) (k : Q (.bl false) n) : m_is_integer [x] W n Q := by
  refine run_is_integer ?_
  unfold b_is_integer
  cases h
  all_goals
    walk_at "ev px"
    exact k
def Bad (lo hi : Int) (x : PV) : Prop := NoInt x ∨ ∃ i, x = .int i ∧ ¬ (lo ≤ i ∧ i ≤ hi)
theorem within_bad {x : PV} {a b : Int} {W : XP} {n : Nat} {Q : PV → Nat → Prop} (h : Bad a b x) (k : Q (.bl false) n) : m_is_within [x, .int a, .int b] W n Q := by
  rcases h with h | ⟨i, rfl, h⟩
  · refine run_is_within ?_
    unfold b_is_within
    walk_at "ev px"
    refine isint_no h ?_
    walk_at "ev px"
    exact k
  · refine within_run ?_
    have e : (decide (a ≤ i) && decide (i ≤ b)) = false := by
      rw [← Bool.not_eq_true, Bool.and_eq_true, decide_eq_true_eq, decide_eq_true_eq]
      exact h
    rw [e]
    exact k
structure Nm (p q k t s r : Int) : Prop where
  ru : Ru p q k
  t : 1 ≤ t ∧ t ≤ 8
  s : 1 ≤ s ∧ s ≤ 8
  r : -6 ≤ r ∧ r ≤ 6
theorem numbers_run {W : XP} {n : Nat} {Q : PV → Nat → Prop} (hn : 12 ≤ n) (kk : ∀ (p q k t s r : Int) (n' : Nat), n - 10 ≤ n' → Nm p q k t s r → Q (six p q k t s r) n') : m_law_numbers [.pen] W n Q := by
  refine run_law_numbers ?_
  unfold b_law_numbers
  walk_at "ev go"
  refine pick_int (fun i => 0 ≤ i ∧ i ≤ 5) (by omega) (by simp) (by simp) (by repeat (first | exact all_nil | refine all_cons (by first | omega | (dsimp only; omega)) ?_)) fun k hk => ?_
  walk_at "ev go"
  refine pick_int (fun i => -6 ≤ i ∧ i ≤ 6) (by omega) (by simp) (by simp) (by repeat (first | exact all_nil | refine all_cons (by first | omega | (dsimp only; omega)) ?_)) fun k hk => ?_
  walk_at "ev run"
  all_goals
    refine pick_int (fun i => -6 ≤ i ∧ i ≤ 6) (by omega) (by simp) (by simp) (by repeat (first | exact all_nil | refine all_cons (by first | omega | (dsimp only; omega)) ?_)) fun r hr => ?_
    exact kk _ _ _ _ _ _ _ (by omega) ⟨⟨by omega, by omega, by omega, by omega⟩, by omega, by omega, by omega⟩
theorem rule6b_run {p q k t s r : Int} {b : Bool} {W : XP} {n : Nat} {Q : PV → Nat → Prop} (h : Nm p q k t s r) (kk : ∀ c fs, Rv c fs p q k → Q (.ins c fs) n) : m_law_rule [six p q k t s r, .bl b] W n Q := by
  refine run_law_rule ?_
  unfold b_law_rule
  have hr := h.r
  cases b
  · walk_at "ev go"
    exact tinit_run h.ru (kk _ _ rv_try)
  · walk_at "ev go"
    refine uinit_run h.ru h.t h.s ?_ (kk _ _ rv_turn)
    split <;> omega
end K31
set_option hygiene false
local macro_rules | `(tactic| walk_at "ev g1") => `(tactic| with_reducible refine isint_run ?_)
local macro_rules | `(tactic| walk_at "ev g1") => `(tactic| with_reducible refine neednumbers_run (by assumption) ?_)
local macro_rules | `(tactic| walk_at "ev g1") => `(tactic| with_reducible refine within_ok (by walk_at "ev sd") ?_)
namespace K31
open PySem L2 Pu
def Wt (p q k : Int) : Nat → Int
  | 0 => 1
  | n + 1 => Wt p q k n + lst p q k (Wt p q k n)
section
variable {p q k : Int}
theorem wt_ge : ∀ n : Nat, (n : Int) + 1 ≤ Wt p q k n
  | 0 => by simp [Wt]
  | n + 1 => by
    have := wt_ge n
    have := lst_pos (p := p) (q := q) (k := k) (x := Wt p q k n)
    show ((n + 1 : Nat) : Int) + 1 ≤ Wt p q k n + lst p q k (Wt p q k n)
    omega
theorem wt_lt (n : Nat) : Wt p q k n < Wt p q k (n + 1) := by
  have := lst_pos (p := p) (q := q) (k := k) (x := Wt p q k n)
  show _ < Wt p q k n + lst p q k (Wt p q k n)
  omega
theorem wt_mono {a b : Nat} (h : a ≤ b) : Wt p q k a ≤ Wt p q k b := by
  induction h with
  | refl => exact Int.le_refl _
  | step _ ih =>
    rename_i m _
    have := wt_lt (p := p) (q := q) (k := k) m
    show _ ≤ Wt p q k (m + 1)
    omega
def Hg (p q k v : Int) (h : Nat) : Prop := Wt p q k h ≤ v ∧ v < Wt p q k (h + 1)
theorem hg_mono {v v' : Int} {a b : Nat} (ha : Hg p q k v a) (hb : Hg p q k v' b) (h : v ≤ v') : a ≤ b := by
  by_cases e : a ≤ b
  · exact e
  · have := wt_mono (p := p) (q := q) (k := k) (show b + 1 ≤ a by omega)
    have := ha.1
    have := hb.2
    omega
theorem hg_uniq {v : Int} {a b : Nat} (ha : Hg p q k v a) (hb : Hg p q k v b) : a = b := Nat.le_antisymm (hg_mono ha hb (Int.le_refl _)) (hg_mono hb ha (Int.le_refl _))
theorem wt_pow (h : Ru p q k) : ∀ j : Nat, Wt p q k (j + 1) ≤ 2 ^ j + 1
  | 0 => by
    show (1 : Int) + lst p q k 1 ≤ 2 ^ 0 + 1
    rw [lst_one h]
    decide
  | j + 1 => by
    have ih := wt_pow h j
    have h1 := wt_ge (p := p) (q := q) (k := k) (j + 1)
    have h2 := lst_less h (x := Wt p q k (j + 1)) (by omega)
    show Wt p q k (j + 1) + lst p q k (Wt p q k (j + 1)) ≤ 2 ^ (j + 1) + 1
    rw [Int.pow_succ]
    omega
theorem wt_sq (h : Ru p q k) : ∀ j : Nat, (j : Int) * j - 12 * j ≤ 12 * Wt p q k j
  | 0 => by
    show _ ≤ 12 * (1 : Int)
    simp
  | j + 1 => by
    have hq := h.q1
    have hp := h.p1
    have hk := h.k1
    have ih := wt_sq h j
    have h1 := wt_ge (p := p) (q := q) (k := k) j
    have h2 := lst_up (p := p) (q := q) (k := k) (x := Wt p q k j) (by omega)
    have h3 := lst_pos (p := p) (q := q) (k := k) (x := Wt p q k j)
    have h4 : 1 * Wt p q k j ≤ q * Wt p q k j := Int.mul_le_mul_of_nonneg_right hq (by omega)
    have h5 : p * lst p q k (Wt p q k j) ≤ 6 * lst p q k (Wt p q k j) := Int.mul_le_mul_of_nonneg_right hp.2 (by omega)
    show ((j + 1 : Nat) : Int) * ((j + 1 : Nat) : Int) - 12 * ((j + 1 : Nat) : Int) ≤ 12 * (Wt p q k j + lst p q k (Wt p q k j))
    have e : ((j + 1 : Nat) : Int) * ((j + 1 : Nat) : Int) = (j : Int) * j + 2 * j + 1 := by
      push_cast
      rw [Int.add_mul, Int.mul_add]
      omega
    rw [e]
    push_cast
    omega
theorem wt_few (h : Ru p q k) {j : Nat} (hj : Wt p q k j ≤ 1000000000) : j < 200000 := by
  have h1 := wt_sq h j
  by_cases e : j < 200000
  · exact e
  · have h2 : (200000 : Int) * j ≤ (j : Int) * j := Int.mul_le_mul_of_nonneg_right (by omega) (by omega)
    omega
end
def Lo (v : Int) (h : Nat) : Prop := v < 2 ^ h ∧ (h = 0 ∨ (2 : Int) ^ (h - 1) ≤ v)
theorem pow2_mono {a b : Nat} (h : a ≤ b) : (2 : Int) ^ a ≤ 2 ^ b := by
  induction h with
  | refl => exact Int.le_refl _
  | step _ ih =>
    rw [Int.pow_succ]
    have : (0 : Int) < 2 ^ a := Int.pow_pos (by decide)
    omega
theorem lo_mono {v v' : Int} {a b : Nat} (ha : Lo v a) (hb : Lo v' b) (h : v ≤ v') : a ≤ b := by
  by_cases e : a ≤ b
  · exact e
  · rcases ha.2 with h1 | h1
    · omega
    · have := pow2_mono (show b ≤ a - 1 by omega)
      have := hb.1
      omega
theorem lo_uniq {v : Int} {a b : Nat} (ha : Lo v a) (hb : Lo v b) : a = b := Nat.le_antisymm (lo_mono ha hb (Int.le_refl _)) (lo_mono hb ha (Int.le_refl _))
theorem lo_hg {p q k v : Int} {a b : Nat} (h : Ru p q k) (ha : Lo v a) (hb : Hg p q k (v + 1) b) : a ≤ b := by
  by_cases e : a ≤ b
  · exact e
  · rcases ha.2 with h1 | h1
    · omega
    · obtain ⟨a', rfl⟩ : ∃ a', a = a' + 1 := ⟨a - 1, by omega⟩
      have h2 := wt_pow h a'
      have h3 := wt_mono (p := p) (q := q) (k := k) (show b + 1 ≤ a' + 1 by omega)
      have h4 := hb.2
      simp only [Nat.add_sub_cancel] at h1
      omega
end K31
set_option hygiene false
namespace K31
open PySem L2 Pu
inductive Sh where
  | nil | node (l r : Sh)
def Sh.pv : Sh → PV
  | .nil => .tup []
  | .node l r => .tup [l.pv, r.pv]
def Sh.dt : Sh → PyData
  | .nil => .tuple []
  | .node l r => .tuple [l.dt, r.dt]
def Sh.ht : Sh → Nat
  | .nil => 0
  | .node l r => 1 + max l.ht r.ht
def Sh.wt : Sh → Int
  | .nil => 1
  | .node l r => l.wt + r.wt
def Sh.hg : Sh → Int
  | .nil => 0
  | .node l r => 1 + (if r.hg > l.hg then r.hg else l.hg)
def Sh.fr (p q k : Int) : Sh → Bool
  | .nil => true
  | .node l r => l.fr p q k && r.fr p q k && fair p q k l.wt r.wt
theorem wt_pos : ∀ s : Sh, 1 ≤ s.wt
  | .nil => by decide
  | .node l r => by
    have := wt_pos l
    have := wt_pos r
    show 1 ≤ l.wt + r.wt
    omega
theorem hg_ht : ∀ s : Sh, s.hg = (s.ht : Int)
  | .nil => rfl
  | .node l r => by
    have h1 := hg_ht l
    have h2 := hg_ht r
    show 1 + (if r.hg > l.hg then r.hg else l.hg) = ((1 + max l.ht r.ht : Nat) : Int)
    rw [h1, h2]
    split <;> omega
theorem data_pv : ∀ s : Sh, s.pv.data = some s.dt
  | .nil => rfl
  | .node l r => by
    show (PV.tup [l.pv, r.pv]).data = some (.tuple [l.dt, r.dt])
    simp only [PV.data, datas, data_pv l, data_pv r, Option.map_some]
theorem lay_dt : ∀ s : Sh, PyData.canLay0 s.dt = true
  | .nil => rfl
  | .node l r => by
    show PyData.canLay0 (.tuple [l.dt, r.dt]) = true
    simp only [PyData.canLay0, PyData.canLayAll0, lay_dt l, lay_dt r, Bool.and_true]
theorem depth_dt : ∀ s : Sh, PyData.depth s.dt ≤ s.ht + 1
  | .nil => by decide
  | .node l r => by
    have h1 := depth_dt l
    have h2 := depth_dt r
    show PyData.depth (.tuple [l.dt, r.dt]) ≤ 1 + max l.ht r.ht + 1
    simp only [PyData.depth, PyData.depthAll]
    omega
theorem shaped_dt {s : Sh} (h : s.ht ≤ 60) : SeqAt.shaped s.dt = true := by
  have := depth_dt s
  unfold SeqAt.shaped
  rw [lay_dt, decide_eq_true (by omega)]
  rfl
theorem shaped_nil : SeqAt.shaped (.tuple []) = true := by decide +kernel
def Sh.isNil : Sh → Bool
  | .nil => true
  | .node _ _ => false
theorem eqv_nil (s : Sh) : PyData.eqv s.dt (.tuple []) = s.isNil := by
  cases s with
  | nil => rfl
  | node l r => rfl
def Sh.sz : Sh → Nat
  | .nil => 0
  | .node l r => l.sz + r.sz + 1
theorem pair_nil {W : XP} {n : Nat} {Q : PV → Nat → Prop} (kk : Q (.bl true) n) : m_is_pair [.tup []] W n Q := by
  refine run_is_pair ?_
  unfold b_is_pair
  walk_at "ev go"
  exact kk
theorem pair_two {a b : PV} {W : XP} {n : Nat} {Q : PV → Nat → Prop} (kk : Q (.bl true) n) : m_is_pair [.tup [a, b]] W n Q := by
  refine run_is_pair ?_
  unfold b_is_pair
  walk_at "ev go"
  exact kk
def Od (x : PV) : Prop := x = .non ∨ x = .int 0 ∨ x = .lst [] ∨ x = .str "" ∨ x = .tup [.tup []] ∨ x = .tup [.tup [], .tup [], .tup []] ∨ x = .dct [] ∨ x = .lst [.tup [], .tup []] ∨ x = .bl true
theorem pair_no {x : PV} (h : Od x) {W : XP} {n : Nat} {Q : PV → Nat → Prop} (kk : Q (.bl false) n) : m_is_pair [x] W n Q := by
  refine run_is_pair ?_
  unfold b_is_pair
  rcases h with rfl | rfl | rfl | rfl | rfl | rfl | rfl | rfl | rfl
  all_goals
    walk_at "ev go"
    exact kk
inductive Sp : Nat → PV → Prop
  | odd {x : PV} : Od x → Sp 0 x
  | left {m : Nat} {x : PV} {s : Sh} : Sp m x → s.ht ≤ 5 → s.wt ≤ 1000 → Sp (m + 1) (.tup [x, s.pv])
  | right {m : Nat} {x : PV} {s : Sh} : Sp m x → s.ht ≤ 5 → s.wt ≤ 1000 → Sp (m + 1) (.tup [s.pv, x])
local macro_rules | `(tactic| walk_at "ev g1") => `(tactic| with_reducible refine pair_nil ?_)
local macro_rules | `(tactic| walk_at "ev g1") => `(tactic| with_reducible refine pair_two ?_)
theorem measured_run : ∀ (fu : Nat) (s : Sh) {W : XP} {n : Nat} {Q : PV → Nat → Prop}, s.ht < fu → Q (.tup [.int s.wt, .int s.hg]) n → mr_measured fu [s.pv] W n Q
  | 0, s, _, _, _, h, _ => by omega
  | fu + 1, .nil, W, n, Q, h, kk => by
    refine run_measured ?_
    unfold b_measured Sh.pv
    walk_at "ev go"
    exact kk
  | fu + 1, .node l r, W, n, Q, h, kk => by
    have h : 1 + max l.ht r.ht < fu + 1 := h
    refine run_measured ?_
    unfold b_measured Sh.pv
    walk_at "ev go"
    refine measured_run fu l (by omega) ?_
    walk_at "ev go"
    refine measured_run fu r (by omega) ?_
    walk_at "ev go"
    exact kk
theorem measured_no : ∀ (fu m : Nat) {x : PV} {W : XP} {n : Nat} {Q : PV → Nat → Prop}, Sp m x → m + 6 < fu → Q .non n → mr_measured fu [x] W n Q := by
  intro fu
  induction fu with
  | zero => intro m x W n Q _ h; omega
  | succ fu ih =>
    intro m x W n Q hs h kk
    cases hs with
    | odd ho =>
      refine run_measured ?_
      unfold b_measured
      walk_at "ev go"
      refine pair_no ho ?_
      walk_at "ev go"
      exact kk
    | left hs ht hw =>
      refine run_measured ?_
      unfold b_measured
      walk_at "ev go"
      refine ih _ hs (by omega) ?_
      walk_at "ev go"
      refine measured_run fu _ (by omega) ?_
      walk_at "ev go"
      exact kk
    | right hs ht hw =>
      refine run_measured ?_
      unfold b_measured
      walk_at "ev go"
      refine measured_run fu _ (by omega) ?_
      walk_at "ev go"
      refine ih _ hs (by omega) ?_
      walk_at "ev go"
      exact kk
theorem fw_run {p q k : Int} {c : Str} {fs : List (Str × PV)} (h : 1 ≤ q ∧ q ≤ p ∧ p ≤ 6) (v : Rv c fs p q k) : ∀ (fu : Nat) (s : Sh) {W : XP} {n : Nat} {Q : PV → Nat → Prop}, s.wt ≤ 100000 → s.ht < fu → Q (if s.fr p q k = true then .int s.wt else .non) n → mr_fair_weight fu [.ins c fs, s.pv] W n Q
  | 0, s, _, _, _, _, h, _ => by omega
  | fu + 1, .nil, W, n, Q, _, h, kk => by
    refine run_fair_weight ?_
    unfold b_fair_weight Sh.pv
    walk_at "ev go"
    exact kk
  | fu + 1, .node l r, W, n, Q, hw, h', kk => by
    have h' : 1 + max l.ht r.ht < fu + 1 := h'
    have hw : l.wt + r.wt ≤ 100000 := hw
    have w1 := wt_pos l
    have w2 := wt_pos r
    refine run_fair_weight ?_
    unfold b_fair_weight Sh.pv
    walk_at "ev go"
    refine fw_run h v fu l (by omega) (by omega) ?_
    walk_at "ev go"
    refine fw_run h v fu r (by omega) (by omega) ?_
    have e : (Sh.node l r).fr p q k = (l.fr p q k && r.fr p q k && fair p q k l.wt r.wt) := rfl
    rw [e] at kk
    cases hl : l.fr p q k with
    | false =>
      rw [hl, Bool.false_and, Bool.false_and] at kk
      walk_at "ev go"
      exact kk
    | true =>
      cases hr : r.fr p q k with
      | false =>
        rw [hl, hr, Bool.and_false, Bool.false_and] at kk
        walk_at "ev go"
        exact kk
      | true =>
        rw [hl, hr, Bool.and_true, Bool.true_and] at kk
        have fin : ∀ (b : Bool), fair p q k l.wt r.wt = b → ∀ Q2 : PV → Nat → Prop, Q2 (.bl b) n → m_WeightRule_is_fair [.ins c fs, .int l.wt, .int r.wt] W n Q2 := fun b hb Q2 hq => isfair_run h v (by omega) (by omega) (by rw [hb]; exact hq)
        rcases v.cc with rfl | rfl
        all_goals
          walk_at "ev go"
          refine ⟨v.nf, ?_⟩
          refine fin _ rfl _ ?_
          cases hf : fair p q k l.wt r.wt with
          | false =>
            rw [hf] at kk
            walk_at "ev go"
            exact kk
          | true =>
            rw [hf] at kk
            walk_at "ev go"
            exact kk
theorem fw_no {p q k : Int} {c : Str} {fs : List (Str × PV)} (h' : 1 ≤ q ∧ q ≤ p ∧ p ≤ 6) (v : Rv c fs p q k) : ∀ (fu m : Nat) {x : PV} {W : XP} {n : Nat} {Q : PV → Nat → Prop}, Sp m x → m + 6 < fu → Q .non n → mr_fair_weight fu [.ins c fs, x] W n Q := by
  intro fu
  induction fu with
  | zero => intro m x W n Q _ h; omega
  | succ fu ih =>
    intro m x W n Q hs h kk
    cases hs with
    | odd ho =>
      refine run_fair_weight ?_
      unfold b_fair_weight
      walk_at "ev go"
      refine pair_no ho ?_
      walk_at "ev go"
      exact kk
    | left hs ht hw =>
      refine run_fair_weight ?_
      unfold b_fair_weight
      walk_at "ev go"
      refine ih _ hs (by omega) ?_
      walk_at "ev go"
      refine fw_run h' v fu _ (by omega) (by omega) ?_
      walk_at "ev go"
      exact kk
    | right hs ht hw =>
      refine run_fair_weight ?_
      unfold b_fair_weight
      walk_at "ev go"
      refine fw_run h' v fu _ (by omega) (by omega) ?_
      walk_at "ev go"
      rename_i m0 x0 s0
      cases hf : s0.fr p q k
      all_goals
        walk_at "ev go"
        refine ih _ hs (by omega) ?_
        walk_at "ev go"
        exact kk
theorem keys_run {s : Sh} {W : XP} {n : Nat} {Q : PV → Nat → Prop} (h : s.ht < 60) (kk : Q (.int (s.wt - 1)) n) : m_keys_of [s.pv] W n Q := by
  refine run_keys_of ?_
  unfold b_keys_of
  walk_at "ev go"
  refine run_needed ?_
  unfold b_needed
  walk_at "ev go"
  refine measured_run 60 s h ?_
  walk_at "ev go"
  exact kk
theorem height_run {s : Sh} {W : XP} {n : Nat} {Q : PV → Nat → Prop} (h : s.ht < 60) (kk : Q (.int s.hg) n) : m_height_of [s.pv] W n Q := by
  refine run_height_of ?_
  unfold b_height_of
  walk_at "ev go"
  refine run_needed ?_
  unfold b_needed
  walk_at "ev go"
  refine measured_run 60 s h ?_
  walk_at "ev go"
  exact kk
theorem keys_no {m : Nat} {x : PV} {W : XP} {n : Nat} {Q : PV → Nat → Prop} (h : Sp m x) (hm : m ≤ 5) (kk : W "BadOther" [("part", .str "shape")] n) : m_keys_of [x] W n Q := by
  refine run_keys_of ?_
  unfold b_keys_of
  walk_at "ev go"
  refine run_needed ?_
  unfold b_needed
  walk_at "ev go"
  refine measured_no 60 m h (by omega) ?_
  walk_at "ev go"
  exact kk
theorem height_no {m : Nat} {x : PV} {W : XP} {n : Nat} {Q : PV → Nat → Prop} (h : Sp m x) (hm : m ≤ 5) (kk : W "BadOther" [("part", .str "shape")] n) : m_height_of [x] W n Q := by
  refine run_height_of ?_
  unfold b_height_of
  walk_at "ev go"
  refine run_needed ?_
  unfold b_needed
  walk_at "ev go"
  refine measured_no 60 m h (by omega) ?_
  walk_at "ev go"
  exact kk
theorem wr_run {c : Str} {fs : List (Str × PV)} {W : XP} {n : Nat} {Q : PV → Nat → Prop} (hc : c = "TurnRule" ∨ c = "TryRule") (kk : Q .non n) : m_need_weight_rule [.ins c fs] W n Q := by
  refine run_need_weight_rule ?_
  unfold b_need_weight_rule
  rcases hc with rfl | rfl
  all_goals
    walk_at "ev go"
    exact kk
theorem fair_run {p q k : Int} {c : Str} {fs : List (Str × PV)} (h : 1 ≤ q ∧ q ≤ p ∧ p ≤ 6) (v : Rv c fs p q k) {s : Sh} {W : XP} {n : Nat} {Q : PV → Nat → Prop} (hw : s.wt ≤ 100000) (hh : s.ht < 60) (kk : Q (.bl (s.fr p q k)) n) : m_is_fair [.ins c fs, s.pv] W n Q := by
  refine run_is_fair ?_
  unfold b_is_fair
  walk_at "ev go"
  refine wr_run v.cc ?_
  walk_at "ev go"
  refine fw_run h v 60 s hw hh ?_
  cases hf : s.fr p q k
  all_goals
    rw [hf] at kk
    walk_at "ev go"
    exact kk
theorem fair_no {p q k : Int} {c : Str} {fs : List (Str × PV)} (h : 1 ≤ q ∧ q ≤ p ∧ p ≤ 6) (v : Rv c fs p q k) {m : Nat} {x : PV} {W : XP} {n : Nat} {Q : PV → Nat → Prop} (hs : Sp m x) (hm : m ≤ 5) (kk : Q (.bl false) n) : m_is_fair [.ins c fs, x] W n Q := by
  refine run_is_fair ?_
  unfold b_is_fair
  walk_at "ev go"
  refine wr_run v.cc ?_
  walk_at "ev go"
  refine fw_no h v 60 m hs (by omega) ?_
  walk_at "ev go"
  exact kk
end K31
set_option hygiene false
local macro_rules | `(tactic| walk_at "ev g1") => `(tactic| with_reducible refine pair_nil ?_)
local macro_rules | `(tactic| walk_at "ev g1") => `(tactic| with_reducible refine pair_two ?_)
namespace K31
open PySem L2 Pu
theorem lst_mono {p q k x y : Int} (h : Ru p q k) (hxy : x ≤ y) : lst p q k x ≤ lst p q k y := by
  have hq := h.q1
  have hp := h.p1
  refine lst_least (by omega) lst_pos ?_
  have h1 := lst_up (p := p) (q := q) (k := k) (x := y) (by omega)
  have h2 : q * x ≤ q * y := Int.mul_le_mul_of_nonneg_left hxy (by omega)
  omega
theorem lst_slow {p q k x : Int} (h : Ru p q k) (hx : 1 ≤ x) : lst 6 1 6 x ≤ lst p q k x := by
  have hq := h.q1
  have hp := h.p1
  have hk := h.k1
  have hl := lst_pos (p := p) (q := q) (k := k) (x := x)
  refine lst_least (by omega) hl ?_
  have h1 := lst_up (p := p) (q := q) (k := k) (x := x) (by omega)
  have h2 : 1 * x ≤ q * x := Int.mul_le_mul_of_nonneg_right hq (by omega)
  have h3 : p * lst p q k x ≤ 6 * lst p q k x := Int.mul_le_mul_of_nonneg_right hp.2 (by omega)
  omega
theorem ru6 : Ru 6 1 6 := ⟨by decide, by decide, by decide, by decide⟩
theorem wt_slow {p q k : Int} (h : Ru p q k) : ∀ n : Nat, Wt 6 1 6 n ≤ Wt p q k n
  | 0 => Int.le_refl _
  | n + 1 => by
    have ih := wt_slow h n
    have h1 := wt_ge (p := 6) (q := 1) (k := 6) n
    have h2 := lst_slow h (x := Wt 6 1 6 n) (by omega)
    have h3 := lst_mono h ih
    show Wt 6 1 6 n + lst 6 1 6 (Wt 6 1 6 n) ≤ Wt p q k n + lst p q k (Wt p q k n)
    omega
theorem wt47 : Wt 6 1 6 47 = 2246 := by decide +kernel
theorem hg46 {p q k v : Int} {g : Nat} (h : Ru p q k) (hv : v ≤ 2001) (hg : Hg p q k v g) : g ≤ 46 := by
  by_cases e : g ≤ 46
  · exact e
  · have h1 := wt_mono (p := p) (q := q) (k := k) (show 47 ≤ g by omega)
    have h2 := wt_slow h 47
    have h3 := hg.1
    rw [wt47] at h2
    omega
def gf (p q k : Int) : Nat → Int → Nat
  | 0, _ => 0
  | n + 1, v => if Wt p q k (n + 1) ≤ v then n + 1 else gf p q k n v
theorem gf_hg {p q k v : Int} (hv : 1 ≤ v) : ∀ n : Nat, v < Wt p q k (n + 1) → Hg p q k v (gf p q k n v)
  | 0, h => ⟨hv, h⟩
  | n + 1, h => by
    unfold gf
    split
    · rename_i e
      exact ⟨e, h⟩
    · rename_i e
      exact gf_hg hv n (by omega)
def gof (p q k v : Int) : Nat := gf p q k v.toNat v
theorem gof_hg {p q k v : Int} (hv : 1 ≤ v) : Hg p q k v (gof p q k v) := gf_hg hv _ (by
  have := wt_ge (p := p) (q := q) (k := k) (v.toNat + 1)
  omega)
def bel (p q k : Int) : Nat → Int
  | 0 => 1
  | n + 1 => Wt p q k n
def hvy (p q k w : Int) : Int := if bel p q k (gof p q k w) > (w + 1) / 2 then bel p q k (gof p q k w) else (w + 1) / 2
section
variable {p q k w : Int}
theorem hvy_le (hw : 2 ≤ w) : (w + 1) / 2 ≤ hvy p q k w ∧ hvy p q k w ≤ w - 1 := by
  have hg := gof_hg (p := p) (q := q) (k := k) (v := w) (by omega)
  have hb : bel p q k (gof p q k w) ≤ w - 1 := by
    cases e : gof p q k w with
    | zero => show (1 : Int) ≤ w - 1; omega
    | succ n =>
      rw [e] at hg
      have := wt_lt (p := p) (q := q) (k := k) n
      have := hg.1
      show Wt p q k n ≤ w - 1
      omega
  unfold hvy
  split <;> omega
theorem gof_pos (h : Ru p q k) (hw : 2 ≤ w) : 1 ≤ gof p q k w := by
  have hg := gof_hg (p := p) (q := q) (k := k) (v := w) (by omega)
  cases e : gof p q k w with
  | zero =>
    rw [e] at hg
    have : w < 1 + lst p q k 1 := hg.2
    rw [lst_one h] at this
    omega
  | succ n => omega
theorem gof_hvy (h : Ru p q k) (hw : 2 ≤ w) : gof p q k (hvy p q k w) = gof p q k w - 1 := by
  have hg := gof_hg (p := p) (q := q) (k := k) (v := w) (by omega)
  have hp := gof_pos h hw
  have hv := hvy_le (p := p) (q := q) (k := k) hw
  have hq := gof_hg (p := p) (q := q) (k := k) (v := hvy p q k w) (by omega)
  refine hg_uniq hq ?_
  obtain ⟨n, e⟩ : ∃ n, gof p q k w = n + 1 := ⟨gof p q k w - 1, by omega⟩
  rw [e] at hg
  rw [e]
  have h1 := hg.1
  have h2 : w < Wt p q k (n + 1) + lst p q k (Wt p q k (n + 1)) := hg.2
  have h3 := wt_ge (p := p) (q := q) (k := k) (n + 1)
  have h4 := lst_less h (x := Wt p q k (n + 1)) (by omega)
  have h5 := wt_lt (p := p) (q := q) (k := k) n
  show Wt p q k n ≤ hvy p q k w ∧ hvy p q k w < Wt p q k (n + 1)
  have e2 : bel p q k (gof p q k w) = Wt p q k n := by rw [e]; rfl
  unfold hvy
  rw [e2]
  split <;> omega
end
end K31
set_option hygiene false
namespace K31
open PySem L2 Pu
def hal (m : Nat) : Sh := if h : m = 0 then .nil else .node (hal (m / 2)) (hal ((m - 1) / 2))
  termination_by m
  decreasing_by all_goals omega
theorem hal0 : hal 0 = .nil := by rw [hal, dif_pos rfl]
theorem halS {m : Nat} (h : m ≠ 0) : hal m = .node (hal (m / 2)) (hal ((m - 1) / 2)) := by rw [hal, dif_neg h]
theorem hal_wt : ∀ m : Nat, (hal m).wt = (m : Int) + 1 := by
  intro m
  induction m using Nat.strongRecOn with
  | ind m ih =>
    by_cases e : m = 0
    · subst e
      rw [hal0]
      rfl
    · rw [halS e]
      show (hal (m / 2)).wt + (hal ((m - 1) / 2)).wt = _
      rw [ih _ (by omega), ih _ (by omega)]
      omega
theorem hal_lo : ∀ m : Nat, Lo (m : Int) (hal m).ht := by
  intro m
  induction m using Nat.strongRecOn with
  | ind m ih =>
    by_cases e : m = 0
    · subst e
      rw [hal0]
      exact ⟨by decide, .inl rfl⟩
    · have h1 := ih (m / 2) (by omega)
      have h2 := ih ((m - 1) / 2) (by omega)
      have h3 := lo_mono h2 h1 (by omega)
      rw [halS e]
      show Lo (m : Int) (1 + max (hal (m / 2)).ht (hal ((m - 1) / 2)).ht)
      rw [Nat.max_eq_left h3, Nat.add_comm]
      refine ⟨?_, .inr ?_⟩
      · rw [Int.pow_succ]
        have := h1.1
        omega
      · rw [Nat.add_sub_cancel]
        rcases h1.2 with h4 | h4
        · rw [h4]
          show (1 : Int) ≤ m
          omega
        · obtain ⟨g, hg⟩ : ∃ g, (hal (m / 2)).ht = g + 1 := by
            cases e2 : (hal (m / 2)).ht with
            | zero =>
              rw [e2] at h1
              have := h1.1
              exact absurd (show (hal (m / 2)).ht - 1 = 0 by omega) (fun z => by
                rw [z] at h4
                have h5 : ((m / 2 : Nat) : Int) < 1 := h1.1
                have h6 : (1 : Int) ≤ ((m / 2 : Nat) : Int) := h4
                omega)
            | succ g => exact ⟨g, rfl⟩
          rw [hg] at h4 ⊢
          rw [Nat.add_sub_cancel] at h4
          rw [Int.pow_succ]
          omega
theorem fair_near {p q k a b : Int} (h : Ru p q k) (ha : 1 ≤ a) (h1 : a ≤ b) (h2 : b ≤ a + 1) : fair p q k a b = true := by
  have hq := h.q1
  have hp := h.p1
  have hh := h.h1
  rw [fair_le h h1]
  refine decide_eq_true ?_
  have e1 : q * b ≤ q * (a + 1) := Int.mul_le_mul_of_nonneg_left h2 (by omega)
  have e2 : (p - q) * 1 ≤ (p - q) * a := Int.mul_le_mul_of_nonneg_left ha (by omega)
  rw [Int.sub_mul, Int.sub_mul] at e2
  rw [Int.mul_add] at e1
  omega
theorem hal_fr {p q k : Int} (h : Ru p q k) : ∀ m : Nat, (hal m).fr p q k = true := by
  intro m
  induction m using Nat.strongRecOn with
  | ind m ih =>
    by_cases e : m = 0
    · subst e
      rw [hal0]
      rfl
    · rw [halS e]
      show ((hal (m / 2)).fr p q k && (hal ((m - 1) / 2)).fr p q k && fair p q k (hal (m / 2)).wt (hal ((m - 1) / 2)).wt) = true
      rw [ih _ (by omega), ih _ (by omega), hal_wt, hal_wt, fair_comm, fair_near h (by omega) (by omega) (by omega)]
      rfl
def tal (p q k : Int) : Nat → Int → Sh
  | 0, _ => .nil
  | f + 1, w => if w = 1 then .nil else .node (tal p q k f (hvy p q k w)) (hal (w - hvy p q k w - 1).toNat)
theorem tal_all {p q k : Int} (h : Ru p q k) : ∀ (f : Nat) {w : Int}, 1 ≤ w → gof p q k w < f → (tal p q k f w).wt = w ∧ (tal p q k f w).ht = gof p q k w ∧ (tal p q k f w).fr p q k = true
  | 0, w, _, hf => by omega
  | f + 1, w, hw, hf => by
    unfold tal
    by_cases e : w = 1
    · subst e
      rw [if_pos rfl]
      refine ⟨rfl, ?_, rfl⟩
      refine hg_uniq (p := p) (q := q) (k := k) (v := 1) ⟨Int.le_refl _, ?_⟩ (gof_hg (by decide))
      show (1 : Int) < 1 + lst p q k 1
      have := lst_pos (p := p) (q := q) (k := k) (x := 1)
      omega
    · rw [if_neg e]
      have h2 : 2 ≤ w := by omega
      have hv := hvy_le (p := p) (q := q) (k := k) h2
      have hg := gof_hvy h h2
      have hp := gof_pos h h2
      obtain ⟨a, b, c⟩ := tal_all h f (w := hvy p q k w) (by omega) (by omega)
      have d := hal_wt (w - hvy p q k w - 1).toNat
      have wr : (hal (w - hvy p q k w - 1).toNat).wt = w - hvy p q k w := by omega
      refine ⟨?_, ?_, ?_⟩
      · show (tal p q k f (hvy p q k w)).wt + (hal (w - hvy p q k w - 1).toNat).wt = w
        omega
      · show 1 + max (tal p q k f (hvy p q k w)).ht (hal (w - hvy p q k w - 1).toNat).ht = gof p q k w
        have h3 := hal_lo (w - hvy p q k w - 1).toNat
        have h4 := lo_hg h h3 (gof_hg (p := p) (q := q) (k := k) (v := ((w - hvy p q k w - 1).toNat : Int) + 1) (by omega))
        have h5 := hg_mono (gof_hg (p := p) (q := q) (k := k) (v := ((w - hvy p q k w - 1).toNat : Int) + 1) (by omega)) (gof_hg (p := p) (q := q) (k := k) (v := hvy p q k w) (by omega)) (by omega)
        omega
      · show ((tal p q k f (hvy p q k w)).fr p q k && (hal (w - hvy p q k w - 1).toNat).fr p q k && fair p q k (tal p q k f (hvy p q k w)).wt (hal (w - hvy p q k w - 1).toNat).wt) = true
        rw [c, hal_fr h, a, wr]
        show fair p q k (hvy p q k w) (w - hvy p q k w) = true
        rw [fair_comm]
        by_cases e2 : bel p q k (gof p q k w) > (w + 1) / 2
        · rw [fair_le h (by omega)]
          refine decide_eq_true ?_
          have e3 : hvy p q k w = bel p q k (gof p q k w) := if_pos e2
          obtain ⟨n, e4⟩ : ∃ n, gof p q k w = n + 1 := ⟨gof p q k w - 1, by omega⟩
          have e5 : hvy p q k w = Wt p q k n := by rw [e3, e4]; rfl
          have e6 := (gof_hg (p := p) (q := q) (k := k) (v := w) (by omega)).1
          rw [e4] at e6
          have e6 : Wt p q k n + lst p q k (Wt p q k n) ≤ w := e6
          rw [e5]
          have := lst_pos (p := p) (q := q) (k := k) (x := Wt p q k n)
          exact (lst_iff (by have := h.q1; have := h.p1; omega) (by omega)).mpr (by omega)
        · have e3 : hvy p q k w = (w + 1) / 2 := if_neg e2
          exact fair_near h (by omega) (by omega) (by omega)
end K31
set_option hygiene false
namespace K31
open PySem L2 Pu
theorem higher_run {p q k x : Int} {c : Str} {fs : List (Str × PV)} {W : XP} {n : Nat} {Q : PV → Nat → Prop} (h : Ru p q k) (v : Rv c fs p q k) (hx : 1 ≤ x ∧ x ≤ 100000000000000000000000000000000)
    (kk : Q (.int (x + lst p q k x)) n) : m_higher [.ins c fs, .int x] W n Q := by
  have hq := h.q1
  have hp := h.p1
  refine run_higher ?_
  unfold b_higher
  (try walk_at "ev dx")
  rw [v.tm]
  (try walk_at "ev dx")
  rw [v.pl]
  walk_at "ev go"
  exact kk
local macro_rules | `(tactic| walk_at "ev g1") => `(tactic| with_reducible refine higher_run h v (by walk_at "ev sd") ?_)
theorem highest_run {p q k x : Int} {c : Str} {fs : List (Str × PV)} {W : XP} {n : Nat} {Q : PV → Nat → Prop} (h : Ru p q k) (v : Rv c fs p q k) (hx : 1 ≤ x ∧ x ≤ 10000000000000000000000000000000)
    (kk : ∀ (g : Nat), Hg p q k x g → Q (.tup [.int g, .int (bel p q k g)]) n) : m_highest [.ins c fs, .int x] W n Q := by
  refine run_highest ?_
  unfold b_highest
  walk_at "ev go"
  refine while_by (fun env n' => n' = n ∧ ∃ (j : Nat), Wt p q k j ≤ x ∧ env = [.val (.ins c fs), .val (.int x), .val (.int j), .val (.int (bel p q k j)), .val (.int (Wt p q k j))]) (fun env => match env with | [_, _, _, _, .val (.int y)] => (x - y).toNat | _ => 0) ⟨rfl, 0, hx.1, rfl⟩ (fun env n' hI N hN => ?_)
  obtain ⟨rfl, j, hj, rfl⟩ := hI
  have hw := wt_ge (p := p) (q := q) (k := k) j
  have hl := lst_le h (x := Wt p q k j) (by omega)
  have hl2 := lst_pos (p := p) (q := q) (k := k) (x := Wt p q k j)
  walk_at "ev run"
  · refine hN _ _ ⟨rfl, j + 1, ?_, rfl⟩ ?_
    · assumption
    · dsimp only
      omega
  · refine kk _ ⟨hj, ?_⟩
    show x < Wt p q k j + lst p q k (Wt p q k j)
    omega
theorem neednumber_run {x m : Int} {W : XP} {n : Nat} {Q : PV → Nat → Prop} (h : 0 ≤ x ∧ x ≤ m) (k : Q .non n) : m_need_number [.int x, .int m] W n Q := by
  refine run_need_number ?_
  unfold b_need_number
  walk_at "ev go"
  exact k
local macro_rules | `(tactic| walk_at "ev g1") => `(tactic| with_reducible refine neednumber_run (by walk_at "ev sd") ?_)
local macro_rules | `(tactic| walk_at "ev g1") => `(tactic| with_reducible refine wr_run v.cc ?_)
theorem greath_run {p q k x : Int} {c : Str} {fs : List (Str × PV)} {W : XP} {n : Nat} {Q : PV → Nat → Prop} (h : Ru p q k) (v : Rv c fs p q k) (hx : 0 ≤ x ∧ x ≤ 1000000000000000000000000000000)
    (kk : Q (.int (gof p q k (x + 1))) n) : m_greatest_height [.ins c fs, .int x] W n Q := by
  refine run_greatest_height ?_
  unfold b_greatest_height
  walk_at "ev go"
  refine highest_run h v (by omega) fun g hg => ?_
  walk_at "ev go"
  rw [hg_uniq hg (gof_hg (by omega))]
  exact kk
theorem leasth_run {x : Int} {W : XP} {n : Nat} {Q : PV → Nat → Prop} (hx : 0 ≤ x ∧ x ≤ 1000000000000000000000000000000)
    (kk : ∀ (g : Nat), Lo x g → Q (.int g) n) : m_least_height [.int x] W n Q := by
  refine run_least_height ?_
  unfold b_least_height
  walk_at "ev go"
  refine while_by (fun env n' => n' = n ∧ ∃ (j : Nat), (j = 0 ∨ (2 : Int) ^ (j - 1) ≤ x) ∧ env = [.val (.int x), .val (.int j), .val (.int (2 ^ j))]) (fun env => match env with | [_, _, .val (.int y)] => (x + 1 - y).toNat | _ => 0) ⟨rfl, 0, .inl rfl, rfl⟩ (fun env n' hI N hN => ?_)
  obtain ⟨rfl, j, hj, rfl⟩ := hI
  have hpos : (0 : Int) < 2 ^ j := Int.pow_pos (by decide)
  walk_at "ev run"
  · refine hN _ _ ⟨rfl, j + 1, .inr (by simpa using (by assumption)), ?_⟩ ?_
    · rw [Int.pow_succ, Int.mul_comm]
      rfl
    · dsimp only
      omega
  · exact kk _ ⟨by omega, hj⟩
theorem top_run {p q k t s r x : Int} {W : XP} {n : Nat} {Q : PV → Nat → Prop} (h : Ru p q k) (hx : 0 ≤ x ∧ x ≤ 100000000000000000000000000000000)
    (kk : Q (.int ((p * x + k) / q)) n) : m_law_top [six p q k t s r, .int x] W n Q := by
  have hq := h.q1
  have hp := h.p1
  refine run_law_top ?_
  unfold b_law_top
  walk_at "ev go"
  exact kk
local macro_rules | `(tactic| walk_at "ev g1") => `(tactic| with_reducible refine top_run h (by walk_at "ev sd") ?_)
theorem lawleast_run {p q k t s r y : Int} {W : XP} {n : Nat} {Q : PV → Nat → Prop} (h : Ru p q k) (hy : 1 ≤ y ∧ y ≤ 100000000000000000000000000000000)
    (kk : Q (.int (lst p q k y)) n) : m_law_least [six p q k t s r, .int y] W n Q := by
  have hq := h.q1
  have hp := h.p1
  refine run_law_least ?_
  unfold b_law_least
  walk_at "ev go"
  refine while_by (fun env n' => n' = n ∧ ∃ (a b : Int) (v : Pu.Slot), 1 ≤ a ∧ a ≤ lst p q k y ∧ lst p q k y ≤ b ∧ b ≤ y ∧ env = [.val (six p q k t s r), .val (.int y), .val (.int a), .val (.int b), v]) (fun env => match env with | [_, _, .val (.int a), .val (.int b), _] => (b - a).toNat | _ => 0) ⟨rfl, 1, y, _, by decide, lst_pos, lst_le h hy.1, Int.le_refl _, rfl⟩ (fun env n' hI N hN => ?_)
  obtain ⟨rfl, a, b, v, h1, h2, h3, h4, rfl⟩ := hI
  have key : ∀ m : Int, 1 ≤ m → (y ≤ (p * m + k) / q ↔ lst p q k y ≤ m) := fun m hm => by
    rw [Int.le_ediv_iff_mul_le (by omega), Int.mul_comm y q]
    exact lst_iff (by omega) hm
  walk_at "ev run"
  · rename_i e1 e2
    have := (key _ (by omega)).mp e2
    refine hN _ _ ⟨rfl, a, (a + b) / 2, _, h1, h2, this, by omega, rfl⟩ ?_
    dsimp only
    omega
  · rename_i e1 e2
    have : ¬ lst p q k y ≤ (a + b) / 2 := fun e => e2 ((key _ (by omega)).mpr e)
    refine hN _ _ ⟨rfl, (a + b) / 2 + 1, b, _, by omega, by omega, h3, h4, rfl⟩ ?_
    dsimp only
    omega
  · have e : a = lst p q k y := by omega
    rw [e]
    exact kk
local macro_rules | `(tactic| walk_at "ev g1") => `(tactic| with_reducible refine lawleast_run h (by walk_at "ev sd") ?_)
theorem halves_run : ∀ (fu : Nat) (m : Nat) {W : XP} {n : Nat} {Q : PV → Nat → Prop}, m < 2 ^ fu → Q (hal m).pv n → mr_halves_of (fu + 1) [.int m] W n Q := by
  intro fu
  induction fu with
  | zero =>
    intro m W n Q hm kk
    obtain rfl : m = 0 := by omega
    rw [hal0] at kk
    refine run_halves_of ?_
    unfold b_halves_of
    walk_at "ev go"
    exact kk
  | succ fu ih =>
    intro m W n Q hm kk
    rw [Nat.pow_succ] at hm
    refine run_halves_of ?_
    unfold b_halves_of
    by_cases e : m = 0
    · subst e
      rw [hal0] at kk
      walk_at "ev go"
      exact kk
    · rw [halS e] at kk
      have e1 : ((m : Int)) / 2 = ((m / 2 : Nat) : Int) := by omega
      have e2 : ((m : Int) - 1) / 2 = (((m - 1) / 2 : Nat) : Int) := by omega
      walk_at "ev go"
      rw [e1]
      refine ih (m / 2) (by omega) ?_
      walk_at "ev go"
      rw [e2]
      refine ih ((m - 1) / 2) (by omega) ?_
      exact kk
theorem lawhalves_run : ∀ (fu : Nat) (m : Nat) {W : XP} {n : Nat} {Q : PV → Nat → Prop}, m < 2 ^ fu → Q (hal m).pv n → mr_law_halves (fu + 1) [.int m] W n Q := by
  intro fu
  induction fu with
  | zero =>
    intro m W n Q hm kk
    obtain rfl : m = 0 := by omega
    rw [hal0] at kk
    refine run_law_halves ?_
    unfold b_law_halves
    walk_at "ev go"
    exact kk
  | succ fu ih =>
    intro m W n Q hm kk
    rw [Nat.pow_succ] at hm
    refine run_law_halves ?_
    unfold b_law_halves
    by_cases e : m = 0
    · subst e
      rw [hal0] at kk
      walk_at "ev go"
      exact kk
    · rw [halS e] at kk
      have e1 : ((m : Int)) / 2 = ((m / 2 : Nat) : Int) := by omega
      have e2 : ((m : Int) - 1) / 2 = (((m - 1) / 2 : Nat) : Int) := by omega
      walk_at "ev go"
      rw [e1]
      refine ih (m / 2) (by omega) ?_
      walk_at "ev go"
      rw [e2]
      refine ih ((m - 1) / 2) (by omega) ?_
      exact kk
end K31
set_option hygiene false
local macro_rules | `(tactic| walk_at "ev g1") => `(tactic| with_reducible refine higher_run h v (by walk_at "ev sd") ?_)
local macro_rules | `(tactic| walk_at "ev g1") => `(tactic| with_reducible refine neednumber_run (by walk_at "ev sd") ?_)
local macro_rules | `(tactic| walk_at "ev g1") => `(tactic| with_reducible refine wr_run v.cc ?_)
local macro_rules | `(tactic| walk_at "ev g1") => `(tactic| with_reducible refine top_run h (by walk_at "ev sd") ?_)
local macro_rules | `(tactic| walk_at "ev g1") => `(tactic| with_reducible refine lawleast_run h (by walk_at "ev sd") ?_)
namespace K31
open PySem L2 Pu
theorem one_ne {w : Int} (h : w ≠ 1) : 2 ≤ w ∨ w ≤ 0 := by omega
theorem tall_run {p q k : Int} {c : Str} {fs : List (Str × PV)} (h : Ru p q k) (v : Rv c fs p q k) : ∀ (f : Nat) {w : Int} {W : XP} {n : Nat} {Q : PV → Nat → Prop}, 1 ≤ w ∧ w ≤ 2001 → gof p q k w < f → Q (tal p q k f w).pv n → mr_tall_of f [.ins c fs, .int w] W n Q
  | 0, w, _, _, _, _, h, _ => by omega
  | f + 1, w, W, n, Q, hw, hf, kk => by
    refine run_tall_of ?_
    unfold b_tall_of
    unfold tal at kk
    by_cases e : w = 1
    · subst e
      rw [if_pos rfl] at kk
      walk_at "ev go"
      exact kk
    · rw [if_neg e] at kk
      have h2 : 2 ≤ w := by omega
      have hv := hvy_le (p := p) (q := q) (k := k) h2
      have hg := gof_hvy h h2
      have hp := gof_pos h h2
      walk_at "ev go"
      refine highest_run h v (by omega) fun g hgg => ?_
      rw [hg_uniq hgg (gof_hg (by omega))]
      walk_at "ev go"
      have e3 : (if bel p q k (gof p q k w) > (w + 1) / 2 then bel p q k (gof p q k w) else (w + 1) / 2) = hvy p q k w := rfl
      rw [e3]
      refine tall_run h v f (by omega) (by omega) ?_
      walk_at "ev go"
      have e4 : w - hvy p q k w - 1 = (((w - hvy p q k w - 1).toNat : Nat) : Int) := by omega
      rw [e4]
      refine halves_run 13 _ (by omega) ?_
      exact kk
theorem lawtall_run {p q k t s r : Int} (h : Ru p q k) : ∀ (f : Nat) {w : Int} {W : XP} {n : Nat} {Q : PV → Nat → Prop}, 1 ≤ w ∧ w ≤ 2001 → gof p q k w < f → Q (tal p q k f w).pv n → mr_law_tall f [six p q k t s r, .int w] W n Q
  | 0, w, _, _, _, _, h, _ => by omega
  | f + 1, w, W, n, Q, hw, hf, kk => by
    refine run_law_tall ?_
    unfold b_law_tall
    unfold tal at kk
    by_cases e : w = 1
    · subst e
      rw [if_pos rfl] at kk
      walk_at "ev go"
      exact kk
    · rw [if_neg e] at kk
      have h2 : 2 ≤ w := by omega
      have hv := hvy_le (p := p) (q := q) (k := k) h2
      have hg := gof_hvy h h2
      have hp := gof_pos h h2
      walk_at "ev go"
      have w1 : Wt p q k 1 = 2 := by
        show (1 : Int) + lst p q k 1 = 2
        rw [lst_one h]
        rfl
      refine while_by (fun env n' => n' = n ∧ ∃ (j : Nat), Wt p q k (j + 1) ≤ w ∧ env = [.val (six p q k t s r), .val (.int w), .val (.int (Wt p q k j)), .val (.int (Wt p q k (j + 1))), .no]) (fun env => match env with | [_, _, _, .val (.int y), _] => (w - y).toNat | _ => 0) ⟨rfl, 0, by rw [w1]; omega, by rw [w1]; rfl⟩ (fun env n' hI N hN => ?_)
      obtain ⟨rfl, j, hj, rfl⟩ := hI
      have hw1 := wt_ge (p := p) (q := q) (k := k) (j + 1)
      have hl2 := lst_pos (p := p) (q := q) (k := k) (x := Wt p q k (j + 1))
      walk_at "ev go"
      split
      · rename_i e5
        walk_at "ev go"
        refine hN _ _ ⟨rfl, j + 1, e5, rfl⟩ ?_
        dsimp only
        omega
      · rename_i e5
        have hgj : gof p q k w = j + 1 := hg_uniq (gof_hg (by omega)) ⟨hj, by show w < Wt p q k (j + 1) + lst p q k (Wt p q k (j + 1)); omega⟩
        have e3 : (if (w + 1) / 2 > Wt p q k j then (w + 1) / 2 else Wt p q k j) = hvy p q k w := by
          unfold hvy
          rw [hgj]
          show _ = if Wt p q k j > (w + 1) / 2 then Wt p q k j else (w + 1) / 2
          split <;> split <;> omega
        walk_at "ev go"
        rw [e3]
        refine lawtall_run h f (by omega) (by omega) ?_
        walk_at "ev go"
        have e4 : w - hvy p q k w - 1 = (((w - hvy p q k w - 1).toNat : Nat) : Int) := by omega
        rw [e4]
        refine lawhalves_run 13 _ (by omega) ?_
        exact kk
theorem hshape_run {m : Nat} {W : XP} {n : Nat} {Q : PV → Nat → Prop} (hm : m ≤ 2000) (kk : Q (hal m).pv n) : m_halves_shape [.int m] W n Q := by
  refine run_halves_shape ?_
  unfold b_halves_shape
  walk_at "ev go"
  refine halves_run 13 m (by omega) ?_
  exact kk
theorem tshape_run {p q k : Int} {c : Str} {fs : List (Str × PV)} (h : Ru p q k) (v : Rv c fs p q k) {m : Nat} {W : XP} {n : Nat} {Q : PV → Nat → Prop} (hm : m ≤ 2000) (kk : Q (tal p q k 60 (m + 1)).pv n) : m_tall_shape [.ins c fs, .int m] W n Q := by
  have := hg46 h (by omega) (gof_hg (p := p) (q := q) (k := k) (v := (m : Int) + 1) (by omega))
  refine run_tall_shape ?_
  unfold b_tall_shape
  walk_at "ev go"
  refine tall_run h v 60 (by omega) (by omega) ?_
  exact kk
theorem eqv_refl : ∀ s : Sh, PyData.eqv s.dt s.dt = true
  | .nil => rfl
  | .node l r => by
    show PyData.eqv (.tuple [l.dt, r.dt]) (.tuple [l.dt, r.dt]) = true
    simp only [PyData.eqv, PyData.eqvAll, eqv_refl l, eqv_refl r, Bool.and_true]
theorem ne_same {s : Sh} (hs : s.ht ≤ 60) {W : XP} {n : Nat} {Q : PV → Nat → Prop} (kk : Q (.bl false) n) : pNeD s.pv s.pv W n Q := by
  unfold pNeD
  rw [data_pv]
  dsimp only
  refine ⟨shaped_dt hs, shaped_dt hs, ?_⟩
  rw [eqv_refl]
  exact kk
theorem sh2 {a b : Int} : SeqAt.shaped (.list [.int a, .int b]) = true := rfl
theorem eq2 {a b : Int} : PyData.eqv (.list [.int a, .int b]) (.list [.int a, .int b]) = true := by simp [PyData.eqv, PyData.eqvAll]
end K31
set_option hygiene false
namespace K31
open PySem L2 Pu
local macro_rules | `(tactic| walk_at "ev g1") => `(tactic| with_reducible refine numbers_run (by walk_at "ev sd") (fun p q k t s r n1 hn1 hnm => ?_))
local macro_rules | `(tactic| walk_at "ev g1") => `(tactic| with_reducible refine rule6b_run hnm (fun c fs hv => ?_))
theorem right_run {m : Nat} {W : XP} {n : Nat} {Q : PV → Nat → Prop} (hn : 100 ≤ n) (hm : m ≤ 2000) (kk : ∀ n', n - 20 ≤ n' → Q (.bl true) n') : m_law_right [.pen, .int m] W n Q := by
  refine run_law_right ?_
  unfold b_law_right
  walk_at "ev go"
  have h := hnm.ru
  have h3 : 1 ≤ q ∧ q ≤ p ∧ p ≤ 6 := ⟨h.q1, h.p1.1, h.p1.2⟩
  have g46 := hg46 h (by omega) (gof_hg (p := p) (q := q) (k := k) (v := (m : Int) + 1) (by omega))
  obtain ⟨t1, t2, t3⟩ := tal_all h 60 (w := (m : Int) + 1) (by omega) (by omega)
  have l1 := hal_wt m
  have l2 := hal_lo m
  have l3 := hal_fr h m
  have l4 := lo_hg h l2 (gof_hg (p := p) (q := q) (k := k) (v := (m : Int) + 1) (by omega))
  have l5 := hg_ht (hal m)
  have t5 := hg_ht (tal p q k 60 ((m : Int) + 1))
  walk_at "ev go"
  refine hshape_run hm ?_
  walk_at "ev go"
  refine tshape_run h hv hm ?_
  walk_at "ev go"
  refine lawhalves_run 13 m (by omega) ?_
  rw [data_pv]
  refine ⟨shaped_dt (by omega), shaped_dt (by omega), ?_⟩
  rw [eqv_refl]
  walk_at "ev go"
  refine lawtall_run h 60 (by omega) (by omega) ?_
  rw [data_pv]
  refine ⟨shaped_dt (by omega), shaped_dt (by omega), ?_⟩
  rw [eqv_refl]
  walk_at "ev go"
  refine keys_run (by omega) ?_
  walk_at "ev go"
  refine keys_run (by omega) ?_
  walk_at "ev go"
  rw [l1, t1, show (m : Int) + 1 - 1 = m by omega]
  refine ⟨sh2, sh2, ?_⟩
  rw [eq2]
  walk_at "ev go"
  refine fair_run h3 hv (by omega) (by omega) ?_
  rw [l3]
  walk_at "ev go"
  refine fair_run h3 hv (by omega) (by omega) ?_
  rw [t3]
  walk_at "ev go"
  refine height_run (by omega) ?_
  walk_at "ev go"
  refine height_run (by omega) ?_
  walk_at "ev go"
  refine leasth_run (by omega) fun g hg => ?_
  walk_at "ev go"
  refine greath_run h hv (by omega) ?_
  walk_at "ev go"
  rw [l5, t5, t2, lo_uniq hg l2]
  refine ⟨sh2, sh2, ?_⟩
  rw [eq2]
  exact kk _ (by omega)
theorem right_run' {v : Int} {W : XP} {n : Nat} {Q : PV → Nat → Prop} (hn : 100 ≤ n) (hv : 0 ≤ v ∧ v ≤ 2000) (kk : ∀ n', n - 20 ≤ n' → Q (.bl true) n') : m_law_right [.pen, .int v] W n Q := by
  obtain ⟨m, rfl⟩ : ∃ m : Nat, v = (m : Int) := ⟨v.toNat, by omega⟩
  exact right_run hn (by omega) kk
end K31
set_option hygiene false
local macro_rules | `(tactic| walk_at "ev g1") => `(tactic| with_reducible refine numbers_run (by walk_at "ev sd") (fun p q k t s r n1 hn1 hnm => ?_))
local macro_rules | `(tactic| walk_at "ev g1") => `(tactic| with_reducible refine rule6b_run hnm (fun c fs hv => ?_))
namespace K31
open PySem L2 Pu
local macro_rules | `(tactic| walk_at "ev g1") => `(tactic| with_reducible refine right_run' (by walk_at "ev sd") (by omega) (fun n' hn' => ?_))
theorem law_pure : LawPure := by
  unfold LawPure b_law
  walk_at "ev go"
  refine forL_by (fun i env n => 90000 - 40 * i ≤ n ∧ ∃ v2, env = [.no, .val .pen, v2]) 0 ⟨(by omega : 90000 - 40 * 0 ≤ 90000), _, rfl⟩ (fun i x env n hi hI N hN => ?_) (fun env n hI => ?_)
  · obtain ⟨hn, v2, rfl⟩ := hI
    have hi6 : i < 8 := by
      have := (List.getElem?_eq_some_iff.mp hi).1
      rw [rngP_len] at this
      exact this
    obtain ⟨j, hj, rfl⟩ := rng_mem (List.mem_of_getElem? hi)
    walk_at "ev go"
    refine pick_int (fun i => 0 ≤ i ∧ i ≤ 2000) (by omega) (by simp) (by simp) (by repeat (first | exact all_nil | refine all_cons (by first | omega | (dsimp only; omega)) ?_)) fun k hk => ?_
    have hk : 0 ≤ k ∧ k ≤ 2000 := hk
    walk_at "ev go"
    exact hN _ _ ⟨by omega, _, rfl⟩
  · obtain ⟨hn, v2, rfl⟩ := hI
    have e8 : (rngP 0 8).length = 8 := rngP_len
    walk_at "ev go"
    refine pick_int (fun i => 0 ≤ i ∧ i ≤ 2000) (by omega) (by simp) (by simp) (by repeat (first | exact all_nil | refine all_cons (by first | omega | (dsimp only; omega)) ?_)) fun k hk => ?_
    have hk : 0 ≤ k ∧ k ≤ 2000 := hk
    walk_at "ev go"
    refine hshape_run (m := 1) (by decide) ?_
    walk_at "ev go"
    refine tinit_run ⟨by decide, by decide, by decide, by decide⟩ ?_
    walk_at "ev go"
    refine tshape_run (m := 2) ru6 rv_try (by decide) ?_
    have e1 : hal 1 = .node .nil .nil := by
      rw [halS (by decide)]
      show Sh.node (hal 0) (hal 0) = _
      rw [hal0]
    have e2 : tal 6 1 6 60 (((2 : Nat) : Int) + 1) = .node (.node .nil .nil) .nil := by
      have h2 : hvy 6 1 6 3 = 2 := by decide +kernel
      have h1 : hvy 6 1 6 2 = 1 := by decide +kernel
      show tal 6 1 6 60 3 = _
      unfold tal
      rw [if_neg (by decide), h2]
      unfold tal
      rw [if_neg (by decide), h1]
      unfold tal
      rw [if_pos rfl]
      show Sh.node (.node .nil (hal 0)) (hal 0) = _
      rw [hal0]
    rw [e1, e2]
    unfold Sh.pv Sh.pv Sh.pv
    walk_at "ev go"
    refine tinit_run ⟨by decide, by decide, by decide, by decide⟩ ?_
    walk_at "ev go"
    refine tshape_run (m := 3) ⟨by decide, by decide, by decide, by decide⟩ rv_try (by decide) ?_
    have e3 : tal 3 1 0 60 (((3 : Nat) : Int) + 1) = .node (.node (.node .nil .nil) .nil) .nil := by
      have h3 : hvy 3 1 0 4 = 3 := by decide +kernel
      have h2 : hvy 3 1 0 3 = 2 := by decide +kernel
      have h1 : hvy 3 1 0 2 = 1 := by decide +kernel
      show tal 3 1 0 60 4 = _
      unfold tal
      rw [if_neg (by decide), h3]
      unfold tal
      rw [if_neg (by decide), h2]
      unfold tal
      rw [if_neg (by decide), h1]
      unfold tal
      rw [if_pos rfl]
      show Sh.node (.node (.node .nil (hal 0)) (hal 0)) (hal 0) = _
      rw [hal0]
    rw [e3]
    unfold Sh.pv Sh.pv Sh.pv Sh.pv
    walk_at "ev go"
    exact congrArg PV.bl (by decide +kernel)
end K31
namespace K31
end K31
namespace K31
open PySem
theorem s2_Rule_Rule : subs "Rule" "Rule" = true := by decide +kernel
theorem s2_Rule_WeightRule : subs "Rule" "WeightRule" = false := by decide +kernel
theorem s2_Rule_TurnRule : subs "Rule" "TurnRule" = false := by decide +kernel
theorem s2_Rule_TryRule : subs "Rule" "TryRule" = false := by decide +kernel
theorem s2_WeightRule_Rule : subs "WeightRule" "Rule" = true := by decide +kernel
theorem s2_WeightRule_WeightRule : subs "WeightRule" "WeightRule" = true := by decide +kernel
theorem s2_WeightRule_TurnRule : subs "WeightRule" "TurnRule" = false := by decide +kernel
theorem s2_WeightRule_TryRule : subs "WeightRule" "TryRule" = false := by decide +kernel
theorem s2_TurnRule_Rule : subs "TurnRule" "Rule" = true := by decide +kernel
theorem s2_TurnRule_WeightRule : subs "TurnRule" "WeightRule" = true := by decide +kernel
theorem s2_TurnRule_TurnRule : subs "TurnRule" "TurnRule" = true := by decide +kernel
theorem s2_TurnRule_TryRule : subs "TurnRule" "TryRule" = false := by decide +kernel
theorem s2_TryRule_Rule : subs "TryRule" "Rule" = true := by decide +kernel
theorem s2_TryRule_WeightRule : subs "TryRule" "WeightRule" = true := by decide +kernel
theorem s2_TryRule_TurnRule : subs "TryRule" "TurnRule" = false := by decide +kernel
theorem s2_TryRule_TryRule : subs "TryRule" "TryRule" = true := by decide +kernel
theorem x2_BadRule_BadRule : xsubs "BadRule" "BadRule" = true := by decide +kernel
theorem x2_BadRule_NoHalves : xsubs "BadRule" "NoHalves" = false := by decide +kernel
theorem x2_BadRule_BadNumber : xsubs "BadRule" "BadNumber" = false := by decide +kernel
theorem x2_BadRule_BadOther : xsubs "BadRule" "BadOther" = false := by decide +kernel
theorem x2_BadRule_BadText : xsubs "BadRule" "BadText" = false := by decide +kernel
theorem x2_BadRule_FairError : xsubs "BadRule" "FairError" = true := by decide +kernel
theorem x2_NoHalves_BadRule : xsubs "NoHalves" "BadRule" = false := by decide +kernel
theorem x2_NoHalves_NoHalves : xsubs "NoHalves" "NoHalves" = true := by decide +kernel
theorem x2_NoHalves_BadNumber : xsubs "NoHalves" "BadNumber" = false := by decide +kernel
theorem x2_NoHalves_BadOther : xsubs "NoHalves" "BadOther" = false := by decide +kernel
theorem x2_NoHalves_BadText : xsubs "NoHalves" "BadText" = false := by decide +kernel
theorem x2_NoHalves_FairError : xsubs "NoHalves" "FairError" = true := by decide +kernel
theorem x2_BadNumber_BadRule : xsubs "BadNumber" "BadRule" = false := by decide +kernel
theorem x2_BadNumber_NoHalves : xsubs "BadNumber" "NoHalves" = false := by decide +kernel
theorem x2_BadNumber_BadNumber : xsubs "BadNumber" "BadNumber" = true := by decide +kernel
theorem x2_BadNumber_BadOther : xsubs "BadNumber" "BadOther" = false := by decide +kernel
theorem x2_BadNumber_BadText : xsubs "BadNumber" "BadText" = false := by decide +kernel
theorem x2_BadNumber_FairError : xsubs "BadNumber" "FairError" = true := by decide +kernel
theorem x2_BadOther_BadRule : xsubs "BadOther" "BadRule" = false := by decide +kernel
theorem x2_BadOther_NoHalves : xsubs "BadOther" "NoHalves" = false := by decide +kernel
theorem x2_BadOther_BadNumber : xsubs "BadOther" "BadNumber" = false := by decide +kernel
theorem x2_BadOther_BadOther : xsubs "BadOther" "BadOther" = true := by decide +kernel
theorem x2_BadOther_BadText : xsubs "BadOther" "BadText" = false := by decide +kernel
theorem x2_BadOther_FairError : xsubs "BadOther" "FairError" = true := by decide +kernel
theorem x2_BadText_BadRule : xsubs "BadText" "BadRule" = false := by decide +kernel
theorem x2_BadText_NoHalves : xsubs "BadText" "NoHalves" = false := by decide +kernel
theorem x2_BadText_BadNumber : xsubs "BadText" "BadNumber" = false := by decide +kernel
theorem x2_BadText_BadOther : xsubs "BadText" "BadOther" = false := by decide +kernel
theorem x2_BadText_BadText : xsubs "BadText" "BadText" = true := by decide +kernel
theorem x2_BadText_FairError : xsubs "BadText" "FairError" = true := by decide +kernel
end K31
namespace K31
open PySem L2 Pu
theorem all_mk {l : PySem.W.OpenLaw} {w : World} {K : PySem.W.Frag} {h : Heap} {mg : Str → Option Value} {fa : Addr} (pure : LawPure) (X : K.In h) (G : h.Ns mainGlobals mg) (hfa : mg "law" = some (.ref fa))
    {C_Rule C_WeightRule C_TurnRule C_TryRule X_BadRule X_NoHalves X_BadNumber X_BadOther X_BadText X_FairError : Addr}
    {tk0 : Tok}
    {tk1 : Tok}
    {tk2 : Tok}
    {tk3 : Tok}
    {tk4 : Tok}
    {tkc0 : Tok}
    {nm_BadRule qn_BadRule : Str} {N_BadRule : Addr} {bs_BadRule bm_BadRule : List Value} {sn_BadRule : List Str} {sub_BadRule : List Value} {ab_BadRule : Bool} {col_BadRule : Option Bool} {dd_BadRule : Option Addr} {k0_BadRule k1_BadRule k2_BadRule k3_BadRule k5_BadRule : Option Value}
    {nm_NoHalves qn_NoHalves : Str} {N_NoHalves : Addr} {bs_NoHalves bm_NoHalves : List Value} {sn_NoHalves : List Str} {sub_NoHalves : List Value} {ab_NoHalves : Bool} {col_NoHalves : Option Bool} {dd_NoHalves : Option Addr} {k0_NoHalves k1_NoHalves k2_NoHalves k3_NoHalves k5_NoHalves : Option Value}
    {nm_BadNumber qn_BadNumber : Str} {N_BadNumber : Addr} {bs_BadNumber bm_BadNumber : List Value} {sn_BadNumber : List Str} {sub_BadNumber : List Value} {ab_BadNumber : Bool} {col_BadNumber : Option Bool} {dd_BadNumber : Option Addr} {k0_BadNumber k1_BadNumber k2_BadNumber k3_BadNumber k5_BadNumber : Option Value}
    {nm_BadOther qn_BadOther : Str} {N_BadOther : Addr} {bs_BadOther bm_BadOther : List Value} {sn_BadOther : List Str} {sub_BadOther : List Value} {ab_BadOther : Bool} {col_BadOther : Option Bool} {dd_BadOther : Option Addr} {k0_BadOther k1_BadOther k2_BadOther k3_BadOther k5_BadOther : Option Value}
    {nm_BadText qn_BadText : Str} {N_BadText : Addr} {bs_BadText bm_BadText : List Value} {sn_BadText : List Str} {sub_BadText : List Value} {ab_BadText : Bool} {col_BadText : Option Bool} {dd_BadText : Option Addr} {k0_BadText k1_BadText k2_BadText k3_BadText k5_BadText : Option Value}
    {f_draw : Addr} {od_draw an_draw : Option Addr} {sl_draw : Array (Option Value)} {oc_draw kV_draw dc_draw pm_draw cd_draw ct_draw : Value}
    {f_pen : Addr} {od_pen an_pen : Option Addr} {sl_pen : Array (Option Value)} {oc_pen kV_pen dc_pen pm_pen cd_pen ct_pen : Value}
    {f_law_pick : Addr} {od_law_pick an_law_pick : Option Addr} {sl_law_pick : Array (Option Value)} {oc_law_pick kV_law_pick dc_law_pick pm_law_pick cd_law_pick ct_law_pick : Value}
    {f_law_numbers : Addr} {od_law_numbers an_law_numbers : Option Addr} {sl_law_numbers : Array (Option Value)} {oc_law_numbers kV_law_numbers dc_law_numbers pm_law_numbers cd_law_numbers ct_law_numbers : Value}
    {f_is_integer : Addr} {od_is_integer an_is_integer : Option Addr} {sl_is_integer : Array (Option Value)} {oc_is_integer kV_is_integer dc_is_integer pm_is_integer cd_is_integer ct_is_integer : Value}
    {f_is_within : Addr} {od_is_within an_is_within : Option Addr} {sl_is_within : Array (Option Value)} {oc_is_within kV_is_within dc_is_within pm_is_within cd_is_within ct_is_within : Value}
    {f_is_times : Addr} {od_is_times an_is_times : Option Addr} {sl_is_times : Array (Option Value)} {oc_is_times kV_is_times dc_is_times pm_is_times cd_is_times ct_is_times : Value}
    {f_need_plus : Addr} {od_need_plus an_need_plus : Option Addr} {sl_need_plus : Array (Option Value)} {oc_need_plus kV_need_plus dc_need_plus pm_need_plus cd_need_plus ct_need_plus : Value}
    {f_WeightRule_need_numbers p_WeightRule_need_numbers : Addr} {od_WeightRule_need_numbers an_WeightRule_need_numbers : Option Addr} {sl_WeightRule_need_numbers : Array (Option Value)} {oc_WeightRule_need_numbers kV_WeightRule_need_numbers dc_WeightRule_need_numbers pm_WeightRule_need_numbers cd_WeightRule_need_numbers ct_WeightRule_need_numbers : Value} {rs_WeightRule_need_numbers : List Value}
    {f_WeightRule_beside : Addr} {od_WeightRule_beside an_WeightRule_beside : Option Addr} {sl_WeightRule_beside : Array (Option Value)} {oc_WeightRule_beside kV_WeightRule_beside dc_WeightRule_beside pm_WeightRule_beside cd_WeightRule_beside ct_WeightRule_beside : Value}
    {f_WeightRule_init : Addr} {od_WeightRule_init an_WeightRule_init : Option Addr} {sl_WeightRule_init : Array (Option Value)} {oc_WeightRule_init kV_WeightRule_init dc_WeightRule_init pm_WeightRule_init cd_WeightRule_init ct_WeightRule_init : Value}
    {f_TurnRule_init ca_TurnRule_init cc_TurnRule_init : Addr} {od_TurnRule_init an_TurnRule_init cdd_TurnRule_init cld_TurnRule_init : Option Addr} {sl_TurnRule_init ccs_TurnRule_init csl_TurnRule_init : Array (Option Value)} {oc_TurnRule_init dc_TurnRule_init pm_TurnRule_init ct_TurnRule_init ccl_TurnRule_init cl_TurnRule_init : Value} {cvs_TurnRule_init : Array Value} {fl_TurnRule_init : Str} {tf_TurnRule_init : Tok} {cdD_TurnRule_init : ClassData}
    {DT_TurnRule_init : Addr}
    {DK_TurnRule_init : Addr}
    {f_TryRule_init ca_TryRule_init cc_TryRule_init : Addr} {od_TryRule_init an_TryRule_init cdd_TryRule_init cld_TryRule_init : Option Addr} {sl_TryRule_init ccs_TryRule_init csl_TryRule_init : Array (Option Value)} {oc_TryRule_init dc_TryRule_init pm_TryRule_init ct_TryRule_init ccl_TryRule_init cl_TryRule_init kV_TryRule_init : Value} {cvs_TryRule_init : Array Value} {fl_TryRule_init : Str} {tf_TryRule_init : Tok} {cdD_TryRule_init : ClassData}
    {DT_TryRule_init : Addr}
    {f_law_rule : Addr} {od_law_rule an_law_rule : Option Addr} {sl_law_rule : Array (Option Value)} {oc_law_rule kV_law_rule dc_law_rule pm_law_rule cd_law_rule ct_law_rule : Value}
    {f_need_number : Addr} {od_need_number an_need_number : Option Addr} {sl_need_number : Array (Option Value)} {oc_need_number kV_need_number dc_need_number pm_need_number cd_need_number ct_need_number : Value}
    {f_halves_of : Addr} {od_halves_of an_halves_of : Option Addr} {sl_halves_of : Array (Option Value)} {oc_halves_of kV_halves_of dc_halves_of pm_halves_of cd_halves_of ct_halves_of : Value}
    {f_halves_shape : Addr} {od_halves_shape an_halves_shape : Option Addr} {sl_halves_shape : Array (Option Value)} {oc_halves_shape kV_halves_shape dc_halves_shape pm_halves_shape cd_halves_shape ct_halves_shape : Value}
    {f_need_weight_rule : Addr} {od_need_weight_rule an_need_weight_rule : Option Addr} {sl_need_weight_rule : Array (Option Value)} {oc_need_weight_rule kV_need_weight_rule dc_need_weight_rule pm_need_weight_rule cd_need_weight_rule ct_need_weight_rule : Value}
    {f_higher : Addr} {od_higher an_higher : Option Addr} {sl_higher : Array (Option Value)} {oc_higher kV_higher dc_higher pm_higher cd_higher ct_higher : Value}
    {f_highest : Addr} {od_highest an_highest : Option Addr} {sl_highest : Array (Option Value)} {oc_highest kV_highest dc_highest pm_highest cd_highest ct_highest : Value}
    {f_tall_of : Addr} {od_tall_of an_tall_of : Option Addr} {sl_tall_of : Array (Option Value)} {oc_tall_of kV_tall_of dc_tall_of pm_tall_of cd_tall_of ct_tall_of : Value}
    {f_tall_shape : Addr} {od_tall_shape an_tall_shape : Option Addr} {sl_tall_shape : Array (Option Value)} {oc_tall_shape kV_tall_shape dc_tall_shape pm_tall_shape cd_tall_shape ct_tall_shape : Value}
    {f_law_top : Addr} {od_law_top an_law_top : Option Addr} {sl_law_top : Array (Option Value)} {oc_law_top kV_law_top dc_law_top pm_law_top cd_law_top ct_law_top : Value}
    {f_law_least : Addr} {od_law_least an_law_least : Option Addr} {sl_law_least : Array (Option Value)} {oc_law_least kV_law_least dc_law_least pm_law_least cd_law_least ct_law_least : Value}
    {f_law_halves : Addr} {od_law_halves an_law_halves : Option Addr} {sl_law_halves : Array (Option Value)} {oc_law_halves kV_law_halves dc_law_halves pm_law_halves cd_law_halves ct_law_halves : Value}
    {f_law_tall : Addr} {od_law_tall an_law_tall : Option Addr} {sl_law_tall : Array (Option Value)} {oc_law_tall kV_law_tall dc_law_tall pm_law_tall cd_law_tall ct_law_tall : Value}
    {f_is_pair : Addr} {od_is_pair an_is_pair : Option Addr} {sl_is_pair : Array (Option Value)} {oc_is_pair kV_is_pair dc_is_pair pm_is_pair cd_is_pair ct_is_pair : Value}
    {f_WeightRule_is_fair : Addr} {od_WeightRule_is_fair an_WeightRule_is_fair : Option Addr} {sl_WeightRule_is_fair : Array (Option Value)} {oc_WeightRule_is_fair kV_WeightRule_is_fair dc_WeightRule_is_fair pm_WeightRule_is_fair cd_WeightRule_is_fair ct_WeightRule_is_fair : Value}
    {f_fair_weight : Addr} {od_fair_weight an_fair_weight : Option Addr} {sl_fair_weight : Array (Option Value)} {oc_fair_weight kV_fair_weight dc_fair_weight pm_fair_weight cd_fair_weight ct_fair_weight : Value}
    {f_is_fair : Addr} {od_is_fair an_is_fair : Option Addr} {sl_is_fair : Array (Option Value)} {oc_is_fair kV_is_fair dc_is_fair pm_is_fair cd_is_fair ct_is_fair : Value}
    {f_measured : Addr} {od_measured an_measured : Option Addr} {sl_measured : Array (Option Value)} {oc_measured kV_measured dc_measured pm_measured cd_measured ct_measured : Value}
    {f_needed : Addr} {od_needed an_needed : Option Addr} {sl_needed : Array (Option Value)} {oc_needed kV_needed dc_needed pm_needed cd_needed ct_needed : Value}
    {f_keys_of : Addr} {od_keys_of an_keys_of : Option Addr} {sl_keys_of : Array (Option Value)} {oc_keys_of kV_keys_of dc_keys_of pm_keys_of cd_keys_of ct_keys_of : Value}
    {f_height_of : Addr} {od_height_of an_height_of : Option Addr} {sl_height_of : Array (Option Value)} {oc_height_of kV_height_of dc_height_of pm_height_of cd_height_of ct_height_of : Value}
    {f_least_height : Addr} {od_least_height an_least_height : Option Addr} {sl_least_height : Array (Option Value)} {oc_least_height kV_least_height dc_least_height pm_least_height cd_least_height ct_least_height : Value}
    {f_greatest_height : Addr} {od_greatest_height an_greatest_height : Option Addr} {sl_greatest_height : Array (Option Value)} {oc_greatest_height kV_greatest_height dc_greatest_height pm_greatest_height cd_greatest_height ct_greatest_height : Value}
    {f_law_right : Addr} {od_law_right an_law_right : Option Addr} {sl_law_right : Array (Option Value)} {oc_law_right kV_law_right dc_law_right pm_law_right cd_law_right ct_law_right : Value}
    {f_BadRule_init : Addr} {od_BadRule_init an_BadRule_init : Option Addr} {sl_BadRule_init : Array (Option Value)} {oc_BadRule_init kV_BadRule_init dc_BadRule_init pm_BadRule_init cd_BadRule_init ct_BadRule_init : Value}
    {f_NoHalves_init : Addr} {od_NoHalves_init an_NoHalves_init : Option Addr} {sl_NoHalves_init : Array (Option Value)} {oc_NoHalves_init kV_NoHalves_init dc_NoHalves_init pm_NoHalves_init cd_NoHalves_init ct_NoHalves_init : Value}
    {f_BadNumber_init : Addr} {od_BadNumber_init an_BadNumber_init : Option Addr} {sl_BadNumber_init : Array (Option Value)} {oc_BadNumber_init kV_BadNumber_init dc_BadNumber_init pm_BadNumber_init cd_BadNumber_init ct_BadNumber_init : Value}
    {f_BadOther_init : Addr} {od_BadOther_init an_BadOther_init : Option Addr} {sl_BadOther_init : Array (Option Value)} {oc_BadOther_init kV_BadOther_init dc_BadOther_init pm_BadOther_init cd_BadOther_init ct_BadOther_init : Value}
    {f_law : Addr} {od_law an_law : Option Addr} {sl_law : Array (Option Value)} {oc_law kV_law dc_law pm_law cd_law ct_law : Value}
    {oT_TurnRule_init : Option Addr} {nT_TurnRule_init : Nat} {slT_TurnRule_init : Array (Option Value)}
    {u_TurnRule_init_0 : Tok}
    {u_TurnRule_init_50 : Tok}
    {oT_TryRule_init : Option Addr} {nT_TryRule_init : Nat} {slT_TryRule_init : Array (Option Value)}
    {u_TryRule_init_0 : Tok}
    (y1 : PySem.W.nsIn K mainGlobals "int" = some none)
    (y2 : PySem.W.nsIn K mainGlobals "abs" = some none)
    (y3 : PySem.W.nsIn K mainGlobals "len" = some none)
    (y4 : PySem.W.nsIn K mainGlobals "list" = some none)
    (y5 : PySem.W.nsIn K mainGlobals "range" = some none)
    (y6 : PySem.W.nsIn K mainGlobals "max" = some none)
    (y7 : PySem.W.nsIn K mainGlobals "isinstance" = some none)
    (y8 : PySem.W.nsIn K mainGlobals "bool" = some none)
    (y9 : PySem.W.nsIn K mainGlobals "all" = some none)
    (y10 : PySem.W.nsIn K mainGlobals "tuple" = some none)
    (y11 : PySem.W.nsIn K mainGlobals "min" = some none)
    (y12 : PySem.W.nsIn K mainGlobals "Rule" = some (some (.ref C_Rule)))
    (y13 : PySem.W.plainGet K C_Rule Str.empty = true)
    (y14 : PySem.W.hasDictIn K C_Rule = true)
    (y15 : PySem.W.plainOver K C_Rule = true)
    (y16 : PySem.W.findIn K (.ref C_Rule) "__setattr__" = some (some (.builtin "object.__setattr__")))
    (y17 : PySem.W.findIn K (.ref C_Rule) "__class__" = some (some (.builtin "object.__class__")))
    (y18 : PySem.W.specialIn K (.builtin "object.__class__") "__get__" = some (some (.builtin "getset_descriptor.__get__")))
    (y19 : PySem.W.takesIn K (.builtin "object.__class__") = some true)
    (y20 : PySem.W.mroIn K C_Rule (.type "object") = some true)
    (y21 : PySem.W.isClsIn K C_Rule = true)
    (y22 : PySem.W.typeIn K (.ref C_Rule) = some (.type "type"))
    (y23 : PySem.W.nsIn K mainGlobals "WeightRule" = some (some (.ref C_WeightRule)))
    (y24 : PySem.W.plainGet K C_WeightRule Str.empty = true)
    (y25 : PySem.W.hasDictIn K C_WeightRule = true)
    (y26 : PySem.W.plainOver K C_WeightRule = true)
    (y27 : PySem.W.findIn K (.ref C_WeightRule) "__setattr__" = some (some (.builtin "object.__setattr__")))
    (y28 : PySem.W.findIn K (.ref C_WeightRule) "__class__" = some (some (.builtin "object.__class__")))
    (y29 : PySem.W.specialIn K (.builtin "object.__class__") "__get__" = some (some (.builtin "getset_descriptor.__get__")))
    (y30 : PySem.W.takesIn K (.builtin "object.__class__") = some true)
    (y31 : PySem.W.mroIn K C_WeightRule (.type "object") = some true)
    (y32 : PySem.W.isClsIn K C_WeightRule = true)
    (y33 : PySem.W.typeIn K (.ref C_WeightRule) = some (.type "type"))
    (y34 : PySem.W.nsIn K mainGlobals "TurnRule" = some (some (.ref C_TurnRule)))
    (y35 : PySem.W.plainGet K C_TurnRule Str.empty = true)
    (y36 : PySem.W.hasDictIn K C_TurnRule = true)
    (y37 : PySem.W.plainOver K C_TurnRule = true)
    (y38 : PySem.W.findIn K (.ref C_TurnRule) "__setattr__" = some (some (.builtin "object.__setattr__")))
    (y39 : PySem.W.findIn K (.ref C_TurnRule) "__class__" = some (some (.builtin "object.__class__")))
    (y40 : PySem.W.specialIn K (.builtin "object.__class__") "__get__" = some (some (.builtin "getset_descriptor.__get__")))
    (y41 : PySem.W.takesIn K (.builtin "object.__class__") = some true)
    (y42 : PySem.W.mroIn K C_TurnRule (.type "object") = some true)
    (y43 : PySem.W.isClsIn K C_TurnRule = true)
    (y44 : PySem.W.typeIn K (.ref C_TurnRule) = some (.type "type"))
    (y45 : PySem.W.nsIn K mainGlobals "TryRule" = some (some (.ref C_TryRule)))
    (y46 : PySem.W.plainGet K C_TryRule Str.empty = true)
    (y47 : PySem.W.hasDictIn K C_TryRule = true)
    (y48 : PySem.W.plainOver K C_TryRule = true)
    (y49 : PySem.W.findIn K (.ref C_TryRule) "__setattr__" = some (some (.builtin "object.__setattr__")))
    (y50 : PySem.W.findIn K (.ref C_TryRule) "__class__" = some (some (.builtin "object.__class__")))
    (y51 : PySem.W.specialIn K (.builtin "object.__class__") "__get__" = some (some (.builtin "getset_descriptor.__get__")))
    (y52 : PySem.W.takesIn K (.builtin "object.__class__") = some true)
    (y53 : PySem.W.mroIn K C_TryRule (.type "object") = some true)
    (y54 : PySem.W.isClsIn K C_TryRule = true)
    (y55 : PySem.W.typeIn K (.ref C_TryRule) = some (.type "type"))
    (y56 : PySem.W.mroIn K C_TryRule (.ref C_Rule) = some true)
    (y57 : PySem.W.mroIn K C_Rule (.ref C_Rule) = some true)
    (y58 : PySem.W.mroIn K C_TurnRule (.ref C_Rule) = some true)
    (y59 : PySem.W.mroIn K C_WeightRule (.ref C_Rule) = some true)
    (y60 : PySem.W.mroIn K C_TryRule (.ref C_WeightRule) = some true)
    (y61 : PySem.W.mroIn K C_WeightRule (.ref C_WeightRule) = some true)
    (y62 : PySem.W.mroIn K C_TurnRule (.ref C_WeightRule) = some true)
    (y63 : PySem.W.mroIn K C_Rule (.ref C_WeightRule) = some false)
    (y64 : PySem.W.mroIn K C_TryRule (.ref C_TurnRule) = some false)
    (y65 : PySem.W.mroIn K C_TurnRule (.ref C_TurnRule) = some true)
    (y66 : PySem.W.mroIn K C_WeightRule (.ref C_TurnRule) = some false)
    (y67 : PySem.W.mroIn K C_Rule (.ref C_TurnRule) = some false)
    (y68 : PySem.W.findIn K (.ref C_TurnRule) "__ne__" = some (some (.builtin "object.__ne__")))
    (y69 : PySem.W.mroIn K C_TurnRule (.ref C_TryRule) = some false)
    (y70 : PySem.W.mroIn K C_TryRule (.ref C_TryRule) = some true)
    (y71 : PySem.W.mroIn K C_WeightRule (.ref C_TryRule) = some false)
    (y72 : PySem.W.mroIn K C_Rule (.ref C_TryRule) = some false)
    (y73 : PySem.W.findIn K (.ref C_TryRule) "__ne__" = some (some (.builtin "object.__ne__")))
    (y74 : PySem.W.mroIn K C_Rule (.type "NoneType") = some false)
    (y75 : PySem.W.mroIn K C_Rule (.type "bool") = some false)
    (y76 : PySem.W.mroIn K C_Rule (.type "int") = some false)
    (y77 : PySem.W.mroIn K C_Rule (.type "str") = some false)
    (y78 : PySem.W.mroIn K C_Rule (.type "list") = some false)
    (y79 : PySem.W.mroIn K C_Rule (.type "tuple") = some false)
    (y80 : PySem.W.mroIn K C_Rule (.type "dict") = some false)
    (y81 : PySem.W.mroIn K C_WeightRule (.type "NoneType") = some false)
    (y82 : PySem.W.mroIn K C_WeightRule (.type "bool") = some false)
    (y83 : PySem.W.mroIn K C_WeightRule (.type "int") = some false)
    (y84 : PySem.W.mroIn K C_WeightRule (.type "str") = some false)
    (y85 : PySem.W.mroIn K C_WeightRule (.type "list") = some false)
    (y86 : PySem.W.mroIn K C_WeightRule (.type "tuple") = some false)
    (y87 : PySem.W.mroIn K C_WeightRule (.type "dict") = some false)
    (y88 : PySem.W.mroIn K C_TurnRule (.type "NoneType") = some false)
    (y89 : PySem.W.mroIn K C_TurnRule (.type "bool") = some false)
    (y90 : PySem.W.mroIn K C_TurnRule (.type "int") = some false)
    (y91 : PySem.W.mroIn K C_TurnRule (.type "str") = some false)
    (y92 : PySem.W.mroIn K C_TurnRule (.type "list") = some false)
    (y93 : PySem.W.mroIn K C_TurnRule (.type "tuple") = some false)
    (y94 : PySem.W.mroIn K C_TurnRule (.type "dict") = some false)
    (y95 : PySem.W.mroIn K C_TryRule (.type "NoneType") = some false)
    (y96 : PySem.W.mroIn K C_TryRule (.type "bool") = some false)
    (y97 : PySem.W.mroIn K C_TryRule (.type "int") = some false)
    (y98 : PySem.W.mroIn K C_TryRule (.type "str") = some false)
    (y99 : PySem.W.mroIn K C_TryRule (.type "list") = some false)
    (y100 : PySem.W.mroIn K C_TryRule (.type "tuple") = some false)
    (y101 : PySem.W.mroIn K C_TryRule (.type "dict") = some false)
    (y102 : PySem.W.findIn K (.ref C_TryRule) "turn" = some none)
    (y103 : PySem.W.findIn K (.ref C_TurnRule) "turn" = some none)
    (y104 : PySem.W.findIn K (.ref C_WeightRule) "turn" = some none)
    (y105 : PySem.W.findIn K (.ref C_Rule) "turn" = some none)
    (y106 : PySem.W.findIn K (.ref C_TryRule) "turn_plus" = some none)
    (y107 : PySem.W.findIn K (.ref C_TurnRule) "turn_plus" = some none)
    (y108 : PySem.W.findIn K (.ref C_WeightRule) "turn_plus" = some none)
    (y109 : PySem.W.findIn K (.ref C_Rule) "turn_plus" = some none)
    (y110 : PySem.W.findIn K (.ref C_TryRule) "times" = some none)
    (y111 : PySem.W.findIn K (.ref C_TurnRule) "times" = some none)
    (y112 : PySem.W.findIn K (.ref C_WeightRule) "times" = some none)
    (y113 : PySem.W.findIn K (.ref C_Rule) "times" = some none)
    (y114 : PySem.W.findIn K (.ref C_TryRule) "plus" = some none)
    (y115 : PySem.W.findIn K (.ref C_TurnRule) "plus" = some none)
    (y116 : PySem.W.findIn K (.ref C_WeightRule) "plus" = some none)
    (y117 : PySem.W.findIn K (.ref C_Rule) "plus" = some none)
    (y118 : PySem.W.nsIn K mainGlobals "MOST_PLUS" = some (some (.int (6) tk0)))
    (y119 : PySem.W.nsIn K mainGlobals "MOST_TURN" = some (some (.int (8) tk1)))
    (y120 : PySem.W.nsIn K mainGlobals "MOST_WEIGHT" = some (some (.int (1000000000000000000000000000000000000000000000000000000000000) tk2)))
    (y121 : PySem.W.nsIn K mainGlobals "MOST_KEYS" = some (some (.int (1000000000000000000000000000000) tk3)))
    (y122 : PySem.W.nsIn K mainGlobals "MOST_SHAPED" = some (some (.int (2000) tk4)))
    (y123 : PySem.W.readsIn K C_WeightRule (.type "type") = true)
    (y124 : PySem.W.specialIn K (.ref C_WeightRule) "__getattribute__" = some (some (.builtin "type.__getattribute__")))
    (y125 : PySem.W.findCls K (.ref C_WeightRule) (.type "type") "MOST" = some (.val (.int (6) tkc0)))
    (y126 : PySem.W.nsIn K mainGlobals "BadRule" = some (some (.ref X_BadRule)))
    (y127 : PySem.W.subIn K (.ref X_BadRule) (.type "BaseException") = some true)
    (y128 : PySem.W.hasDictIn K X_BadRule = true)
    (y129 : PySem.W.typeIn K (.ref X_BadRule) = some (.type "type"))
    (y130 : PySem.W.nsIn K mainGlobals "NoHalves" = some (some (.ref X_NoHalves)))
    (y131 : PySem.W.subIn K (.ref X_NoHalves) (.type "BaseException") = some true)
    (y132 : PySem.W.hasDictIn K X_NoHalves = true)
    (y133 : PySem.W.typeIn K (.ref X_NoHalves) = some (.type "type"))
    (y134 : PySem.W.nsIn K mainGlobals "BadNumber" = some (some (.ref X_BadNumber)))
    (y135 : PySem.W.subIn K (.ref X_BadNumber) (.type "BaseException") = some true)
    (y136 : PySem.W.hasDictIn K X_BadNumber = true)
    (y137 : PySem.W.typeIn K (.ref X_BadNumber) = some (.type "type"))
    (y138 : PySem.W.nsIn K mainGlobals "BadOther" = some (some (.ref X_BadOther)))
    (y139 : PySem.W.subIn K (.ref X_BadOther) (.type "BaseException") = some true)
    (y140 : PySem.W.hasDictIn K X_BadOther = true)
    (y141 : PySem.W.typeIn K (.ref X_BadOther) = some (.type "type"))
    (y142 : PySem.W.nsIn K mainGlobals "BadText" = some (some (.ref X_BadText)))
    (y143 : PySem.W.subIn K (.ref X_BadText) (.type "BaseException") = some true)
    (y144 : PySem.W.hasDictIn K X_BadText = true)
    (y145 : PySem.W.typeIn K (.ref X_BadText) = some (.type "type"))
    (y146 : PySem.W.nsIn K mainGlobals "FairError" = some (some (.ref X_FairError)))
    (y147 : PySem.W.subIn K (.ref X_FairError) (.type "BaseException") = some true)
    (y148 : PySem.W.hasDictIn K X_FairError = true)
    (y149 : PySem.W.typeIn K (.ref X_FairError) = some (.type "type"))
    (y150 : K.lookup X_BadRule = some (excClassObj nm_BadRule qn_BadRule X_BadRule N_BadRule bs_BadRule bm_BadRule true sn_BadRule sub_BadRule ab_BadRule col_BadRule dd_BadRule k0_BadRule k1_BadRule k2_BadRule k3_BadRule k5_BadRule "ValueError.__new__"))
    (y151 : PySem.HandSPX.refsVE bm_BadRule = true)
    (y152 : PySem.W.keepIn K (.ref X_BadRule) = true)
    (y153 : PySem.W.findIn K (.ref X_BadRule) "__setattr__" = some (some (.builtin "object.__setattr__")))
    (y154 : K.lookup X_NoHalves = some (excClassObj nm_NoHalves qn_NoHalves X_NoHalves N_NoHalves bs_NoHalves bm_NoHalves true sn_NoHalves sub_NoHalves ab_NoHalves col_NoHalves dd_NoHalves k0_NoHalves k1_NoHalves k2_NoHalves k3_NoHalves k5_NoHalves "ValueError.__new__"))
    (y155 : PySem.HandSPX.refsVE bm_NoHalves = true)
    (y156 : PySem.W.keepIn K (.ref X_NoHalves) = true)
    (y157 : PySem.W.findIn K (.ref X_NoHalves) "__setattr__" = some (some (.builtin "object.__setattr__")))
    (y158 : K.lookup X_BadNumber = some (excClassObj nm_BadNumber qn_BadNumber X_BadNumber N_BadNumber bs_BadNumber bm_BadNumber true sn_BadNumber sub_BadNumber ab_BadNumber col_BadNumber dd_BadNumber k0_BadNumber k1_BadNumber k2_BadNumber k3_BadNumber k5_BadNumber "ValueError.__new__"))
    (y159 : PySem.HandSPX.refsVE bm_BadNumber = true)
    (y160 : PySem.W.keepIn K (.ref X_BadNumber) = true)
    (y161 : PySem.W.findIn K (.ref X_BadNumber) "__setattr__" = some (some (.builtin "object.__setattr__")))
    (y162 : K.lookup X_BadOther = some (excClassObj nm_BadOther qn_BadOther X_BadOther N_BadOther bs_BadOther bm_BadOther true sn_BadOther sub_BadOther ab_BadOther col_BadOther dd_BadOther k0_BadOther k1_BadOther k2_BadOther k3_BadOther k5_BadOther "ValueError.__new__"))
    (y163 : PySem.HandSPX.refsVE bm_BadOther = true)
    (y164 : PySem.W.keepIn K (.ref X_BadOther) = true)
    (y165 : PySem.W.findIn K (.ref X_BadOther) "__setattr__" = some (some (.builtin "object.__setattr__")))
    (y166 : K.lookup X_BadText = some (excClassObj nm_BadText qn_BadText X_BadText N_BadText bs_BadText bm_BadText true sn_BadText sub_BadText ab_BadText col_BadText dd_BadText k0_BadText k1_BadText k2_BadText k3_BadText k5_BadText "ValueError.__new__"))
    (y167 : PySem.HandSPX.refsVE bm_BadText = true)
    (y168 : PySem.W.keepIn K (.ref X_BadText) = true)
    (y169 : PySem.W.findIn K (.ref X_BadText) "__setattr__" = some (some (.builtin "object.__setattr__")))
    (y170 : PySem.W.findIn K (.ref X_BadText) "__getattribute__" = some (some (.builtin "BaseException.__getattribute__")))
    (y171 : PySem.W.findIn K (.ref X_BadText) "__getattr__" = some none)
    (y172 : PySem.W.findIn K (.ref X_BadText) "__class__" = some (some (.builtin "object.__class__")))
    (y173 : PySem.W.specialIn K (.builtin "object.__class__") "__get__" = some (some (.builtin "getset_descriptor.__get__")))
    (y174 : PySem.W.takesIn K (.builtin "object.__class__") = some true)
    (y175 : PySem.W.mroIn K X_BadText (.type "object") = some true)
    (y176 : PySem.W.findIn K (.ref X_BadOther) "__getattribute__" = some (some (.builtin "BaseException.__getattribute__")))
    (y177 : PySem.W.findIn K (.ref X_BadOther) "__getattr__" = some none)
    (y178 : PySem.W.findIn K (.ref X_BadOther) "__class__" = some (some (.builtin "object.__class__")))
    (y179 : PySem.W.specialIn K (.builtin "object.__class__") "__get__" = some (some (.builtin "getset_descriptor.__get__")))
    (y180 : PySem.W.takesIn K (.builtin "object.__class__") = some true)
    (y181 : PySem.W.mroIn K X_BadOther (.type "object") = some true)
    (y182 : PySem.W.findIn K (.ref X_BadNumber) "__getattribute__" = some (some (.builtin "BaseException.__getattribute__")))
    (y183 : PySem.W.findIn K (.ref X_BadNumber) "__getattr__" = some none)
    (y184 : PySem.W.findIn K (.ref X_BadNumber) "__class__" = some (some (.builtin "object.__class__")))
    (y185 : PySem.W.specialIn K (.builtin "object.__class__") "__get__" = some (some (.builtin "getset_descriptor.__get__")))
    (y186 : PySem.W.takesIn K (.builtin "object.__class__") = some true)
    (y187 : PySem.W.mroIn K X_BadNumber (.type "object") = some true)
    (y188 : PySem.W.findIn K (.ref X_NoHalves) "__getattribute__" = some (some (.builtin "BaseException.__getattribute__")))
    (y189 : PySem.W.findIn K (.ref X_NoHalves) "__getattr__" = some none)
    (y190 : PySem.W.findIn K (.ref X_NoHalves) "__class__" = some (some (.builtin "object.__class__")))
    (y191 : PySem.W.specialIn K (.builtin "object.__class__") "__get__" = some (some (.builtin "getset_descriptor.__get__")))
    (y192 : PySem.W.takesIn K (.builtin "object.__class__") = some true)
    (y193 : PySem.W.mroIn K X_NoHalves (.type "object") = some true)
    (y194 : PySem.W.findIn K (.ref X_BadRule) "__getattribute__" = some (some (.builtin "BaseException.__getattribute__")))
    (y195 : PySem.W.findIn K (.ref X_BadRule) "__getattr__" = some none)
    (y196 : PySem.W.findIn K (.ref X_BadRule) "__class__" = some (some (.builtin "object.__class__")))
    (y197 : PySem.W.specialIn K (.builtin "object.__class__") "__get__" = some (some (.builtin "getset_descriptor.__get__")))
    (y198 : PySem.W.takesIn K (.builtin "object.__class__") = some true)
    (y199 : PySem.W.mroIn K X_BadRule (.type "object") = some true)
    (y200 : PySem.W.findIn K (.ref X_BadText) "part" = some none)
    (y201 : PySem.W.findIn K (.ref X_BadOther) "part" = some none)
    (y202 : PySem.W.findIn K (.ref X_BadNumber) "part" = some none)
    (y203 : PySem.W.findIn K (.ref X_NoHalves) "part" = some none)
    (y204 : PySem.W.findIn K (.ref X_BadRule) "part" = some none)
    (y205 : PySem.W.findIn K (.ref X_BadText) "value" = some none)
    (y206 : PySem.W.findIn K (.ref X_BadOther) "value" = some none)
    (y207 : PySem.W.findIn K (.ref X_BadNumber) "value" = some none)
    (y208 : PySem.W.findIn K (.ref X_NoHalves) "value" = some none)
    (y209 : PySem.W.findIn K (.ref X_BadRule) "value" = some none)
    (y210 : PySem.W.findIn K (.ref X_BadText) "weight" = some none)
    (y211 : PySem.W.findIn K (.ref X_BadOther) "weight" = some none)
    (y212 : PySem.W.findIn K (.ref X_BadNumber) "weight" = some none)
    (y213 : PySem.W.findIn K (.ref X_NoHalves) "weight" = some none)
    (y214 : PySem.W.findIn K (.ref X_BadRule) "weight" = some none)
    (y215 : PySem.W.nsIn K mainGlobals "_law_draw" = some (some (.ref f_draw)))
    (y216 : K.lookup f_draw = some ⟨oc_draw, od_draw, .func (PySem.W.fnOf "_law_draw" "_law_draw" (C8.fnArgs (top 48)) (C8.fnBody (top 48)) (C8.fnScope (top 48)) .none kV_draw dc_draw pm_draw an_draw cd_draw ct_draw), sl_draw⟩)
    (y217 : PySem.W.codeIn K cd_draw "_law_draw" = true)
    (y218 : PySem.W.keepIn K (.ref f_draw) = true)
    (y219 : PySem.W.nsIn K mainGlobals "_law_pen" = some (some (.ref f_pen)))
    (y220 : K.lookup f_pen = some ⟨oc_pen, od_pen, .func (PySem.W.fnOf "_law_pen" "_law_pen" (C8.fnArgs (top 47)) (C8.fnBody (top 47)) (C8.fnScope (top 47)) .none kV_pen dc_pen pm_pen an_pen cd_pen ct_pen), sl_pen⟩)
    (y221 : PySem.W.codeIn K cd_pen "_law_pen" = true)
    (y222 : PySem.W.keepIn K (.ref f_pen) = true)
    (y223 : PySem.W.nsIn K mainGlobals "_law_pick" = some (some (.ref f_law_pick)))
    (y224 : K.lookup f_law_pick = some ⟨oc_law_pick, od_law_pick, .func (PySem.W.fnOf "_law_pick" "_law_pick" (C8.fnArgs (top 49)) (C8.fnBody (top 49)) (C8.fnScope (top 49)) .none kV_law_pick dc_law_pick pm_law_pick an_law_pick cd_law_pick ct_law_pick), sl_law_pick⟩)
    (y225 : PySem.W.codeIn K cd_law_pick "_law_pick" = true)
    (y226 : PySem.W.keepIn K (.ref f_law_pick) = true)
    (y227 : PySem.W.nsIn K mainGlobals "_law_numbers" = some (some (.ref f_law_numbers)))
    (y228 : K.lookup f_law_numbers = some ⟨oc_law_numbers, od_law_numbers, .func (PySem.W.fnOf "_law_numbers" "_law_numbers" (C8.fnArgs (top 50)) (C8.fnBody (top 50)) (C8.fnScope (top 50)) .none kV_law_numbers dc_law_numbers pm_law_numbers an_law_numbers cd_law_numbers ct_law_numbers), sl_law_numbers⟩)
    (y229 : PySem.W.codeIn K cd_law_numbers "_law_numbers" = true)
    (y230 : PySem.W.keepIn K (.ref f_law_numbers) = true)
    (y231 : PySem.W.nsIn K mainGlobals "is_integer" = some (some (.ref f_is_integer)))
    (y232 : K.lookup f_is_integer = some ⟨oc_is_integer, od_is_integer, .func (PySem.W.fnOf "is_integer" "is_integer" (C8.fnArgs (top 8)) (C8.fnBody (top 8)) (C8.fnScope (top 8)) .none kV_is_integer dc_is_integer pm_is_integer an_is_integer cd_is_integer ct_is_integer), sl_is_integer⟩)
    (y233 : PySem.W.codeIn K cd_is_integer "is_integer" = true)
    (y234 : PySem.W.keepIn K (.ref f_is_integer) = true)
    (y235 : PySem.W.nsIn K mainGlobals "is_within" = some (some (.ref f_is_within)))
    (y236 : K.lookup f_is_within = some ⟨oc_is_within, od_is_within, .func (PySem.W.fnOf "is_within" "is_within" (C8.fnArgs (top 9)) (C8.fnBody (top 9)) (C8.fnScope (top 9)) .none kV_is_within dc_is_within pm_is_within an_is_within cd_is_within ct_is_within), sl_is_within⟩)
    (y237 : PySem.W.codeIn K cd_is_within "is_within" = true)
    (y238 : PySem.W.keepIn K (.ref f_is_within) = true)
    (y239 : PySem.W.nsIn K mainGlobals "is_times" = some (some (.ref f_is_times)))
    (y240 : K.lookup f_is_times = some ⟨oc_is_times, od_is_times, .func (PySem.W.fnOf "is_times" "is_times" (C8.fnArgs (top 15)) (C8.fnBody (top 15)) (C8.fnScope (top 15)) .none kV_is_times dc_is_times pm_is_times an_is_times cd_is_times ct_is_times), sl_is_times⟩)
    (y241 : PySem.W.codeIn K cd_is_times "is_times" = true)
    (y242 : PySem.W.keepIn K (.ref f_is_times) = true)
    (y243 : PySem.W.nsIn K mainGlobals "need_plus" = some (some (.ref f_need_plus)))
    (y244 : K.lookup f_need_plus = some ⟨oc_need_plus, od_need_plus, .func (PySem.W.fnOf "need_plus" "need_plus" (C8.fnArgs (top 16)) (C8.fnBody (top 16)) (C8.fnScope (top 16)) .none kV_need_plus dc_need_plus pm_need_plus an_need_plus cd_need_plus ct_need_plus), sl_need_plus⟩)
    (y245 : PySem.W.codeIn K cd_need_plus "need_plus" = true)
    (y246 : PySem.W.keepIn K (.ref f_need_plus) = true)
    (y247 : PySem.W.findIn K (.ref C_WeightRule) "need_numbers" = some (some (.ref p_WeightRule_need_numbers)))
    (y248 : PySem.W.recIn K p_WeightRule_need_numbers "staticmethod" = some (.ref f_WeightRule_need_numbers :: rs_WeightRule_need_numbers))
    (y249 : K.lookup f_WeightRule_need_numbers = some ⟨oc_WeightRule_need_numbers, od_WeightRule_need_numbers, .func (PySem.W.fnOf "need_numbers" "WeightRule.need_numbers" (C8.fnArgs (inClass (top 18) 2)) (C8.fnBody (inClass (top 18) 2)) (C8.fnScope (inClass (top 18) 2)) .none kV_WeightRule_need_numbers dc_WeightRule_need_numbers pm_WeightRule_need_numbers an_WeightRule_need_numbers cd_WeightRule_need_numbers ct_WeightRule_need_numbers), sl_WeightRule_need_numbers⟩)
    (y250 : PySem.W.codeIn K cd_WeightRule_need_numbers "WeightRule.need_numbers" = true)
    (y251 : PySem.W.keepIn K (.ref f_WeightRule_need_numbers) = true)
    (y252 : PySem.W.typeIn K (.ref p_WeightRule_need_numbers) = some (.type "staticmethod"))
    (y253 : PySem.W.specialIn K (.ref p_WeightRule_need_numbers) "__get__" = some (some (.builtin "staticmethod.__get__")))
    (y254 : PySem.W.takesIn K (.ref p_WeightRule_need_numbers) = some false)
    (y255 : PySem.W.findIn K (.ref C_WeightRule) "beside" = some (some (.ref f_WeightRule_beside)))
    (y256 : K.lookup f_WeightRule_beside = some ⟨oc_WeightRule_beside, od_WeightRule_beside, .func (PySem.W.fnOf "beside" "WeightRule.beside" (C8.fnArgs (inClass (top 18) 4)) (C8.fnBody (inClass (top 18) 4)) (C8.fnScope (inClass (top 18) 4)) .none kV_WeightRule_beside dc_WeightRule_beside pm_WeightRule_beside an_WeightRule_beside cd_WeightRule_beside ct_WeightRule_beside), sl_WeightRule_beside⟩)
    (y257 : PySem.W.codeIn K cd_WeightRule_beside "WeightRule.beside" = true)
    (y258 : PySem.W.keepIn K (.ref f_WeightRule_beside) = true)
    (y259 : PySem.W.isFn K (.ref f_WeightRule_beside) = true)
    (y260 : PySem.W.findIn K (.ref C_WeightRule) "__init__" = some (some (.ref f_WeightRule_init)))
    (y261 : K.lookup f_WeightRule_init = some ⟨oc_WeightRule_init, od_WeightRule_init, .func (PySem.W.fnOf "__init__" "WeightRule.__init__" (C8.fnArgs (inClass (top 18) 1)) (C8.fnBody (inClass (top 18) 1)) (C8.fnScope (inClass (top 18) 1)) .none kV_WeightRule_init dc_WeightRule_init pm_WeightRule_init an_WeightRule_init cd_WeightRule_init ct_WeightRule_init), sl_WeightRule_init⟩)
    (y262 : PySem.W.codeIn K cd_WeightRule_init "WeightRule.__init__" = true)
    (y263 : PySem.W.keepIn K (.ref f_WeightRule_init) = true)
    (y264 : PySem.W.isFn K (.ref f_WeightRule_init) = true)
    (y265 : PySem.W.findIn K (.ref C_TurnRule) "__init__" = some (some (.ref f_TurnRule_init)))
    (y266 : K.lookup f_TurnRule_init = some ⟨oc_TurnRule_init, od_TurnRule_init, .func (PySem.W.ksFn "__init__" "TurnRule.__init__" (C8.fnArgs (inClass (top 19) 0)) (C8.fnBody (inClass (top 19) 0)) (C8.fnScope (inClass (top 19) 0)) (.ref DT_TurnRule_init) (.ref DK_TurnRule_init) dc_TurnRule_init pm_TurnRule_init an_TurnRule_init (.ref ca_TurnRule_init) ct_TurnRule_init cc_TurnRule_init), sl_TurnRule_init⟩)
    (y267 : PySem.W.codeIn K (.ref ca_TurnRule_init) "TurnRule.__init__" = true)
    (y268 : PySem.W.keepIn K (.ref f_TurnRule_init) = true)
    (y269 : PySem.W.isFn K (.ref f_TurnRule_init) = true)
    (y270 : K.lookup ca_TurnRule_init = some ⟨ccl_TurnRule_init, cdd_TurnRule_init, .fields cvs_TurnRule_init, ccs_TurnRule_init⟩)
    (y271 : cvs_TurnRule_init[2]? = some (.str fl_TurnRule_init tf_TurnRule_init))
    (y272 : ((l.prog.main.file : Str) == fl_TurnRule_init) = true)
    (y273 : K.lookup cc_TurnRule_init = some ⟨cl_TurnRule_init, cld_TurnRule_init, .cell (some (.ref C_TurnRule)), csl_TurnRule_init⟩)
    (y274 : PySem.W.clsIn K C_TurnRule = some cdD_TurnRule_init)
    (y275 : PySem.W.findIn K (.ref C_TryRule) "__init__" = some (some (.ref f_TryRule_init)))
    (y276 : K.lookup f_TryRule_init = some ⟨oc_TryRule_init, od_TryRule_init, .func (PySem.W.ksFn "__init__" "TryRule.__init__" (C8.fnArgs (inClass (top 20) 0)) (C8.fnBody (inClass (top 20) 0)) (C8.fnScope (inClass (top 20) 0)) (.ref DT_TryRule_init) kV_TryRule_init dc_TryRule_init pm_TryRule_init an_TryRule_init (.ref ca_TryRule_init) ct_TryRule_init cc_TryRule_init), sl_TryRule_init⟩)
    (y277 : PySem.W.codeIn K (.ref ca_TryRule_init) "TryRule.__init__" = true)
    (y278 : PySem.W.keepIn K (.ref f_TryRule_init) = true)
    (y279 : PySem.W.isFn K (.ref f_TryRule_init) = true)
    (y280 : K.lookup ca_TryRule_init = some ⟨ccl_TryRule_init, cdd_TryRule_init, .fields cvs_TryRule_init, ccs_TryRule_init⟩)
    (y281 : cvs_TryRule_init[2]? = some (.str fl_TryRule_init tf_TryRule_init))
    (y282 : ((l.prog.main.file : Str) == fl_TryRule_init) = true)
    (y283 : K.lookup cc_TryRule_init = some ⟨cl_TryRule_init, cld_TryRule_init, .cell (some (.ref C_TryRule)), csl_TryRule_init⟩)
    (y284 : PySem.W.clsIn K C_TryRule = some cdD_TryRule_init)
    (y285 : PySem.W.nsIn K mainGlobals "_law_rule" = some (some (.ref f_law_rule)))
    (y286 : K.lookup f_law_rule = some ⟨oc_law_rule, od_law_rule, .func (PySem.W.fnOf "_law_rule" "_law_rule" (C8.fnArgs (top 51)) (C8.fnBody (top 51)) (C8.fnScope (top 51)) .none kV_law_rule dc_law_rule pm_law_rule an_law_rule cd_law_rule ct_law_rule), sl_law_rule⟩)
    (y287 : PySem.W.codeIn K cd_law_rule "_law_rule" = true)
    (y288 : PySem.W.keepIn K (.ref f_law_rule) = true)
    (y289 : PySem.W.nsIn K mainGlobals "need_number" = some (some (.ref f_need_number)))
    (y290 : K.lookup f_need_number = some ⟨oc_need_number, od_need_number, .func (PySem.W.fnOf "need_number" "need_number" (C8.fnArgs (top 30)) (C8.fnBody (top 30)) (C8.fnScope (top 30)) .none kV_need_number dc_need_number pm_need_number an_need_number cd_need_number ct_need_number), sl_need_number⟩)
    (y291 : PySem.W.codeIn K cd_need_number "need_number" = true)
    (y292 : PySem.W.keepIn K (.ref f_need_number) = true)
    (y293 : PySem.W.nsIn K mainGlobals "halves_of" = some (some (.ref f_halves_of)))
    (y294 : K.lookup f_halves_of = some ⟨oc_halves_of, od_halves_of, .func (PySem.W.fnOf "halves_of" "halves_of" (C8.fnArgs (top 35)) (C8.fnBody (top 35)) (C8.fnScope (top 35)) .none kV_halves_of dc_halves_of pm_halves_of an_halves_of cd_halves_of ct_halves_of), sl_halves_of⟩)
    (y295 : PySem.W.codeIn K cd_halves_of "halves_of" = true)
    (y296 : PySem.W.keepIn K (.ref f_halves_of) = true)
    (y297 : PySem.W.nsIn K mainGlobals "halves_shape" = some (some (.ref f_halves_shape)))
    (y298 : K.lookup f_halves_shape = some ⟨oc_halves_shape, od_halves_shape, .func (PySem.W.fnOf "halves_shape" "halves_shape" (C8.fnArgs (top 37)) (C8.fnBody (top 37)) (C8.fnScope (top 37)) .none kV_halves_shape dc_halves_shape pm_halves_shape an_halves_shape cd_halves_shape ct_halves_shape), sl_halves_shape⟩)
    (y299 : PySem.W.codeIn K cd_halves_shape "halves_shape" = true)
    (y300 : PySem.W.keepIn K (.ref f_halves_shape) = true)
    (y301 : PySem.W.nsIn K mainGlobals "need_weight_rule" = some (some (.ref f_need_weight_rule)))
    (y302 : K.lookup f_need_weight_rule = some ⟨oc_need_weight_rule, od_need_weight_rule, .func (PySem.W.fnOf "need_weight_rule" "need_weight_rule" (C8.fnArgs (top 26)) (C8.fnBody (top 26)) (C8.fnScope (top 26)) .none kV_need_weight_rule dc_need_weight_rule pm_need_weight_rule an_need_weight_rule cd_need_weight_rule ct_need_weight_rule), sl_need_weight_rule⟩)
    (y303 : PySem.W.codeIn K cd_need_weight_rule "need_weight_rule" = true)
    (y304 : PySem.W.keepIn K (.ref f_need_weight_rule) = true)
    (y305 : PySem.W.nsIn K mainGlobals "higher" = some (some (.ref f_higher)))
    (y306 : K.lookup f_higher = some ⟨oc_higher, od_higher, .func (PySem.W.fnOf "higher" "higher" (C8.fnArgs (top 31)) (C8.fnBody (top 31)) (C8.fnScope (top 31)) .none kV_higher dc_higher pm_higher an_higher cd_higher ct_higher), sl_higher⟩)
    (y307 : PySem.W.codeIn K cd_higher "higher" = true)
    (y308 : PySem.W.keepIn K (.ref f_higher) = true)
    (y309 : PySem.W.nsIn K mainGlobals "highest" = some (some (.ref f_highest)))
    (y310 : K.lookup f_highest = some ⟨oc_highest, od_highest, .func (PySem.W.fnOf "highest" "highest" (C8.fnArgs (top 32)) (C8.fnBody (top 32)) (C8.fnScope (top 32)) .none kV_highest dc_highest pm_highest an_highest cd_highest ct_highest), sl_highest⟩)
    (y311 : PySem.W.codeIn K cd_highest "highest" = true)
    (y312 : PySem.W.keepIn K (.ref f_highest) = true)
    (y313 : PySem.W.nsIn K mainGlobals "tall_of" = some (some (.ref f_tall_of)))
    (y314 : K.lookup f_tall_of = some ⟨oc_tall_of, od_tall_of, .func (PySem.W.fnOf "tall_of" "tall_of" (C8.fnArgs (top 36)) (C8.fnBody (top 36)) (C8.fnScope (top 36)) .none kV_tall_of dc_tall_of pm_tall_of an_tall_of cd_tall_of ct_tall_of), sl_tall_of⟩)
    (y315 : PySem.W.codeIn K cd_tall_of "tall_of" = true)
    (y316 : PySem.W.keepIn K (.ref f_tall_of) = true)
    (y317 : PySem.W.nsIn K mainGlobals "tall_shape" = some (some (.ref f_tall_shape)))
    (y318 : K.lookup f_tall_shape = some ⟨oc_tall_shape, od_tall_shape, .func (PySem.W.fnOf "tall_shape" "tall_shape" (C8.fnArgs (top 38)) (C8.fnBody (top 38)) (C8.fnScope (top 38)) .none kV_tall_shape dc_tall_shape pm_tall_shape an_tall_shape cd_tall_shape ct_tall_shape), sl_tall_shape⟩)
    (y319 : PySem.W.codeIn K cd_tall_shape "tall_shape" = true)
    (y320 : PySem.W.keepIn K (.ref f_tall_shape) = true)
    (y321 : PySem.W.nsIn K mainGlobals "_law_top" = some (some (.ref f_law_top)))
    (y322 : K.lookup f_law_top = some ⟨oc_law_top, od_law_top, .func (PySem.W.fnOf "_law_top" "_law_top" (C8.fnArgs (top 52)) (C8.fnBody (top 52)) (C8.fnScope (top 52)) .none kV_law_top dc_law_top pm_law_top an_law_top cd_law_top ct_law_top), sl_law_top⟩)
    (y323 : PySem.W.codeIn K cd_law_top "_law_top" = true)
    (y324 : PySem.W.keepIn K (.ref f_law_top) = true)
    (y325 : PySem.W.nsIn K mainGlobals "_law_least" = some (some (.ref f_law_least)))
    (y326 : K.lookup f_law_least = some ⟨oc_law_least, od_law_least, .func (PySem.W.fnOf "_law_least" "_law_least" (C8.fnArgs (top 53)) (C8.fnBody (top 53)) (C8.fnScope (top 53)) .none kV_law_least dc_law_least pm_law_least an_law_least cd_law_least ct_law_least), sl_law_least⟩)
    (y327 : PySem.W.codeIn K cd_law_least "_law_least" = true)
    (y328 : PySem.W.keepIn K (.ref f_law_least) = true)
    (y329 : PySem.W.nsIn K mainGlobals "_law_halves" = some (some (.ref f_law_halves)))
    (y330 : K.lookup f_law_halves = some ⟨oc_law_halves, od_law_halves, .func (PySem.W.fnOf "_law_halves" "_law_halves" (C8.fnArgs (top 54)) (C8.fnBody (top 54)) (C8.fnScope (top 54)) .none kV_law_halves dc_law_halves pm_law_halves an_law_halves cd_law_halves ct_law_halves), sl_law_halves⟩)
    (y331 : PySem.W.codeIn K cd_law_halves "_law_halves" = true)
    (y332 : PySem.W.keepIn K (.ref f_law_halves) = true)
    (y333 : PySem.W.nsIn K mainGlobals "_law_tall" = some (some (.ref f_law_tall)))
    (y334 : K.lookup f_law_tall = some ⟨oc_law_tall, od_law_tall, .func (PySem.W.fnOf "_law_tall" "_law_tall" (C8.fnArgs (top 55)) (C8.fnBody (top 55)) (C8.fnScope (top 55)) .none kV_law_tall dc_law_tall pm_law_tall an_law_tall cd_law_tall ct_law_tall), sl_law_tall⟩)
    (y335 : PySem.W.codeIn K cd_law_tall "_law_tall" = true)
    (y336 : PySem.W.keepIn K (.ref f_law_tall) = true)
    (y337 : PySem.W.nsIn K mainGlobals "is_pair" = some (some (.ref f_is_pair)))
    (y338 : K.lookup f_is_pair = some ⟨oc_is_pair, od_is_pair, .func (PySem.W.fnOf "is_pair" "is_pair" (C8.fnArgs (top 39)) (C8.fnBody (top 39)) (C8.fnScope (top 39)) .none kV_is_pair dc_is_pair pm_is_pair an_is_pair cd_is_pair ct_is_pair), sl_is_pair⟩)
    (y339 : PySem.W.codeIn K cd_is_pair "is_pair" = true)
    (y340 : PySem.W.keepIn K (.ref f_is_pair) = true)
    (y341 : PySem.W.findIn K (.ref C_WeightRule) "is_fair" = some (some (.ref f_WeightRule_is_fair)))
    (y342 : K.lookup f_WeightRule_is_fair = some ⟨oc_WeightRule_is_fair, od_WeightRule_is_fair, .func (PySem.W.fnOf "is_fair" "WeightRule.is_fair" (C8.fnArgs (inClass (top 18) 5)) (C8.fnBody (inClass (top 18) 5)) (C8.fnScope (inClass (top 18) 5)) .none kV_WeightRule_is_fair dc_WeightRule_is_fair pm_WeightRule_is_fair an_WeightRule_is_fair cd_WeightRule_is_fair ct_WeightRule_is_fair), sl_WeightRule_is_fair⟩)
    (y343 : PySem.W.codeIn K cd_WeightRule_is_fair "WeightRule.is_fair" = true)
    (y344 : PySem.W.keepIn K (.ref f_WeightRule_is_fair) = true)
    (y345 : PySem.W.isFn K (.ref f_WeightRule_is_fair) = true)
    (y346 : PySem.W.nsIn K mainGlobals "fair_weight" = some (some (.ref f_fair_weight)))
    (y347 : K.lookup f_fair_weight = some ⟨oc_fair_weight, od_fair_weight, .func (PySem.W.fnOf "fair_weight" "fair_weight" (C8.fnArgs (top 44)) (C8.fnBody (top 44)) (C8.fnScope (top 44)) .none kV_fair_weight dc_fair_weight pm_fair_weight an_fair_weight cd_fair_weight ct_fair_weight), sl_fair_weight⟩)
    (y348 : PySem.W.codeIn K cd_fair_weight "fair_weight" = true)
    (y349 : PySem.W.keepIn K (.ref f_fair_weight) = true)
    (y350 : PySem.W.nsIn K mainGlobals "is_fair" = some (some (.ref f_is_fair)))
    (y351 : K.lookup f_is_fair = some ⟨oc_is_fair, od_is_fair, .func (PySem.W.fnOf "is_fair" "is_fair" (C8.fnArgs (top 45)) (C8.fnBody (top 45)) (C8.fnScope (top 45)) .none kV_is_fair dc_is_fair pm_is_fair an_is_fair cd_is_fair ct_is_fair), sl_is_fair⟩)
    (y352 : PySem.W.codeIn K cd_is_fair "is_fair" = true)
    (y353 : PySem.W.keepIn K (.ref f_is_fair) = true)
    (y354 : PySem.W.nsIn K mainGlobals "measured" = some (some (.ref f_measured)))
    (y355 : K.lookup f_measured = some ⟨oc_measured, od_measured, .func (PySem.W.fnOf "measured" "measured" (C8.fnArgs (top 40)) (C8.fnBody (top 40)) (C8.fnScope (top 40)) .none kV_measured dc_measured pm_measured an_measured cd_measured ct_measured), sl_measured⟩)
    (y356 : PySem.W.codeIn K cd_measured "measured" = true)
    (y357 : PySem.W.keepIn K (.ref f_measured) = true)
    (y358 : PySem.W.nsIn K mainGlobals "needed" = some (some (.ref f_needed)))
    (y359 : K.lookup f_needed = some ⟨oc_needed, od_needed, .func (PySem.W.fnOf "needed" "needed" (C8.fnArgs (top 41)) (C8.fnBody (top 41)) (C8.fnScope (top 41)) .none kV_needed dc_needed pm_needed an_needed cd_needed ct_needed), sl_needed⟩)
    (y360 : PySem.W.codeIn K cd_needed "needed" = true)
    (y361 : PySem.W.keepIn K (.ref f_needed) = true)
    (y362 : PySem.W.nsIn K mainGlobals "keys_of" = some (some (.ref f_keys_of)))
    (y363 : K.lookup f_keys_of = some ⟨oc_keys_of, od_keys_of, .func (PySem.W.fnOf "keys_of" "keys_of" (C8.fnArgs (top 42)) (C8.fnBody (top 42)) (C8.fnScope (top 42)) .none kV_keys_of dc_keys_of pm_keys_of an_keys_of cd_keys_of ct_keys_of), sl_keys_of⟩)
    (y364 : PySem.W.codeIn K cd_keys_of "keys_of" = true)
    (y365 : PySem.W.keepIn K (.ref f_keys_of) = true)
    (y366 : PySem.W.nsIn K mainGlobals "height_of" = some (some (.ref f_height_of)))
    (y367 : K.lookup f_height_of = some ⟨oc_height_of, od_height_of, .func (PySem.W.fnOf "height_of" "height_of" (C8.fnArgs (top 43)) (C8.fnBody (top 43)) (C8.fnScope (top 43)) .none kV_height_of dc_height_of pm_height_of an_height_of cd_height_of ct_height_of), sl_height_of⟩)
    (y368 : PySem.W.codeIn K cd_height_of "height_of" = true)
    (y369 : PySem.W.keepIn K (.ref f_height_of) = true)
    (y370 : PySem.W.nsIn K mainGlobals "least_height" = some (some (.ref f_least_height)))
    (y371 : K.lookup f_least_height = some ⟨oc_least_height, od_least_height, .func (PySem.W.fnOf "least_height" "least_height" (C8.fnArgs (top 34)) (C8.fnBody (top 34)) (C8.fnScope (top 34)) .none kV_least_height dc_least_height pm_least_height an_least_height cd_least_height ct_least_height), sl_least_height⟩)
    (y372 : PySem.W.codeIn K cd_least_height "least_height" = true)
    (y373 : PySem.W.keepIn K (.ref f_least_height) = true)
    (y374 : PySem.W.nsIn K mainGlobals "greatest_height" = some (some (.ref f_greatest_height)))
    (y375 : K.lookup f_greatest_height = some ⟨oc_greatest_height, od_greatest_height, .func (PySem.W.fnOf "greatest_height" "greatest_height" (C8.fnArgs (top 33)) (C8.fnBody (top 33)) (C8.fnScope (top 33)) .none kV_greatest_height dc_greatest_height pm_greatest_height an_greatest_height cd_greatest_height ct_greatest_height), sl_greatest_height⟩)
    (y376 : PySem.W.codeIn K cd_greatest_height "greatest_height" = true)
    (y377 : PySem.W.keepIn K (.ref f_greatest_height) = true)
    (y378 : PySem.W.nsIn K mainGlobals "_law_right" = some (some (.ref f_law_right)))
    (y379 : K.lookup f_law_right = some ⟨oc_law_right, od_law_right, .func (PySem.W.fnOf "_law_right" "_law_right" (C8.fnArgs (top 56)) (C8.fnBody (top 56)) (C8.fnScope (top 56)) .none kV_law_right dc_law_right pm_law_right an_law_right cd_law_right ct_law_right), sl_law_right⟩)
    (y380 : PySem.W.codeIn K cd_law_right "_law_right" = true)
    (y381 : PySem.W.keepIn K (.ref f_law_right) = true)
    (y382 : PySem.W.findIn K (.ref X_BadRule) "__init__" = some (some (.ref f_BadRule_init)))
    (y383 : K.lookup f_BadRule_init = some ⟨oc_BadRule_init, od_BadRule_init, .func (PySem.W.fnOf "__init__" "BadRule.__init__" (C8.fnArgs (inClass (top 2) 0)) (C8.fnBody (inClass (top 2) 0)) (C8.fnScope (inClass (top 2) 0)) .none kV_BadRule_init dc_BadRule_init pm_BadRule_init an_BadRule_init cd_BadRule_init ct_BadRule_init), sl_BadRule_init⟩)
    (y384 : PySem.W.codeIn K cd_BadRule_init "BadRule.__init__" = true)
    (y385 : PySem.W.keepIn K (.ref f_BadRule_init) = true)
    (y386 : PySem.W.isFn K (.ref f_BadRule_init) = true)
    (y387 : PySem.W.findIn K (.ref X_NoHalves) "__init__" = some (some (.ref f_NoHalves_init)))
    (y388 : K.lookup f_NoHalves_init = some ⟨oc_NoHalves_init, od_NoHalves_init, .func (PySem.W.fnOf "__init__" "NoHalves.__init__" (C8.fnArgs (inClass (top 3) 0)) (C8.fnBody (inClass (top 3) 0)) (C8.fnScope (inClass (top 3) 0)) .none kV_NoHalves_init dc_NoHalves_init pm_NoHalves_init an_NoHalves_init cd_NoHalves_init ct_NoHalves_init), sl_NoHalves_init⟩)
    (y389 : PySem.W.codeIn K cd_NoHalves_init "NoHalves.__init__" = true)
    (y390 : PySem.W.keepIn K (.ref f_NoHalves_init) = true)
    (y391 : PySem.W.isFn K (.ref f_NoHalves_init) = true)
    (y392 : PySem.W.findIn K (.ref X_BadNumber) "__init__" = some (some (.ref f_BadNumber_init)))
    (y393 : K.lookup f_BadNumber_init = some ⟨oc_BadNumber_init, od_BadNumber_init, .func (PySem.W.fnOf "__init__" "BadNumber.__init__" (C8.fnArgs (inClass (top 4) 0)) (C8.fnBody (inClass (top 4) 0)) (C8.fnScope (inClass (top 4) 0)) .none kV_BadNumber_init dc_BadNumber_init pm_BadNumber_init an_BadNumber_init cd_BadNumber_init ct_BadNumber_init), sl_BadNumber_init⟩)
    (y394 : PySem.W.codeIn K cd_BadNumber_init "BadNumber.__init__" = true)
    (y395 : PySem.W.keepIn K (.ref f_BadNumber_init) = true)
    (y396 : PySem.W.isFn K (.ref f_BadNumber_init) = true)
    (y397 : PySem.W.findIn K (.ref X_BadOther) "__init__" = some (some (.ref f_BadOther_init)))
    (y398 : K.lookup f_BadOther_init = some ⟨oc_BadOther_init, od_BadOther_init, .func (PySem.W.fnOf "__init__" "BadOther.__init__" (C8.fnArgs (inClass (top 5) 0)) (C8.fnBody (inClass (top 5) 0)) (C8.fnScope (inClass (top 5) 0)) .none kV_BadOther_init dc_BadOther_init pm_BadOther_init an_BadOther_init cd_BadOther_init ct_BadOther_init), sl_BadOther_init⟩)
    (y399 : PySem.W.codeIn K cd_BadOther_init "BadOther.__init__" = true)
    (y400 : PySem.W.keepIn K (.ref f_BadOther_init) = true)
    (y401 : PySem.W.isFn K (.ref f_BadOther_init) = true)
    (y402 : PySem.W.nsIn K mainGlobals "law" = some (some (.ref f_law)))
    (y403 : K.lookup f_law = some ⟨oc_law, od_law, .func (PySem.W.fnOf "law" "law" (C8.fnArgs (top 57)) (C8.fnBody (top 57)) (C8.fnScope (top 57)) .none kV_law dc_law pm_law an_law cd_law ct_law), sl_law⟩)
    (y404 : PySem.W.codeIn K cd_law "law" = true)
    (y405 : PySem.W.keepIn K (.ref f_law) = true)
    (y406 : PySem.W.typeIn K (.ref f_BadRule_init) = some (.type "function"))
    (y407 : PySem.W.findIn K (.ref C_TurnRule) "need_numbers" = some (some (.ref p_WeightRule_need_numbers)))
    (y408 : PySem.W.findIn K (.ref C_TurnRule) "need_numbers" = some (some (.ref p_WeightRule_need_numbers)))
    (y409 : PySem.W.findIn K (.ref C_TryRule) "need_numbers" = some (some (.ref p_WeightRule_need_numbers)))
    (y410 : PySem.W.findIn K (.ref C_TurnRule) "beside" = some (some (.ref f_WeightRule_beside)))
    (y411 : PySem.W.findIn K (.ref C_TryRule) "beside" = some (some (.ref f_WeightRule_beside)))
    (y412 : PySem.W.typeIn K (.ref f_NoHalves_init) = some (.type "function"))
    (y413 : PySem.W.nsIn K mainGlobals "super" = some none)
    (y414 : (l.prog.main.scope.names.lookup ("super" : Str)).isSome = false)
    (y415 : PySem.W.nsIn K cStatics "thirdparty.any" = some none)
    (y416 : PySem.W.ks_superIn K C_TurnRule C_TurnRule "__init__" = some (some (.ref f_WeightRule_init)))
    (y417 : PySem.W.typeIn K (.ref f_WeightRule_init) = some (.type "function"))
    (y418 : PySem.W.fnIn K f_WeightRule_init = true)
    (y419 : PySem.W.makesIn K C_TurnRule = true)
    (y420 : PySem.W.keepIn K (.ref C_TurnRule) = true)
    (y421 : K.lookup DT_TurnRule_init = some ⟨.type "tuple", oT_TurnRule_init, .seq #[.int 0 u_TurnRule_init_0] nT_TurnRule_init, slT_TurnRule_init⟩)
    (y422 : PySem.W.nsIn K DK_TurnRule_init "turn_plus" = some (some (.int 0 u_TurnRule_init_50)))
    (y423 : PySem.W.nsIn K mainGlobals "super" = some none)
    (y424 : (l.prog.main.scope.names.lookup ("super" : Str)).isSome = false)
    (y425 : PySem.W.nsIn K cStatics "thirdparty.any" = some none)
    (y426 : PySem.W.ks_superIn K C_TryRule C_TryRule "__init__" = some (some (.ref f_WeightRule_init)))
    (y427 : PySem.W.typeIn K (.ref f_WeightRule_init) = some (.type "function"))
    (y428 : PySem.W.fnIn K f_WeightRule_init = true)
    (y429 : PySem.W.makesIn K C_TryRule = true)
    (y430 : PySem.W.keepIn K (.ref C_TryRule) = true)
    (y431 : K.lookup DT_TryRule_init = some ⟨.type "tuple", oT_TryRule_init, .seq #[.int 0 u_TryRule_init_0] nT_TryRule_init, slT_TryRule_init⟩)
    (y432 : PySem.W.typeIn K (.ref f_BadNumber_init) = some (.type "function"))
    (y433 : PySem.W.findIn K (.ref C_TryRule) "is_fair" = some (some (.ref f_WeightRule_is_fair)))
    (y434 : PySem.W.findIn K (.ref C_TurnRule) "is_fair" = some (some (.ref f_WeightRule_is_fair)))
    (y435 : PySem.W.typeIn K (.ref f_BadOther_init) = some (.type "function")) :
    Ev.LawT l w K 77 63 "_law_script" mg fa [] := by
  have e : f_law = fa := Value.ref.inj (Option.some.inj ((PySem.W.mg_of X G y402).symm.trans hfa))
  subst e
  have ci_Rule : Ev.CI K C_Rule := ⟨⟨y13, y14, y15, y16⟩, y17, y18, y19, y20, Ev.it_of y21 y22⟩
  have ci_WeightRule : Ev.CI K C_WeightRule := ⟨⟨y24, y25, y26, y27⟩, y28, y29, y30, y31, Ev.it_of y32 y33⟩
  have ci_TurnRule : Ev.CI K C_TurnRule := ⟨⟨y35, y36, y37, y38⟩, y39, y40, y41, y42, Ev.it_of y43 y44⟩
  have ci_TryRule : Ev.CI K C_TryRule := ⟨⟨y46, y47, y48, y49⟩, y50, y51, y52, y53, Ev.it_of y54 y55⟩
  have r13 : ∀ c C, (⟨fun s => List.lookup s ([("Rule", C_Rule), ("WeightRule", C_WeightRule), ("TurnRule", C_TurnRule), ("TryRule", C_TryRule)] : List (Str × Addr)), fun s => List.lookup s ([("BadRule", X_BadRule), ("NoHalves", X_NoHalves), ("BadNumber", X_BadNumber), ("BadOther", X_BadOther), ("BadText", X_BadText)] : List (Str × Addr)), []⟩ : Pu.Md) c = some C → Ev.CI K C ∧ PySem.W.kitOne K (.ref C) (.ref C_Rule) = some (subs c "Rule") := (Pu.cm_cons (⟨ci_Rule, Ev.kit_self.trans (congrArg some s2_Rule_Rule.symm)⟩) (Pu.cm_cons (⟨ci_WeightRule, (Pu.ks_mro ci_Rule y59 y57).trans (congrArg some s2_WeightRule_Rule.symm)⟩) (Pu.cm_cons (⟨ci_TurnRule, (Pu.ks_mro ci_Rule y58 y57).trans (congrArg some s2_TurnRule_Rule.symm)⟩) (Pu.cm_cons (⟨ci_TryRule, (Pu.ks_mro ci_Rule y56 y57).trans (congrArg some s2_TryRule_Rule.symm)⟩) Pu.cm_nil))))
  have r16 : ∀ c C, (⟨fun s => List.lookup s ([("Rule", C_Rule), ("WeightRule", C_WeightRule), ("TurnRule", C_TurnRule), ("TryRule", C_TryRule)] : List (Str × Addr)), fun s => List.lookup s ([("BadRule", X_BadRule), ("NoHalves", X_NoHalves), ("BadNumber", X_BadNumber), ("BadOther", X_BadOther), ("BadText", X_BadText)] : List (Str × Addr)), []⟩ : Pu.Md) c = some C → Ev.CI K C ∧ PySem.W.kitOne K (.ref C) (.ref C_WeightRule) = some (subs c "WeightRule") := (Pu.cm_cons (⟨ci_Rule, (Pu.ks_mro ci_WeightRule y63 y61).trans (congrArg some s2_Rule_WeightRule.symm)⟩) (Pu.cm_cons (⟨ci_WeightRule, Ev.kit_self.trans (congrArg some s2_WeightRule_WeightRule.symm)⟩) (Pu.cm_cons (⟨ci_TurnRule, (Pu.ks_mro ci_WeightRule y62 y61).trans (congrArg some s2_TurnRule_WeightRule.symm)⟩) (Pu.cm_cons (⟨ci_TryRule, (Pu.ks_mro ci_WeightRule y60 y61).trans (congrArg some s2_TryRule_WeightRule.symm)⟩) Pu.cm_nil))))
  have r19 : ∀ c C, (⟨fun s => List.lookup s ([("Rule", C_Rule), ("WeightRule", C_WeightRule), ("TurnRule", C_TurnRule), ("TryRule", C_TryRule)] : List (Str × Addr)), fun s => List.lookup s ([("BadRule", X_BadRule), ("NoHalves", X_NoHalves), ("BadNumber", X_BadNumber), ("BadOther", X_BadOther), ("BadText", X_BadText)] : List (Str × Addr)), []⟩ : Pu.Md) c = some C → Ev.CI K C ∧ PySem.W.kitOne K (.ref C) (.ref C_TurnRule) = some (subs c "TurnRule") := (Pu.cm_cons (⟨ci_Rule, (Pu.ks_mro ci_TurnRule y67 y65).trans (congrArg some s2_Rule_TurnRule.symm)⟩) (Pu.cm_cons (⟨ci_WeightRule, (Pu.ks_mro ci_TurnRule y66 y65).trans (congrArg some s2_WeightRule_TurnRule.symm)⟩) (Pu.cm_cons (⟨ci_TurnRule, Ev.kit_self.trans (congrArg some s2_TurnRule_TurnRule.symm)⟩) (Pu.cm_cons (⟨ci_TryRule, (Pu.ks_mro ci_TurnRule y64 y65).trans (congrArg some s2_TryRule_TurnRule.symm)⟩) Pu.cm_nil))))
  have r20 : ∀ d D, (⟨fun s => List.lookup s ([("Rule", C_Rule), ("WeightRule", C_WeightRule), ("TurnRule", C_TurnRule), ("TryRule", C_TryRule)] : List (Str × Addr)), fun s => List.lookup s ([("BadRule", X_BadRule), ("NoHalves", X_NoHalves), ("BadNumber", X_BadNumber), ("BadOther", X_BadOther), ("BadText", X_BadText)] : List (Str × Addr)), []⟩ : Pu.Md) d = some D → Ev.CI K D ∧ PySem.W.notFirst K C_TurnRule (.ref D) = true := (Pu.cm_cons (⟨ci_Rule, Ev.nf_own y67⟩) (Pu.cm_cons (⟨ci_WeightRule, Ev.nf_own y66⟩) (Pu.cm_cons (⟨ci_TurnRule, Ev.nf_self⟩) (Pu.cm_cons (⟨ci_TryRule, Ev.nf_own y64⟩) Pu.cm_nil))))
  have r21 : Ev.NeO K C_TurnRule := ⟨y68, y42⟩
  have r24 : ∀ c C, (⟨fun s => List.lookup s ([("Rule", C_Rule), ("WeightRule", C_WeightRule), ("TurnRule", C_TurnRule), ("TryRule", C_TryRule)] : List (Str × Addr)), fun s => List.lookup s ([("BadRule", X_BadRule), ("NoHalves", X_NoHalves), ("BadNumber", X_BadNumber), ("BadOther", X_BadOther), ("BadText", X_BadText)] : List (Str × Addr)), []⟩ : Pu.Md) c = some C → Ev.CI K C ∧ PySem.W.kitOne K (.ref C) (.ref C_TryRule) = some (subs c "TryRule") := (Pu.cm_cons (⟨ci_Rule, (Pu.ks_mro ci_TryRule y72 y70).trans (congrArg some s2_Rule_TryRule.symm)⟩) (Pu.cm_cons (⟨ci_WeightRule, (Pu.ks_mro ci_TryRule y71 y70).trans (congrArg some s2_WeightRule_TryRule.symm)⟩) (Pu.cm_cons (⟨ci_TurnRule, (Pu.ks_mro ci_TryRule y69 y70).trans (congrArg some s2_TurnRule_TryRule.symm)⟩) (Pu.cm_cons (⟨ci_TryRule, Ev.kit_self.trans (congrArg some s2_TryRule_TryRule.symm)⟩) Pu.cm_nil))))
  have r25 : ∀ d D, (⟨fun s => List.lookup s ([("Rule", C_Rule), ("WeightRule", C_WeightRule), ("TurnRule", C_TurnRule), ("TryRule", C_TryRule)] : List (Str × Addr)), fun s => List.lookup s ([("BadRule", X_BadRule), ("NoHalves", X_NoHalves), ("BadNumber", X_BadNumber), ("BadOther", X_BadOther), ("BadText", X_BadText)] : List (Str × Addr)), []⟩ : Pu.Md) d = some D → Ev.CI K D ∧ PySem.W.notFirst K C_TryRule (.ref D) = true := (Pu.cm_cons (⟨ci_Rule, Ev.nf_own y72⟩) (Pu.cm_cons (⟨ci_WeightRule, Ev.nf_own y71⟩) (Pu.cm_cons (⟨ci_TurnRule, Ev.nf_own y69⟩) (Pu.cm_cons (⟨ci_TryRule, Ev.nf_self⟩) Pu.cm_nil))))
  have r26 : Ev.NeO K C_TryRule := ⟨y73, y53⟩
  have r27 : ∀ c C, (⟨fun s => List.lookup s ([("Rule", C_Rule), ("WeightRule", C_WeightRule), ("TurnRule", C_TurnRule), ("TryRule", C_TryRule)] : List (Str × Addr)), fun s => List.lookup s ([("BadRule", X_BadRule), ("NoHalves", X_NoHalves), ("BadNumber", X_BadNumber), ("BadOther", X_BadOther), ("BadText", X_BadText)] : List (Str × Addr)), []⟩ : Pu.Md) c = some C → Ev.CI K C ∧ ∀ T ∈ Pu.BTys, PySem.W.kitOne K (.ref C) (.type T) = some false := (Pu.cm_cons (⟨ci_Rule, Pu.kt_of y74 y75 y76 y77 y78 y79 y80⟩) (Pu.cm_cons (⟨ci_WeightRule, Pu.kt_of y81 y82 y83 y84 y85 y86 y87⟩) (Pu.cm_cons (⟨ci_TurnRule, Pu.kt_of y88 y89 y90 y91 y92 y93 y94⟩) (Pu.cm_cons (⟨ci_TryRule, Pu.kt_of y95 y96 y97 y98 y99 y100 y101⟩) Pu.cm_nil))))
  have r28 : ∀ c C, (⟨fun s => List.lookup s ([("Rule", C_Rule), ("WeightRule", C_WeightRule), ("TurnRule", C_TurnRule), ("TryRule", C_TryRule)] : List (Str × Addr)), fun s => List.lookup s ([("BadRule", X_BadRule), ("NoHalves", X_NoHalves), ("BadNumber", X_BadNumber), ("BadOther", X_BadOther), ("BadText", X_BadText)] : List (Str × Addr)), []⟩ : Pu.Md) c = some C → Cls K C ∧ NoAttr K C "turn" := (Pu.cm_cons (⟨ci_Rule.cl, y105⟩) (Pu.cm_cons (⟨ci_WeightRule.cl, y104⟩) (Pu.cm_cons (⟨ci_TurnRule.cl, y103⟩) (Pu.cm_cons (⟨ci_TryRule.cl, y102⟩) Pu.cm_nil))))
  have r29 : ∀ c C, (⟨fun s => List.lookup s ([("Rule", C_Rule), ("WeightRule", C_WeightRule), ("TurnRule", C_TurnRule), ("TryRule", C_TryRule)] : List (Str × Addr)), fun s => List.lookup s ([("BadRule", X_BadRule), ("NoHalves", X_NoHalves), ("BadNumber", X_BadNumber), ("BadOther", X_BadOther), ("BadText", X_BadText)] : List (Str × Addr)), []⟩ : Pu.Md) c = some C → Cls K C ∧ NoAttr K C "turn_plus" := (Pu.cm_cons (⟨ci_Rule.cl, y109⟩) (Pu.cm_cons (⟨ci_WeightRule.cl, y108⟩) (Pu.cm_cons (⟨ci_TurnRule.cl, y107⟩) (Pu.cm_cons (⟨ci_TryRule.cl, y106⟩) Pu.cm_nil))))
  have r30 : ∀ c C, (⟨fun s => List.lookup s ([("Rule", C_Rule), ("WeightRule", C_WeightRule), ("TurnRule", C_TurnRule), ("TryRule", C_TryRule)] : List (Str × Addr)), fun s => List.lookup s ([("BadRule", X_BadRule), ("NoHalves", X_NoHalves), ("BadNumber", X_BadNumber), ("BadOther", X_BadOther), ("BadText", X_BadText)] : List (Str × Addr)), []⟩ : Pu.Md) c = some C → Cls K C ∧ NoAttr K C "times" := (Pu.cm_cons (⟨ci_Rule.cl, y113⟩) (Pu.cm_cons (⟨ci_WeightRule.cl, y112⟩) (Pu.cm_cons (⟨ci_TurnRule.cl, y111⟩) (Pu.cm_cons (⟨ci_TryRule.cl, y110⟩) Pu.cm_nil))))
  have r31 : ∀ c C, (⟨fun s => List.lookup s ([("Rule", C_Rule), ("WeightRule", C_WeightRule), ("TurnRule", C_TurnRule), ("TryRule", C_TryRule)] : List (Str × Addr)), fun s => List.lookup s ([("BadRule", X_BadRule), ("NoHalves", X_NoHalves), ("BadNumber", X_BadNumber), ("BadOther", X_BadOther), ("BadText", X_BadText)] : List (Str × Addr)), []⟩ : Pu.Md) c = some C → Cls K C ∧ NoAttr K C "plus" := (Pu.cm_cons (⟨ci_Rule.cl, y117⟩) (Pu.cm_cons (⟨ci_WeightRule.cl, y116⟩) (Pu.cm_cons (⟨ci_TurnRule.cl, y115⟩) (Pu.cm_cons (⟨ci_TryRule.cl, y114⟩) Pu.cm_nil))))
  have r32 : ∃ t, mg "MOST_PLUS" = some (.int (6) t) := ⟨_, PySem.W.mg_of X G y118⟩
  have r33 : ∃ t, mg "MOST_TURN" = some (.int (8) t) := ⟨_, PySem.W.mg_of X G y119⟩
  have r34 : ∃ t, mg "MOST_WEIGHT" = some (.int (1000000000000000000000000000000000000000000000000000000000000) t) := ⟨_, PySem.W.mg_of X G y120⟩
  have r35 : ∃ t, mg "MOST_KEYS" = some (.int (1000000000000000000000000000000) t) := ⟨_, PySem.W.mg_of X G y121⟩
  have r36 : ∃ t, mg "MOST_SHAPED" = some (.int (2000) t) := ⟨_, PySem.W.mg_of X G y122⟩
  have r37 : ∃ mc u, ClX.CRead K C_WeightRule mc ∧ ClX.CVal K C_WeightRule mc "MOST" (.int (6)) u := ⟨_, _, ⟨y123, y124⟩, ⟨y125, ⟨_, rfl⟩⟩⟩
  have r45 : OexC K X_BadRule := ⟨⟨_, _, _, _, _, _, _, _, _, _, _, _, _, _, _, y150, y151⟩, y153, y127, y129, y152⟩
  have r47 : OexC K X_NoHalves := ⟨⟨_, _, _, _, _, _, _, _, _, _, _, _, _, _, _, y154, y155⟩, y157, y131, y133, y156⟩
  have r49 : OexC K X_BadNumber := ⟨⟨_, _, _, _, _, _, _, _, _, _, _, _, _, _, _, y158, y159⟩, y161, y135, y137, y160⟩
  have r51 : OexC K X_BadOther := ⟨⟨_, _, _, _, _, _, _, _, _, _, _, _, _, _, _, y162, y163⟩, y165, y139, y141, y164⟩
  have r53 : OexC K X_BadText := ⟨⟨_, _, _, _, _, _, _, _, _, _, _, _, _, _, _, y166, y167⟩, y169, y143, y145, y168⟩
  have r54 : ∀ c C, (⟨fun s => List.lookup s ([("Rule", C_Rule), ("WeightRule", C_WeightRule), ("TurnRule", C_TurnRule), ("TryRule", C_TryRule)] : List (Str × Addr)), fun s => List.lookup s ([("BadRule", X_BadRule), ("NoHalves", X_NoHalves), ("BadNumber", X_BadNumber), ("BadOther", X_BadOther), ("BadText", X_BadText)] : List (Str × Addr)), []⟩ : Pu.Md).cx c = some C → ExcC K C := (Pu.cm_cons (⟨y194, y195, y127, y128, y196, y197, y198, y199⟩) (Pu.cm_cons (⟨y188, y189, y131, y132, y190, y191, y192, y193⟩) (Pu.cm_cons (⟨y182, y183, y135, y136, y184, y185, y186, y187⟩) (Pu.cm_cons (⟨y176, y177, y139, y140, y178, y179, y180, y181⟩) (Pu.cm_cons (⟨y170, y171, y143, y144, y172, y173, y174, y175⟩) Pu.cm_nil)))))
  have r55 : ∀ c C, (⟨fun s => List.lookup s ([("Rule", C_Rule), ("WeightRule", C_WeightRule), ("TurnRule", C_TurnRule), ("TryRule", C_TryRule)] : List (Str × Addr)), fun s => List.lookup s ([("BadRule", X_BadRule), ("NoHalves", X_NoHalves), ("BadNumber", X_BadNumber), ("BadOther", X_BadOther), ("BadText", X_BadText)] : List (Str × Addr)), []⟩ : Pu.Md).cx c = some C → PySem.W.findIn K (.ref C) "part" = some none := (Pu.cm_cons (y204) (Pu.cm_cons (y203) (Pu.cm_cons (y202) (Pu.cm_cons (y201) (Pu.cm_cons (y200) Pu.cm_nil)))))
  have r56 : ∀ c C, (⟨fun s => List.lookup s ([("Rule", C_Rule), ("WeightRule", C_WeightRule), ("TurnRule", C_TurnRule), ("TryRule", C_TryRule)] : List (Str × Addr)), fun s => List.lookup s ([("BadRule", X_BadRule), ("NoHalves", X_NoHalves), ("BadNumber", X_BadNumber), ("BadOther", X_BadOther), ("BadText", X_BadText)] : List (Str × Addr)), []⟩ : Pu.Md).cx c = some C → PySem.W.findIn K (.ref C) "value" = some none := (Pu.cm_cons (y209) (Pu.cm_cons (y208) (Pu.cm_cons (y207) (Pu.cm_cons (y206) (Pu.cm_cons (y205) Pu.cm_nil)))))
  have r57 : ∀ c C, (⟨fun s => List.lookup s ([("Rule", C_Rule), ("WeightRule", C_WeightRule), ("TurnRule", C_TurnRule), ("TryRule", C_TryRule)] : List (Str × Addr)), fun s => List.lookup s ([("BadRule", X_BadRule), ("NoHalves", X_NoHalves), ("BadNumber", X_BadNumber), ("BadOther", X_BadOther), ("BadText", X_BadText)] : List (Str × Addr)), []⟩ : Pu.Md).cx c = some C → PySem.W.findIn K (.ref C) "weight" = some none := (Pu.cm_cons (y214) (Pu.cm_cons (y213) (Pu.cm_cons (y212) (Pu.cm_cons (y211) (Pu.cm_cons (y210) Pu.cm_nil)))))
  obtain ⟨cm, hT, T⟩ : ∃ cm : Pu.Md, cm.T = [] ∧ Tx K mg cm C_Rule C_WeightRule C_TurnRule C_TryRule X_BadRule X_NoHalves X_BadNumber X_BadOther X_BadText X_FairError := ⟨(⟨fun s => List.lookup s ([("Rule", C_Rule), ("WeightRule", C_WeightRule), ("TurnRule", C_TurnRule), ("TryRule", C_TryRule)] : List (Str × Addr)), fun s => List.lookup s ([("BadRule", X_BadRule), ("NoHalves", X_NoHalves), ("BadNumber", X_BadNumber), ("BadOther", X_BadOther), ("BadText", X_BadText)] : List (Str × Addr)), []⟩ : Pu.Md), rfl, ⟨PySem.W.mg_none_of X G y1, PySem.W.mg_none_of X G y2, PySem.W.mg_none_of X G y3, PySem.W.mg_none_of X G y4, PySem.W.mg_none_of X G y5, PySem.W.mg_none_of X G y6, PySem.W.mg_none_of X G y7, PySem.W.mg_none_of X G y8, PySem.W.mg_none_of X G y9, PySem.W.mg_none_of X G y10, PySem.W.mg_none_of X G y11, PySem.W.mg_of X G y12, rfl, r13, PySem.W.mg_of X G y23, rfl, r16, PySem.W.mg_of X G y34, rfl, r19, r20, r21, PySem.W.mg_of X G y45, rfl, r24, r25, r26, r27, r28, r29, r30, r31, r32, r33, r34, r35, r36, r37, PySem.W.mg_of X G y126, PySem.W.mg_of X G y130, PySem.W.mg_of X G y134, PySem.W.mg_of X G y138, PySem.W.mg_of X G y142, PySem.W.mg_of X G y146, rfl, r45, rfl, r47, rfl, r49, rfl, r51, rfl, r53, r54, r55, r56, r57⟩⟩
  have F_draw : Ev.Fn K "_law_draw" "_law_draw" (top 48) f_draw (PySem.W.fnOf "_law_draw" "_law_draw" (C8.fnArgs (top 48)) (C8.fnBody (top 48)) (C8.fnScope (top 48)) .none kV_draw dc_draw pm_draw an_draw cd_draw ct_draw) := ⟨⟨_, _, _, _, _, _, _, _, _, _, rfl, y216, y217⟩⟩
  have b_draw : Binds K (PySem.W.fnOf "_law_draw" "_law_draw" (C8.fnArgs (top 48)) (C8.fnBody (top 48)) (C8.fnScope (top 48)) .none kV_draw dc_draw pm_draw an_draw cd_draw ct_draw) ["_law_pen_here", "_law_many"] [] := Binds.all fun us hl => match us, hl with | [_, _], _ => rfl
  have F_pen : Ev.Fn K "_law_pen" "_law_pen" (top 47) f_pen (PySem.W.fnOf "_law_pen" "_law_pen" (C8.fnArgs (top 47)) (C8.fnBody (top 47)) (C8.fnScope (top 47)) .none kV_pen dc_pen pm_pen an_pen cd_pen ct_pen) := ⟨⟨_, _, _, _, _, _, _, _, _, _, rfl, y220, y221⟩⟩
  have b_pen : Binds K (PySem.W.fnOf "_law_pen" "_law_pen" (C8.fnArgs (top 47)) (C8.fnBody (top 47)) (C8.fnScope (top 47)) .none kV_pen dc_pen pm_pen an_pen cd_pen ct_pen) ["_law_script"] [] := Binds.all fun us hl => match us, hl with | [_], _ => rfl
  have F_law_pick : Ev.Fn K "_law_pick" "_law_pick" (top 49) f_law_pick (PySem.W.fnOf "_law_pick" "_law_pick" (C8.fnArgs (top 49)) (C8.fnBody (top 49)) (C8.fnScope (top 49)) .none kV_law_pick dc_law_pick pm_law_pick an_law_pick cd_law_pick ct_law_pick) := ⟨⟨_, _, _, _, _, _, _, _, _, _, rfl, y224, y225⟩⟩
  have b_law_pick : Binds K (PySem.W.fnOf "_law_pick" "_law_pick" (C8.fnArgs (top 49)) (C8.fnBody (top 49)) (C8.fnScope (top 49)) .none kV_law_pick dc_law_pick pm_law_pick an_law_pick cd_law_pick ct_law_pick) ["_law_pen_here", "_law_some"] [] := Binds.all fun us hl => match us, hl with | [_, _], _ => rfl
  have F_law_numbers : Ev.Fn K "_law_numbers" "_law_numbers" (top 50) f_law_numbers (PySem.W.fnOf "_law_numbers" "_law_numbers" (C8.fnArgs (top 50)) (C8.fnBody (top 50)) (C8.fnScope (top 50)) .none kV_law_numbers dc_law_numbers pm_law_numbers an_law_numbers cd_law_numbers ct_law_numbers) := ⟨⟨_, _, _, _, _, _, _, _, _, _, rfl, y228, y229⟩⟩
  have b_law_numbers : Binds K (PySem.W.fnOf "_law_numbers" "_law_numbers" (C8.fnArgs (top 50)) (C8.fnBody (top 50)) (C8.fnScope (top 50)) .none kV_law_numbers dc_law_numbers pm_law_numbers an_law_numbers cd_law_numbers ct_law_numbers) ["_law_pen_here"] [] := Binds.all fun us hl => match us, hl with | [_], _ => rfl
  have F_is_integer : Ev.Fn K "is_integer" "is_integer" (top 8) f_is_integer (PySem.W.fnOf "is_integer" "is_integer" (C8.fnArgs (top 8)) (C8.fnBody (top 8)) (C8.fnScope (top 8)) .none kV_is_integer dc_is_integer pm_is_integer an_is_integer cd_is_integer ct_is_integer) := ⟨⟨_, _, _, _, _, _, _, _, _, _, rfl, y232, y233⟩⟩
  have b_is_integer : Binds K (PySem.W.fnOf "is_integer" "is_integer" (C8.fnArgs (top 8)) (C8.fnBody (top 8)) (C8.fnScope (top 8)) .none kV_is_integer dc_is_integer pm_is_integer an_is_integer cd_is_integer ct_is_integer) ["value"] [] := Binds.all fun us hl => match us, hl with | [_], _ => rfl
  have F_is_within : Ev.Fn K "is_within" "is_within" (top 9) f_is_within (PySem.W.fnOf "is_within" "is_within" (C8.fnArgs (top 9)) (C8.fnBody (top 9)) (C8.fnScope (top 9)) .none kV_is_within dc_is_within pm_is_within an_is_within cd_is_within ct_is_within) := ⟨⟨_, _, _, _, _, _, _, _, _, _, rfl, y236, y237⟩⟩
  have b_is_within : Binds K (PySem.W.fnOf "is_within" "is_within" (C8.fnArgs (top 9)) (C8.fnBody (top 9)) (C8.fnScope (top 9)) .none kV_is_within dc_is_within pm_is_within an_is_within cd_is_within ct_is_within) ["value", "least", "most"] [] := Binds.all fun us hl => match us, hl with | [_, _, _], _ => rfl
  have F_is_times : Ev.Fn K "is_times" "is_times" (top 15) f_is_times (PySem.W.fnOf "is_times" "is_times" (C8.fnArgs (top 15)) (C8.fnBody (top 15)) (C8.fnScope (top 15)) .none kV_is_times dc_is_times pm_is_times an_is_times cd_is_times ct_is_times) := ⟨⟨_, _, _, _, _, _, _, _, _, _, rfl, y240, y241⟩⟩
  have b_is_times : Binds K (PySem.W.fnOf "is_times" "is_times" (C8.fnArgs (top 15)) (C8.fnBody (top 15)) (C8.fnScope (top 15)) .none kV_is_times dc_is_times pm_is_times an_is_times cd_is_times ct_is_times) ["value", "most"] [] := Binds.all fun us hl => match us, hl with | [_, _], _ => rfl
  have F_need_plus : Ev.Fn K "need_plus" "need_plus" (top 16) f_need_plus (PySem.W.fnOf "need_plus" "need_plus" (C8.fnArgs (top 16)) (C8.fnBody (top 16)) (C8.fnScope (top 16)) .none kV_need_plus dc_need_plus pm_need_plus an_need_plus cd_need_plus ct_need_plus) := ⟨⟨_, _, _, _, _, _, _, _, _, _, rfl, y244, y245⟩⟩
  have b_need_plus : Binds K (PySem.W.fnOf "need_plus" "need_plus" (C8.fnArgs (top 16)) (C8.fnBody (top 16)) (C8.fnScope (top 16)) .none kV_need_plus dc_need_plus pm_need_plus an_need_plus cd_need_plus ct_need_plus) ["value", "part"] [] := Binds.all fun us hl => match us, hl with | [_, _], _ => rfl
  have F_WeightRule_need_numbers : Ev.Fn K "need_numbers" "WeightRule.need_numbers" (inClass (top 18) 2) f_WeightRule_need_numbers (PySem.W.fnOf "need_numbers" "WeightRule.need_numbers" (C8.fnArgs (inClass (top 18) 2)) (C8.fnBody (inClass (top 18) 2)) (C8.fnScope (inClass (top 18) 2)) .none kV_WeightRule_need_numbers dc_WeightRule_need_numbers pm_WeightRule_need_numbers an_WeightRule_need_numbers cd_WeightRule_need_numbers ct_WeightRule_need_numbers) := ⟨⟨_, _, _, _, _, _, _, _, _, _, rfl, y249, y250⟩⟩
  have b_WeightRule_need_numbers : Binds K (PySem.W.fnOf "need_numbers" "WeightRule.need_numbers" (C8.fnArgs (inClass (top 18) 2)) (C8.fnBody (inClass (top 18) 2)) (C8.fnScope (inClass (top 18) 2)) .none kV_WeightRule_need_numbers dc_WeightRule_need_numbers pm_WeightRule_need_numbers an_WeightRule_need_numbers cd_WeightRule_need_numbers ct_WeightRule_need_numbers) ["times", "plus"] [] := Binds.all fun us hl => match us, hl with | [_, _], _ => rfl
  have F_WeightRule_beside : Ev.Fn K "beside" "WeightRule.beside" (inClass (top 18) 4) f_WeightRule_beside (PySem.W.fnOf "beside" "WeightRule.beside" (C8.fnArgs (inClass (top 18) 4)) (C8.fnBody (inClass (top 18) 4)) (C8.fnScope (inClass (top 18) 4)) .none kV_WeightRule_beside dc_WeightRule_beside pm_WeightRule_beside an_WeightRule_beside cd_WeightRule_beside ct_WeightRule_beside) := ⟨⟨_, _, _, _, _, _, _, _, _, _, rfl, y256, y257⟩⟩
  have b_WeightRule_beside : Binds K (PySem.W.fnOf "beside" "WeightRule.beside" (C8.fnArgs (inClass (top 18) 4)) (C8.fnBody (inClass (top 18) 4)) (C8.fnScope (inClass (top 18) 4)) .none kV_WeightRule_beside dc_WeightRule_beside pm_WeightRule_beside an_WeightRule_beside cd_WeightRule_beside ct_WeightRule_beside) ["self", "weight"] [] := Binds.all fun us hl => match us, hl with | [_, _], _ => rfl
  have F_WeightRule_init : Ev.Fn K "__init__" "WeightRule.__init__" (inClass (top 18) 1) f_WeightRule_init (PySem.W.fnOf "__init__" "WeightRule.__init__" (C8.fnArgs (inClass (top 18) 1)) (C8.fnBody (inClass (top 18) 1)) (C8.fnScope (inClass (top 18) 1)) .none kV_WeightRule_init dc_WeightRule_init pm_WeightRule_init an_WeightRule_init cd_WeightRule_init ct_WeightRule_init) := ⟨⟨_, _, _, _, _, _, _, _, _, _, rfl, y261, y262⟩⟩
  have b_WeightRule_init : Binds K (PySem.W.fnOf "__init__" "WeightRule.__init__" (C8.fnArgs (inClass (top 18) 1)) (C8.fnBody (inClass (top 18) 1)) (C8.fnScope (inClass (top 18) 1)) .none kV_WeightRule_init dc_WeightRule_init pm_WeightRule_init an_WeightRule_init cd_WeightRule_init ct_WeightRule_init) ["self", "times", "plus"] [] := Binds.all fun us hl => match us, hl with | [_, _, _], _ => rfl
  have FS_TurnRule_init : Ev.FnS l.prog K "__init__" "TurnRule.__init__" (inClass (top 19) 0) f_TurnRule_init cc_TurnRule_init C_TurnRule (PySem.W.ksFn "__init__" "TurnRule.__init__" (C8.fnArgs (inClass (top 19) 0)) (C8.fnBody (inClass (top 19) 0)) (C8.fnScope (inClass (top 19) 0)) (.ref DT_TurnRule_init) (.ref DK_TurnRule_init) dc_TurnRule_init pm_TurnRule_init an_TurnRule_init (.ref ca_TurnRule_init) ct_TurnRule_init cc_TurnRule_init) := ⟨⟨_, _, _, _, _, _, _, _, _, _, _, _, _, _, _, _, _, _, _, _, rfl, y266, y267, y270, y271, y272, y273, y274⟩⟩
  have FS_TryRule_init : Ev.FnS l.prog K "__init__" "TryRule.__init__" (inClass (top 20) 0) f_TryRule_init cc_TryRule_init C_TryRule (PySem.W.ksFn "__init__" "TryRule.__init__" (C8.fnArgs (inClass (top 20) 0)) (C8.fnBody (inClass (top 20) 0)) (C8.fnScope (inClass (top 20) 0)) (.ref DT_TryRule_init) kV_TryRule_init dc_TryRule_init pm_TryRule_init an_TryRule_init (.ref ca_TryRule_init) ct_TryRule_init cc_TryRule_init) := ⟨⟨_, _, _, _, _, _, _, _, _, _, _, _, _, _, _, _, _, _, _, _, rfl, y276, y277, y280, y281, y282, y283, y284⟩⟩
  have F_law_rule : Ev.Fn K "_law_rule" "_law_rule" (top 51) f_law_rule (PySem.W.fnOf "_law_rule" "_law_rule" (C8.fnArgs (top 51)) (C8.fnBody (top 51)) (C8.fnScope (top 51)) .none kV_law_rule dc_law_rule pm_law_rule an_law_rule cd_law_rule ct_law_rule) := ⟨⟨_, _, _, _, _, _, _, _, _, _, rfl, y286, y287⟩⟩
  have b_law_rule : Binds K (PySem.W.fnOf "_law_rule" "_law_rule" (C8.fnArgs (top 51)) (C8.fnBody (top 51)) (C8.fnScope (top 51)) .none kV_law_rule dc_law_rule pm_law_rule an_law_rule cd_law_rule ct_law_rule) ["_law_some", "_law_is_turn"] [] := Binds.all fun us hl => match us, hl with | [_, _], _ => rfl
  have F_need_number : Ev.Fn K "need_number" "need_number" (top 30) f_need_number (PySem.W.fnOf "need_number" "need_number" (C8.fnArgs (top 30)) (C8.fnBody (top 30)) (C8.fnScope (top 30)) .none kV_need_number dc_need_number pm_need_number an_need_number cd_need_number ct_need_number) := ⟨⟨_, _, _, _, _, _, _, _, _, _, rfl, y290, y291⟩⟩
  have b_need_number : Binds K (PySem.W.fnOf "need_number" "need_number" (C8.fnArgs (top 30)) (C8.fnBody (top 30)) (C8.fnScope (top 30)) .none kV_need_number dc_need_number pm_need_number an_need_number cd_need_number ct_need_number) ["value", "most"] [] := Binds.all fun us hl => match us, hl with | [_, _], _ => rfl
  have F_halves_of : Ev.Fn K "halves_of" "halves_of" (top 35) f_halves_of (PySem.W.fnOf "halves_of" "halves_of" (C8.fnArgs (top 35)) (C8.fnBody (top 35)) (C8.fnScope (top 35)) .none kV_halves_of dc_halves_of pm_halves_of an_halves_of cd_halves_of ct_halves_of) := ⟨⟨_, _, _, _, _, _, _, _, _, _, rfl, y294, y295⟩⟩
  have b_halves_of : Binds K (PySem.W.fnOf "halves_of" "halves_of" (C8.fnArgs (top 35)) (C8.fnBody (top 35)) (C8.fnScope (top 35)) .none kV_halves_of dc_halves_of pm_halves_of an_halves_of cd_halves_of ct_halves_of) ["keys"] [] := Binds.all fun us hl => match us, hl with | [_], _ => rfl
  have F_halves_shape : Ev.Fn K "halves_shape" "halves_shape" (top 37) f_halves_shape (PySem.W.fnOf "halves_shape" "halves_shape" (C8.fnArgs (top 37)) (C8.fnBody (top 37)) (C8.fnScope (top 37)) .none kV_halves_shape dc_halves_shape pm_halves_shape an_halves_shape cd_halves_shape ct_halves_shape) := ⟨⟨_, _, _, _, _, _, _, _, _, _, rfl, y298, y299⟩⟩
  have b_halves_shape : Binds K (PySem.W.fnOf "halves_shape" "halves_shape" (C8.fnArgs (top 37)) (C8.fnBody (top 37)) (C8.fnScope (top 37)) .none kV_halves_shape dc_halves_shape pm_halves_shape an_halves_shape cd_halves_shape ct_halves_shape) ["keys"] [] := Binds.all fun us hl => match us, hl with | [_], _ => rfl
  have F_need_weight_rule : Ev.Fn K "need_weight_rule" "need_weight_rule" (top 26) f_need_weight_rule (PySem.W.fnOf "need_weight_rule" "need_weight_rule" (C8.fnArgs (top 26)) (C8.fnBody (top 26)) (C8.fnScope (top 26)) .none kV_need_weight_rule dc_need_weight_rule pm_need_weight_rule an_need_weight_rule cd_need_weight_rule ct_need_weight_rule) := ⟨⟨_, _, _, _, _, _, _, _, _, _, rfl, y302, y303⟩⟩
  have b_need_weight_rule : Binds K (PySem.W.fnOf "need_weight_rule" "need_weight_rule" (C8.fnArgs (top 26)) (C8.fnBody (top 26)) (C8.fnScope (top 26)) .none kV_need_weight_rule dc_need_weight_rule pm_need_weight_rule an_need_weight_rule cd_need_weight_rule ct_need_weight_rule) ["rule"] [] := Binds.all fun us hl => match us, hl with | [_], _ => rfl
  have F_higher : Ev.Fn K "higher" "higher" (top 31) f_higher (PySem.W.fnOf "higher" "higher" (C8.fnArgs (top 31)) (C8.fnBody (top 31)) (C8.fnScope (top 31)) .none kV_higher dc_higher pm_higher an_higher cd_higher ct_higher) := ⟨⟨_, _, _, _, _, _, _, _, _, _, rfl, y306, y307⟩⟩
  have b_higher : Binds K (PySem.W.fnOf "higher" "higher" (C8.fnArgs (top 31)) (C8.fnBody (top 31)) (C8.fnScope (top 31)) .none kV_higher dc_higher pm_higher an_higher cd_higher ct_higher) ["rule", "weight"] [] := Binds.all fun us hl => match us, hl with | [_, _], _ => rfl
  have F_highest : Ev.Fn K "highest" "highest" (top 32) f_highest (PySem.W.fnOf "highest" "highest" (C8.fnArgs (top 32)) (C8.fnBody (top 32)) (C8.fnScope (top 32)) .none kV_highest dc_highest pm_highest an_highest cd_highest ct_highest) := ⟨⟨_, _, _, _, _, _, _, _, _, _, rfl, y310, y311⟩⟩
  have b_highest : Binds K (PySem.W.fnOf "highest" "highest" (C8.fnArgs (top 32)) (C8.fnBody (top 32)) (C8.fnScope (top 32)) .none kV_highest dc_highest pm_highest an_highest cd_highest ct_highest) ["rule", "weight"] [] := Binds.all fun us hl => match us, hl with | [_, _], _ => rfl
  have F_tall_of : Ev.Fn K "tall_of" "tall_of" (top 36) f_tall_of (PySem.W.fnOf "tall_of" "tall_of" (C8.fnArgs (top 36)) (C8.fnBody (top 36)) (C8.fnScope (top 36)) .none kV_tall_of dc_tall_of pm_tall_of an_tall_of cd_tall_of ct_tall_of) := ⟨⟨_, _, _, _, _, _, _, _, _, _, rfl, y314, y315⟩⟩
  have b_tall_of : Binds K (PySem.W.fnOf "tall_of" "tall_of" (C8.fnArgs (top 36)) (C8.fnBody (top 36)) (C8.fnScope (top 36)) .none kV_tall_of dc_tall_of pm_tall_of an_tall_of cd_tall_of ct_tall_of) ["rule", "weight"] [] := Binds.all fun us hl => match us, hl with | [_, _], _ => rfl
  have F_tall_shape : Ev.Fn K "tall_shape" "tall_shape" (top 38) f_tall_shape (PySem.W.fnOf "tall_shape" "tall_shape" (C8.fnArgs (top 38)) (C8.fnBody (top 38)) (C8.fnScope (top 38)) .none kV_tall_shape dc_tall_shape pm_tall_shape an_tall_shape cd_tall_shape ct_tall_shape) := ⟨⟨_, _, _, _, _, _, _, _, _, _, rfl, y318, y319⟩⟩
  have b_tall_shape : Binds K (PySem.W.fnOf "tall_shape" "tall_shape" (C8.fnArgs (top 38)) (C8.fnBody (top 38)) (C8.fnScope (top 38)) .none kV_tall_shape dc_tall_shape pm_tall_shape an_tall_shape cd_tall_shape ct_tall_shape) ["rule", "keys"] [] := Binds.all fun us hl => match us, hl with | [_, _], _ => rfl
  have F_law_top : Ev.Fn K "_law_top" "_law_top" (top 52) f_law_top (PySem.W.fnOf "_law_top" "_law_top" (C8.fnArgs (top 52)) (C8.fnBody (top 52)) (C8.fnScope (top 52)) .none kV_law_top dc_law_top pm_law_top an_law_top cd_law_top ct_law_top) := ⟨⟨_, _, _, _, _, _, _, _, _, _, rfl, y322, y323⟩⟩
  have b_law_top : Binds K (PySem.W.fnOf "_law_top" "_law_top" (C8.fnArgs (top 52)) (C8.fnBody (top 52)) (C8.fnScope (top 52)) .none kV_law_top dc_law_top pm_law_top an_law_top cd_law_top ct_law_top) ["_law_some", "_law_x"] [] := Binds.all fun us hl => match us, hl with | [_, _], _ => rfl
  have F_law_least : Ev.Fn K "_law_least" "_law_least" (top 53) f_law_least (PySem.W.fnOf "_law_least" "_law_least" (C8.fnArgs (top 53)) (C8.fnBody (top 53)) (C8.fnScope (top 53)) .none kV_law_least dc_law_least pm_law_least an_law_least cd_law_least ct_law_least) := ⟨⟨_, _, _, _, _, _, _, _, _, _, rfl, y326, y327⟩⟩
  have b_law_least : Binds K (PySem.W.fnOf "_law_least" "_law_least" (C8.fnArgs (top 53)) (C8.fnBody (top 53)) (C8.fnScope (top 53)) .none kV_law_least dc_law_least pm_law_least an_law_least cd_law_least ct_law_least) ["_law_some", "_law_y"] [] := Binds.all fun us hl => match us, hl with | [_, _], _ => rfl
  have F_law_halves : Ev.Fn K "_law_halves" "_law_halves" (top 54) f_law_halves (PySem.W.fnOf "_law_halves" "_law_halves" (C8.fnArgs (top 54)) (C8.fnBody (top 54)) (C8.fnScope (top 54)) .none kV_law_halves dc_law_halves pm_law_halves an_law_halves cd_law_halves ct_law_halves) := ⟨⟨_, _, _, _, _, _, _, _, _, _, rfl, y330, y331⟩⟩
  have b_law_halves : Binds K (PySem.W.fnOf "_law_halves" "_law_halves" (C8.fnArgs (top 54)) (C8.fnBody (top 54)) (C8.fnScope (top 54)) .none kV_law_halves dc_law_halves pm_law_halves an_law_halves cd_law_halves ct_law_halves) ["_law_many"] [] := Binds.all fun us hl => match us, hl with | [_], _ => rfl
  have F_law_tall : Ev.Fn K "_law_tall" "_law_tall" (top 55) f_law_tall (PySem.W.fnOf "_law_tall" "_law_tall" (C8.fnArgs (top 55)) (C8.fnBody (top 55)) (C8.fnScope (top 55)) .none kV_law_tall dc_law_tall pm_law_tall an_law_tall cd_law_tall ct_law_tall) := ⟨⟨_, _, _, _, _, _, _, _, _, _, rfl, y334, y335⟩⟩
  have b_law_tall : Binds K (PySem.W.fnOf "_law_tall" "_law_tall" (C8.fnArgs (top 55)) (C8.fnBody (top 55)) (C8.fnScope (top 55)) .none kV_law_tall dc_law_tall pm_law_tall an_law_tall cd_law_tall ct_law_tall) ["_law_some", "_law_weight"] [] := Binds.all fun us hl => match us, hl with | [_, _], _ => rfl
  have F_is_pair : Ev.Fn K "is_pair" "is_pair" (top 39) f_is_pair (PySem.W.fnOf "is_pair" "is_pair" (C8.fnArgs (top 39)) (C8.fnBody (top 39)) (C8.fnScope (top 39)) .none kV_is_pair dc_is_pair pm_is_pair an_is_pair cd_is_pair ct_is_pair) := ⟨⟨_, _, _, _, _, _, _, _, _, _, rfl, y338, y339⟩⟩
  have b_is_pair : Binds K (PySem.W.fnOf "is_pair" "is_pair" (C8.fnArgs (top 39)) (C8.fnBody (top 39)) (C8.fnScope (top 39)) .none kV_is_pair dc_is_pair pm_is_pair an_is_pair cd_is_pair ct_is_pair) ["value"] [] := Binds.all fun us hl => match us, hl with | [_], _ => rfl
  have F_WeightRule_is_fair : Ev.Fn K "is_fair" "WeightRule.is_fair" (inClass (top 18) 5) f_WeightRule_is_fair (PySem.W.fnOf "is_fair" "WeightRule.is_fair" (C8.fnArgs (inClass (top 18) 5)) (C8.fnBody (inClass (top 18) 5)) (C8.fnScope (inClass (top 18) 5)) .none kV_WeightRule_is_fair dc_WeightRule_is_fair pm_WeightRule_is_fair an_WeightRule_is_fair cd_WeightRule_is_fair ct_WeightRule_is_fair) := ⟨⟨_, _, _, _, _, _, _, _, _, _, rfl, y342, y343⟩⟩
  have b_WeightRule_is_fair : Binds K (PySem.W.fnOf "is_fair" "WeightRule.is_fair" (C8.fnArgs (inClass (top 18) 5)) (C8.fnBody (inClass (top 18) 5)) (C8.fnScope (inClass (top 18) 5)) .none kV_WeightRule_is_fair dc_WeightRule_is_fair pm_WeightRule_is_fair an_WeightRule_is_fair cd_WeightRule_is_fair ct_WeightRule_is_fair) ["self", "one", "other"] [] := Binds.all fun us hl => match us, hl with | [_, _, _], _ => rfl
  have F_fair_weight : Ev.Fn K "fair_weight" "fair_weight" (top 44) f_fair_weight (PySem.W.fnOf "fair_weight" "fair_weight" (C8.fnArgs (top 44)) (C8.fnBody (top 44)) (C8.fnScope (top 44)) .none kV_fair_weight dc_fair_weight pm_fair_weight an_fair_weight cd_fair_weight ct_fair_weight) := ⟨⟨_, _, _, _, _, _, _, _, _, _, rfl, y347, y348⟩⟩
  have b_fair_weight : Binds K (PySem.W.fnOf "fair_weight" "fair_weight" (C8.fnArgs (top 44)) (C8.fnBody (top 44)) (C8.fnScope (top 44)) .none kV_fair_weight dc_fair_weight pm_fair_weight an_fair_weight cd_fair_weight ct_fair_weight) ["rule", "value"] [] := Binds.all fun us hl => match us, hl with | [_, _], _ => rfl
  have F_is_fair : Ev.Fn K "is_fair" "is_fair" (top 45) f_is_fair (PySem.W.fnOf "is_fair" "is_fair" (C8.fnArgs (top 45)) (C8.fnBody (top 45)) (C8.fnScope (top 45)) .none kV_is_fair dc_is_fair pm_is_fair an_is_fair cd_is_fair ct_is_fair) := ⟨⟨_, _, _, _, _, _, _, _, _, _, rfl, y351, y352⟩⟩
  have b_is_fair : Binds K (PySem.W.fnOf "is_fair" "is_fair" (C8.fnArgs (top 45)) (C8.fnBody (top 45)) (C8.fnScope (top 45)) .none kV_is_fair dc_is_fair pm_is_fair an_is_fair cd_is_fair ct_is_fair) ["rule", "shape"] [] := Binds.all fun us hl => match us, hl with | [_, _], _ => rfl
  have F_measured : Ev.Fn K "measured" "measured" (top 40) f_measured (PySem.W.fnOf "measured" "measured" (C8.fnArgs (top 40)) (C8.fnBody (top 40)) (C8.fnScope (top 40)) .none kV_measured dc_measured pm_measured an_measured cd_measured ct_measured) := ⟨⟨_, _, _, _, _, _, _, _, _, _, rfl, y355, y356⟩⟩
  have b_measured : Binds K (PySem.W.fnOf "measured" "measured" (C8.fnArgs (top 40)) (C8.fnBody (top 40)) (C8.fnScope (top 40)) .none kV_measured dc_measured pm_measured an_measured cd_measured ct_measured) ["value"] [] := Binds.all fun us hl => match us, hl with | [_], _ => rfl
  have F_needed : Ev.Fn K "needed" "needed" (top 41) f_needed (PySem.W.fnOf "needed" "needed" (C8.fnArgs (top 41)) (C8.fnBody (top 41)) (C8.fnScope (top 41)) .none kV_needed dc_needed pm_needed an_needed cd_needed ct_needed) := ⟨⟨_, _, _, _, _, _, _, _, _, _, rfl, y359, y360⟩⟩
  have b_needed : Binds K (PySem.W.fnOf "needed" "needed" (C8.fnArgs (top 41)) (C8.fnBody (top 41)) (C8.fnScope (top 41)) .none kV_needed dc_needed pm_needed an_needed cd_needed ct_needed) ["shape"] [] := Binds.all fun us hl => match us, hl with | [_], _ => rfl
  have F_keys_of : Ev.Fn K "keys_of" "keys_of" (top 42) f_keys_of (PySem.W.fnOf "keys_of" "keys_of" (C8.fnArgs (top 42)) (C8.fnBody (top 42)) (C8.fnScope (top 42)) .none kV_keys_of dc_keys_of pm_keys_of an_keys_of cd_keys_of ct_keys_of) := ⟨⟨_, _, _, _, _, _, _, _, _, _, rfl, y363, y364⟩⟩
  have b_keys_of : Binds K (PySem.W.fnOf "keys_of" "keys_of" (C8.fnArgs (top 42)) (C8.fnBody (top 42)) (C8.fnScope (top 42)) .none kV_keys_of dc_keys_of pm_keys_of an_keys_of cd_keys_of ct_keys_of) ["shape"] [] := Binds.all fun us hl => match us, hl with | [_], _ => rfl
  have F_height_of : Ev.Fn K "height_of" "height_of" (top 43) f_height_of (PySem.W.fnOf "height_of" "height_of" (C8.fnArgs (top 43)) (C8.fnBody (top 43)) (C8.fnScope (top 43)) .none kV_height_of dc_height_of pm_height_of an_height_of cd_height_of ct_height_of) := ⟨⟨_, _, _, _, _, _, _, _, _, _, rfl, y367, y368⟩⟩
  have b_height_of : Binds K (PySem.W.fnOf "height_of" "height_of" (C8.fnArgs (top 43)) (C8.fnBody (top 43)) (C8.fnScope (top 43)) .none kV_height_of dc_height_of pm_height_of an_height_of cd_height_of ct_height_of) ["shape"] [] := Binds.all fun us hl => match us, hl with | [_], _ => rfl
  have F_least_height : Ev.Fn K "least_height" "least_height" (top 34) f_least_height (PySem.W.fnOf "least_height" "least_height" (C8.fnArgs (top 34)) (C8.fnBody (top 34)) (C8.fnScope (top 34)) .none kV_least_height dc_least_height pm_least_height an_least_height cd_least_height ct_least_height) := ⟨⟨_, _, _, _, _, _, _, _, _, _, rfl, y371, y372⟩⟩
  have b_least_height : Binds K (PySem.W.fnOf "least_height" "least_height" (C8.fnArgs (top 34)) (C8.fnBody (top 34)) (C8.fnScope (top 34)) .none kV_least_height dc_least_height pm_least_height an_least_height cd_least_height ct_least_height) ["keys"] [] := Binds.all fun us hl => match us, hl with | [_], _ => rfl
  have F_greatest_height : Ev.Fn K "greatest_height" "greatest_height" (top 33) f_greatest_height (PySem.W.fnOf "greatest_height" "greatest_height" (C8.fnArgs (top 33)) (C8.fnBody (top 33)) (C8.fnScope (top 33)) .none kV_greatest_height dc_greatest_height pm_greatest_height an_greatest_height cd_greatest_height ct_greatest_height) := ⟨⟨_, _, _, _, _, _, _, _, _, _, rfl, y375, y376⟩⟩
  have b_greatest_height : Binds K (PySem.W.fnOf "greatest_height" "greatest_height" (C8.fnArgs (top 33)) (C8.fnBody (top 33)) (C8.fnScope (top 33)) .none kV_greatest_height dc_greatest_height pm_greatest_height an_greatest_height cd_greatest_height ct_greatest_height) ["rule", "keys"] [] := Binds.all fun us hl => match us, hl with | [_, _], _ => rfl
  have F_law_right : Ev.Fn K "_law_right" "_law_right" (top 56) f_law_right (PySem.W.fnOf "_law_right" "_law_right" (C8.fnArgs (top 56)) (C8.fnBody (top 56)) (C8.fnScope (top 56)) .none kV_law_right dc_law_right pm_law_right an_law_right cd_law_right ct_law_right) := ⟨⟨_, _, _, _, _, _, _, _, _, _, rfl, y379, y380⟩⟩
  have b_law_right : Binds K (PySem.W.fnOf "_law_right" "_law_right" (C8.fnArgs (top 56)) (C8.fnBody (top 56)) (C8.fnScope (top 56)) .none kV_law_right dc_law_right pm_law_right an_law_right cd_law_right ct_law_right) ["_law_pen_here", "_law_many"] [] := Binds.all fun us hl => match us, hl with | [_, _], _ => rfl
  have F_BadRule_init : Ev.Fn K "__init__" "BadRule.__init__" (inClass (top 2) 0) f_BadRule_init (PySem.W.fnOf "__init__" "BadRule.__init__" (C8.fnArgs (inClass (top 2) 0)) (C8.fnBody (inClass (top 2) 0)) (C8.fnScope (inClass (top 2) 0)) .none kV_BadRule_init dc_BadRule_init pm_BadRule_init an_BadRule_init cd_BadRule_init ct_BadRule_init) := ⟨⟨_, _, _, _, _, _, _, _, _, _, rfl, y383, y384⟩⟩
  have b_BadRule_init : Binds K (PySem.W.fnOf "__init__" "BadRule.__init__" (C8.fnArgs (inClass (top 2) 0)) (C8.fnBody (inClass (top 2) 0)) (C8.fnScope (inClass (top 2) 0)) .none kV_BadRule_init dc_BadRule_init pm_BadRule_init an_BadRule_init cd_BadRule_init ct_BadRule_init) ["self", "part"] [] := Binds.all fun us hl => match us, hl with | [_, _], _ => rfl
  have F_NoHalves_init : Ev.Fn K "__init__" "NoHalves.__init__" (inClass (top 3) 0) f_NoHalves_init (PySem.W.fnOf "__init__" "NoHalves.__init__" (C8.fnArgs (inClass (top 3) 0)) (C8.fnBody (inClass (top 3) 0)) (C8.fnScope (inClass (top 3) 0)) .none kV_NoHalves_init dc_NoHalves_init pm_NoHalves_init an_NoHalves_init cd_NoHalves_init ct_NoHalves_init) := ⟨⟨_, _, _, _, _, _, _, _, _, _, rfl, y388, y389⟩⟩
  have b_NoHalves_init : Binds K (PySem.W.fnOf "__init__" "NoHalves.__init__" (C8.fnArgs (inClass (top 3) 0)) (C8.fnBody (inClass (top 3) 0)) (C8.fnScope (inClass (top 3) 0)) .none kV_NoHalves_init dc_NoHalves_init pm_NoHalves_init an_NoHalves_init cd_NoHalves_init ct_NoHalves_init) ["self", "weight"] [] := Binds.all fun us hl => match us, hl with | [_, _], _ => rfl
  have F_BadNumber_init : Ev.Fn K "__init__" "BadNumber.__init__" (inClass (top 4) 0) f_BadNumber_init (PySem.W.fnOf "__init__" "BadNumber.__init__" (C8.fnArgs (inClass (top 4) 0)) (C8.fnBody (inClass (top 4) 0)) (C8.fnScope (inClass (top 4) 0)) .none kV_BadNumber_init dc_BadNumber_init pm_BadNumber_init an_BadNumber_init cd_BadNumber_init ct_BadNumber_init) := ⟨⟨_, _, _, _, _, _, _, _, _, _, rfl, y393, y394⟩⟩
  have b_BadNumber_init : Binds K (PySem.W.fnOf "__init__" "BadNumber.__init__" (C8.fnArgs (inClass (top 4) 0)) (C8.fnBody (inClass (top 4) 0)) (C8.fnScope (inClass (top 4) 0)) .none kV_BadNumber_init dc_BadNumber_init pm_BadNumber_init an_BadNumber_init cd_BadNumber_init ct_BadNumber_init) ["self", "value"] [] := Binds.all fun us hl => match us, hl with | [_, _], _ => rfl
  have F_BadOther_init : Ev.Fn K "__init__" "BadOther.__init__" (inClass (top 5) 0) f_BadOther_init (PySem.W.fnOf "__init__" "BadOther.__init__" (C8.fnArgs (inClass (top 5) 0)) (C8.fnBody (inClass (top 5) 0)) (C8.fnScope (inClass (top 5) 0)) .none kV_BadOther_init dc_BadOther_init pm_BadOther_init an_BadOther_init cd_BadOther_init ct_BadOther_init) := ⟨⟨_, _, _, _, _, _, _, _, _, _, rfl, y398, y399⟩⟩
  have b_BadOther_init : Binds K (PySem.W.fnOf "__init__" "BadOther.__init__" (C8.fnArgs (inClass (top 5) 0)) (C8.fnBody (inClass (top 5) 0)) (C8.fnScope (inClass (top 5) 0)) .none kV_BadOther_init dc_BadOther_init pm_BadOther_init an_BadOther_init cd_BadOther_init ct_BadOther_init) ["self", "part"] [] := Binds.all fun us hl => match us, hl with | [_, _], _ => rfl
  have F_law : Ev.Fn K "law" "law" (top 57) f_law (PySem.W.fnOf "law" "law" (C8.fnArgs (top 57)) (C8.fnBody (top 57)) (C8.fnScope (top 57)) .none kV_law dc_law pm_law an_law cd_law ct_law) := ⟨⟨_, _, _, _, _, _, _, _, _, _, rfl, y403, y404⟩⟩
  have b_law : Binds K (PySem.W.fnOf "law" "law" (C8.fnArgs (top 57)) (C8.fnBody (top 57)) (C8.fnScope (top 57)) .none kV_law dc_law pm_law an_law cd_law ct_law) ["_law_script"] [] := Binds.all fun us hl => match us, hl with | [_], _ => rfl
  have HD_TurnRule_init : DflV K (.ref DT_TurnRule_init) [.int 0] := Or.inr ⟨by simp, DT_TurnRule_init, _, [.int 0 u_TurnRule_init_0], _, rfl, y421, rfl, (.cons ⟨_, rfl⟩ .nil)⟩
  have HK_TurnRule_init : KwdV K (.ref DK_TurnRule_init) [("turn_plus", .int 0)] := Or.inr ⟨DK_TurnRule_init, rfl, fun q hq => by
    rcases List.mem_cons.mp hq with rfl | hq
    · exact ⟨_, y422, ⟨_, rfl⟩⟩
    · cases hq⟩
  obtain ⟨_, kb_TurnRule_init_2_turn_turn_plus⟩ : ∃ g, KBn K (PySem.W.ksFn "__init__" "TurnRule.__init__" (C8.fnArgs (inClass (top 19) 0)) (C8.fnBody (inClass (top 19) 0)) (C8.fnScope (inClass (top 19) 0)) (.ref DT_TurnRule_init) (.ref DK_TurnRule_init) dc_TurnRule_init pm_TurnRule_init an_TurnRule_init (.ref ca_TurnRule_init) ct_TurnRule_init cc_TurnRule_init) ["self", "times", "plus", "turn", "turn_plus"] 3 ["turn", "turn_plus"] g (Pu.pkS [.int 0] (List.map (fun q => q.2) ([] : List (Str × V))) [(0, 0), (0, 1), (3, 0), (3, 1)]) := Pu.kbC_DK HD_TurnRule_init HK_TurnRule_init [] [(0, 0), (0, 1), (3, 0), (3, 1)] (by simp) (by simp) (fun q hq => by simp at hq ⊢; try (rcases hq with rfl | hq <;> simp_all)) (fun T D doc pm an cdv ct us its mv ws l1 l2 l3 l4 => match us, its, mv, ws, l1, l2, l3, l4 with | [_, _, _], [_], [], [_, _], _, _, _, _ => ⟨_, rfl, rfl⟩)
  have HD_TryRule_init : DflV K (.ref DT_TryRule_init) [.int 0] := Or.inr ⟨by simp, DT_TryRule_init, _, [.int 0 u_TryRule_init_0], _, rfl, y431, rfl, (.cons ⟨_, rfl⟩ .nil)⟩
  obtain ⟨_, kb_TryRule_init_2_⟩ : ∃ g, KBn K (PySem.W.ksFn "__init__" "TryRule.__init__" (C8.fnArgs (inClass (top 20) 0)) (C8.fnBody (inClass (top 20) 0)) (C8.fnScope (inClass (top 20) 0)) (.ref DT_TryRule_init) kV_TryRule_init dc_TryRule_init pm_TryRule_init an_TryRule_init (.ref ca_TryRule_init) ct_TryRule_init cc_TryRule_init) ["self", "times", "plus"] 3 [] g (Pu.pkS [.int 0] (List.map (fun q => q.2) ([] : List (Str × V))) [(0, 0), (0, 1)]) := Pu.kbC_D0 HD_TryRule_init [(0, 0), (0, 1)] (by simp) (fun T us its ws l1 l2 l3 => match us, its, ws, l1, l2, l3 with | [_, _, _], [_], [], _, _, _ => ⟨_, rfl, rfl⟩)
  have kb_halves_shape_0_keys : KBn K (PySem.W.fnOf "halves_shape" "halves_shape" (C8.fnArgs (top 37)) (C8.fnBody (top 37)) (C8.fnScope (top 37)) .none kV_halves_shape dc_halves_shape pm_halves_shape an_halves_shape cd_halves_shape ct_halves_shape) ["keys"] 0 ["keys"] _ (Pu.pk [] [] [(3, 0)]) := Pu.kb_00 [(3, 0)] fun us ws l1 l2 => match us, ws, l1, l2 with | [], [_], _, _ => rfl
  have kb_tall_shape_0_keys_rule : KBn K (PySem.W.fnOf "tall_shape" "tall_shape" (C8.fnArgs (top 38)) (C8.fnBody (top 38)) (C8.fnScope (top 38)) .none kV_tall_shape dc_tall_shape pm_tall_shape an_tall_shape cd_tall_shape ct_tall_shape) ["rule", "keys"] 0 ["keys", "rule"] _ (Pu.pk [] [] [(3, 1), (3, 0)]) := Pu.kb_00 [(3, 1), (3, 0)] fun us ws l1 l2 => match us, ws, l1, l2 with | [], [_, _], _, _ => rfl
  obtain ⟨_, kb_TryRule_init_1_⟩ : ∃ g, KBn K (PySem.W.ksFn "__init__" "TryRule.__init__" (C8.fnArgs (inClass (top 20) 0)) (C8.fnBody (inClass (top 20) 0)) (C8.fnScope (inClass (top 20) 0)) (.ref DT_TryRule_init) kV_TryRule_init dc_TryRule_init pm_TryRule_init an_TryRule_init (.ref ca_TryRule_init) ct_TryRule_init cc_TryRule_init) ["self", "times", "plus"] 2 [] g (Pu.pkS [.int 0] (List.map (fun q => q.2) ([] : List (Str × V))) [(0, 0), (1, 0)]) := Pu.kbC_D0 HD_TryRule_init [(0, 0), (1, 0)] (by simp) (fun T us its ws l1 l2 l3 => match us, its, ws, l1, l2, l3 with | [_, _], [_], [], _, _, _ => ⟨_, rfl, rfl⟩)
  refine ⟨(PySem.W.fnOf "law" "law" (C8.fnArgs (top 57)) (C8.fnBody (top 57)) (C8.fnScope (top 57)) .none kV_law dc_law pm_law an_law cd_law ct_law), [], spLaw K cm.T, (fun q hq => by cases hq), fun s v => .of_eq rfl, fun H a ns hl hH hS => ⟨a, ns, rfl, hS, hl, fun p hp => ?_, fun _ => rfl⟩, fun base _ _ hTB SM0 => ?_⟩
  · rw [hT] at hp
    cases hp
  have g_draw := ok_draw (P := l.prog) (w := w) (base := base) F_draw T
  have c_draw : Ev.GC l.prog w K mg base 1 "_law_draw" spDraw [] := ⟨⟨_, _, _, _, g_draw, PySem.W.mg_of X G y215, y218, b_draw, .nil⟩⟩
  have g_pen := ok_pen (P := l.prog) (w := w) (base := base) F_pen T
  have c_pen : Ev.GC l.prog w K mg base 1 "_law_pen" (spPen K) [] := ⟨⟨_, _, _, _, g_pen, PySem.W.mg_of X G y219, y222, b_pen, .nil⟩⟩
  have g_law_pick := ok_law_pick (P := l.prog) (w := w) (base := base) F_law_pick T c_draw
  have c_law_pick : Ev.GC l.prog w K mg base 2 "_law_pick" (spP K cm 2 m_law_pick) [] := ⟨⟨_, _, _, _, g_law_pick, PySem.W.mg_of X G y223, y226, b_law_pick, .nil⟩⟩
  have g_law_numbers := ok_law_numbers (P := l.prog) (w := w) (base := base) F_law_numbers T c_draw c_law_pick
  have c_law_numbers : Ev.GC l.prog w K mg base 3 "_law_numbers" (spP K cm 1 m_law_numbers) [] := ⟨⟨_, _, _, _, g_law_numbers, PySem.W.mg_of X G y227, y230, b_law_numbers, .nil⟩⟩
  have g_is_integer := ok_is_integer (P := l.prog) (w := w) (base := base) F_is_integer T
  have c_is_integer : Ev.GC l.prog w K mg base 1 "is_integer" (spP K cm 1 m_is_integer) [] := ⟨⟨_, _, _, _, g_is_integer, PySem.W.mg_of X G y231, y234, b_is_integer, .nil⟩⟩
  have g_is_within := ok_is_within (P := l.prog) (w := w) (base := base) F_is_within T c_is_integer
  have c_is_within : Ev.GC l.prog w K mg base 2 "is_within" (spP K cm 3 m_is_within) [] := ⟨⟨_, _, _, _, g_is_within, PySem.W.mg_of X G y235, y238, b_is_within, .nil⟩⟩
  have g_is_times := ok_is_times (P := l.prog) (w := w) (base := base) F_is_times T c_is_within
  have c_is_times : Ev.GC l.prog w K mg base 3 "is_times" (spP K cm 2 m_is_times) [] := ⟨⟨_, _, _, _, g_is_times, PySem.W.mg_of X G y239, y242, b_is_times, .nil⟩⟩
  have xc_BadRule : Ev.XC l.prog w K mg base "BadRule" X_BadRule (Ev.spX1 K "part") 1 := ⟨⟨_, _, _, T.oe_BadRule, y382, y406, ok_BadRule_init F_BadRule_init, b_BadRule_init, PySem.W.mg_of X G y126⟩⟩
  have g_need_plus := ok_need_plus (P := l.prog) (w := w) (base := base) F_need_plus T c_is_within xc_BadRule
  have c_need_plus : Ev.GC l.prog w K mg base 3 "need_plus" (spP K cm 2 m_need_plus) [] := ⟨⟨_, _, _, _, g_need_plus, PySem.W.mg_of X G y243, y246, b_need_plus, .nil⟩⟩
  have g_WeightRule_need_numbers := ok_WeightRule_need_numbers (P := l.prog) (w := w) (base := base) F_WeightRule_need_numbers T c_is_times xc_BadRule c_need_plus
  have c_sneed_numbers_TurnRule : ∀ C, (C = C_TurnRule) → Ev.GS l.prog w K mg base 4 C "need_numbers" (spP K cm 2 m_WeightRule_need_numbers) [] := by
    rintro C h
    rcases h with rfl
    · exact ⟨⟨p_WeightRule_need_numbers, _, _, _, [], ci_TurnRule.cl, y407, y252, y253, y254, by decide +kernel, ⟨_, y248⟩, y251, g_WeightRule_need_numbers, b_WeightRule_need_numbers, .nil⟩⟩
  have c_sneed_numbers_TurnRule_TryRule : ∀ C, (C = C_TurnRule ∨ C = C_TryRule) → Ev.GS l.prog w K mg base 4 C "need_numbers" (spP K cm 2 m_WeightRule_need_numbers) [] := by
    rintro C h
    rcases h with rfl | rfl
    · exact ⟨⟨p_WeightRule_need_numbers, _, _, _, [], ci_TurnRule.cl, y408, y252, y253, y254, by decide +kernel, ⟨_, y248⟩, y251, g_WeightRule_need_numbers, b_WeightRule_need_numbers, .nil⟩⟩
    · exact ⟨⟨p_WeightRule_need_numbers, _, _, _, [], ci_TryRule.cl, y409, y252, y253, y254, by decide +kernel, ⟨_, y248⟩, y251, g_WeightRule_need_numbers, b_WeightRule_need_numbers, .nil⟩⟩
  have g_WeightRule_beside := ok_WeightRule_beside (P := l.prog) (w := w) (base := base) F_WeightRule_beside T
  have c_TurnRule_WeightRule_beside : Ev.GM l.prog w K mg base 1 C_TurnRule "beside" (spP K cm 2 m_WeightRule_beside) [] := ⟨⟨_, _, _, _, ci_TurnRule.cl, ⟨y410, y259, y258⟩, g_WeightRule_beside, b_WeightRule_beside, .nil⟩⟩
  have c_TryRule_WeightRule_beside : Ev.GM l.prog w K mg base 1 C_TryRule "beside" (spP K cm 2 m_WeightRule_beside) [] := ⟨⟨_, _, _, _, ci_TryRule.cl, ⟨y411, y259, y258⟩, g_WeightRule_beside, b_WeightRule_beside, .nil⟩⟩
  have c_pbeside_TurnRule_TryRule : ∀ C sp, ((C = C_TurnRule ∧ sp = spP K cm 2 m_WeightRule_beside) ∨ (C = C_TryRule ∧ sp = spP K cm 2 m_WeightRule_beside)) → Ev.GM l.prog w K mg base 1 C "beside" sp [] := by
    rintro C sp h
    rcases h with ⟨rfl, rfl⟩ | ⟨rfl, rfl⟩
    · exact c_TurnRule_WeightRule_beside.mono (by decide)
    · exact c_TryRule_WeightRule_beside.mono (by decide)
  have xc_NoHalves : Ev.XC l.prog w K mg base "NoHalves" X_NoHalves (Ev.spX1 K "weight") 1 := ⟨⟨_, _, _, T.oe_NoHalves, y387, y412, ok_NoHalves_init F_NoHalves_init, b_NoHalves_init, PySem.W.mg_of X G y130⟩⟩
  have g_WeightRule_init := ok_WeightRule_init (P := l.prog) (w := w) (base := base) F_WeightRule_init T c_sneed_numbers_TurnRule_TryRule c_pbeside_TurnRule_TryRule xc_NoHalves
  have SP_TurnRule_init : Ev.Sup l.prog K mg C_TurnRule "__init__" f_WeightRule_init := ⟨PySem.W.mg_none_of X G y413, y414, Ev.boot_super, y65, y415, y416, y417, y418⟩
  have g_TurnRule_init := ok_TurnRule_init (P := l.prog) (w := w) (base := base) FS_TurnRule_init SP_TurnRule_init g_WeightRule_init b_WeightRule_init T c_sneed_numbers_TurnRule c_is_times xc_BadRule c_need_plus
  have c_mk_TurnRule_2_turn_turn_plus : Ev.GN l.prog w K mg base 6 "TurnRule" C_TurnRule (spI K cm 5 m_TurnRule_init) 2 ["turn", "turn_plus"] (pkS [.int 0] [] [(0, 0), (0, 1), (3, 0), (3, 1)]) := ⟨⟨_, _, _, _, ⟨y419, y265, y269, y420⟩, g_TurnRule_init, PySem.W.mg_of X G y34, kb_TurnRule_init_2_turn_turn_plus⟩⟩
  have SP_TryRule_init : Ev.Sup l.prog K mg C_TryRule "__init__" f_WeightRule_init := ⟨PySem.W.mg_none_of X G y423, y424, Ev.boot_super, y70, y425, y426, y427, y428⟩
  have g_TryRule_init := ok_TryRule_init (P := l.prog) (w := w) (base := base) FS_TryRule_init SP_TryRule_init g_WeightRule_init b_WeightRule_init T
  have c_mk_TryRule_2_ : Ev.GN l.prog w K mg base 6 "TryRule" C_TryRule (spI K cm 3 m_TryRule_init) 2 [] (pkS [.int 0] [] [(0, 0), (0, 1)]) := ⟨⟨_, _, _, _, ⟨y429, y275, y279, y430⟩, g_TryRule_init, PySem.W.mg_of X G y45, kb_TryRule_init_2_⟩⟩
  have g_law_rule := ok_law_rule (P := l.prog) (w := w) (base := base) F_law_rule T c_mk_TurnRule_2_turn_turn_plus c_mk_TryRule_2_
  have c_law_rule : Ev.GC l.prog w K mg base 8 "_law_rule" (spP K cm 2 m_law_rule) [] := ⟨⟨_, _, _, _, g_law_rule, PySem.W.mg_of X G y285, y288, b_law_rule, .nil⟩⟩
  have xc_BadNumber : Ev.XC l.prog w K mg base "BadNumber" X_BadNumber (Ev.spX1 K "value") 1 := ⟨⟨_, _, _, T.oe_BadNumber, y392, y432, ok_BadNumber_init F_BadNumber_init, b_BadNumber_init, PySem.W.mg_of X G y134⟩⟩
  have g_need_number := ok_need_number (P := l.prog) (w := w) (base := base) F_need_number T c_is_within xc_BadNumber
  have c_need_number : Ev.GC l.prog w K mg base 3 "need_number" (spP K cm 2 m_need_number) [] := ⟨⟨_, _, _, _, g_need_number, PySem.W.mg_of X G y289, y292, b_need_number, .nil⟩⟩
  have g_halves_of := ok_halves_of (P := l.prog) (w := w) (base := base) F_halves_of T (PySem.W.mg_of X G y293) y296 b_halves_of
  have c_halves_of : Ev.GC l.prog w K mg base 14 "halves_of" (spP K cm 1 m_halves_of) [] := ⟨⟨_, _, _, _, g_halves_of, PySem.W.mg_of X G y293, y296, b_halves_of, .nil⟩⟩
  have g_halves_shape := ok_halves_shape (P := l.prog) (w := w) (base := base) F_halves_shape T c_need_number c_halves_of
  have c_halves_shape : Ev.GC l.prog w K mg base 15 "halves_shape" (spP K cm 1 m_halves_shape) [] := ⟨⟨_, _, _, _, g_halves_shape, PySem.W.mg_of X G y297, y300, b_halves_shape, .nil⟩⟩
  have g_need_weight_rule := ok_need_weight_rule (P := l.prog) (w := w) (base := base) F_need_weight_rule T xc_BadRule
  have c_need_weight_rule : Ev.GC l.prog w K mg base 3 "need_weight_rule" (spP K cm 1 m_need_weight_rule) [] := ⟨⟨_, _, _, _, g_need_weight_rule, PySem.W.mg_of X G y301, y304, b_need_weight_rule, .nil⟩⟩
  have g_higher := ok_higher (P := l.prog) (w := w) (base := base) F_higher T
  have c_higher : Ev.GC l.prog w K mg base 1 "higher" (spP K cm 2 m_higher) [] := ⟨⟨_, _, _, _, g_higher, PySem.W.mg_of X G y305, y308, b_higher, .nil⟩⟩
  have g_highest := ok_highest (P := l.prog) (w := w) (base := base) F_highest T c_higher
  have c_highest : Ev.GC l.prog w K mg base 2 "highest" (spP K cm 2 m_highest) [] := ⟨⟨_, _, _, _, g_highest, PySem.W.mg_of X G y309, y312, b_highest, .nil⟩⟩
  have g_tall_of := ok_tall_of (P := l.prog) (w := w) (base := base) F_tall_of T c_highest c_halves_of (PySem.W.mg_of X G y313) y316 b_tall_of
  have c_tall_of : Ev.GC l.prog w K mg base 74 "tall_of" (spP K cm 2 m_tall_of) [] := ⟨⟨_, _, _, _, g_tall_of, PySem.W.mg_of X G y313, y316, b_tall_of, .nil⟩⟩
  have g_tall_shape := ok_tall_shape (P := l.prog) (w := w) (base := base) F_tall_shape T c_need_weight_rule c_need_number c_tall_of
  have c_tall_shape : Ev.GC l.prog w K mg base 75 "tall_shape" (spP K cm 2 m_tall_shape) [] := ⟨⟨_, _, _, _, g_tall_shape, PySem.W.mg_of X G y317, y320, b_tall_shape, .nil⟩⟩
  have g_law_top := ok_law_top (P := l.prog) (w := w) (base := base) F_law_top T
  have c_law_top : Ev.GC l.prog w K mg base 1 "_law_top" (spP K cm 2 m_law_top) [] := ⟨⟨_, _, _, _, g_law_top, PySem.W.mg_of X G y321, y324, b_law_top, .nil⟩⟩
  have g_law_least := ok_law_least (P := l.prog) (w := w) (base := base) F_law_least T c_law_top
  have c_law_least : Ev.GC l.prog w K mg base 2 "_law_least" (spP K cm 2 m_law_least) [] := ⟨⟨_, _, _, _, g_law_least, PySem.W.mg_of X G y325, y328, b_law_least, .nil⟩⟩
  have g_law_halves := ok_law_halves (P := l.prog) (w := w) (base := base) F_law_halves T (PySem.W.mg_of X G y329) y332 b_law_halves
  have c_law_halves : Ev.GC l.prog w K mg base 14 "_law_halves" (spP K cm 1 m_law_halves) [] := ⟨⟨_, _, _, _, g_law_halves, PySem.W.mg_of X G y329, y332, b_law_halves, .nil⟩⟩
  have g_law_tall := ok_law_tall (P := l.prog) (w := w) (base := base) F_law_tall T c_law_least c_law_halves (PySem.W.mg_of X G y333) y336 b_law_tall
  have c_law_tall : Ev.GC l.prog w K mg base 74 "_law_tall" (spP K cm 2 m_law_tall) [] := ⟨⟨_, _, _, _, g_law_tall, PySem.W.mg_of X G y333, y336, b_law_tall, .nil⟩⟩
  have g_is_pair := ok_is_pair (P := l.prog) (w := w) (base := base) F_is_pair T
  have c_is_pair : Ev.GC l.prog w K mg base 1 "is_pair" (spP K cm 1 m_is_pair) [] := ⟨⟨_, _, _, _, g_is_pair, PySem.W.mg_of X G y337, y340, b_is_pair, .nil⟩⟩
  have g_WeightRule_is_fair := ok_WeightRule_is_fair (P := l.prog) (w := w) (base := base) F_WeightRule_is_fair T c_pbeside_TurnRule_TryRule
  have c_TryRule_WeightRule_is_fair : Ev.GM l.prog w K mg base 2 C_TryRule "is_fair" (spP K cm 3 m_WeightRule_is_fair) [] := ⟨⟨_, _, _, _, ci_TryRule.cl, ⟨y433, y345, y344⟩, g_WeightRule_is_fair, b_WeightRule_is_fair, .nil⟩⟩
  have c_TurnRule_WeightRule_is_fair : Ev.GM l.prog w K mg base 2 C_TurnRule "is_fair" (spP K cm 3 m_WeightRule_is_fair) [] := ⟨⟨_, _, _, _, ci_TurnRule.cl, ⟨y434, y345, y344⟩, g_WeightRule_is_fair, b_WeightRule_is_fair, .nil⟩⟩
  have c_pis_fair_TryRule_TurnRule : ∀ C sp, ((C = C_TryRule ∧ sp = spP K cm 3 m_WeightRule_is_fair) ∨ (C = C_TurnRule ∧ sp = spP K cm 3 m_WeightRule_is_fair)) → Ev.GM l.prog w K mg base 2 C "is_fair" sp [] := by
    rintro C sp h
    rcases h with ⟨rfl, rfl⟩ | ⟨rfl, rfl⟩
    · exact c_TryRule_WeightRule_is_fair.mono (by decide)
    · exact c_TurnRule_WeightRule_is_fair.mono (by decide)
  have g_fair_weight := ok_fair_weight (P := l.prog) (w := w) (base := base) F_fair_weight T c_is_pair c_pis_fair_TryRule_TurnRule (PySem.W.mg_of X G y346) y349 b_fair_weight
  have c_fair_weight : Ev.GC l.prog w K mg base 62 "fair_weight" (spP K cm 2 m_fair_weight) [] := ⟨⟨_, _, _, _, g_fair_weight, PySem.W.mg_of X G y346, y349, b_fair_weight, .nil⟩⟩
  have g_is_fair := ok_is_fair (P := l.prog) (w := w) (base := base) F_is_fair T c_need_weight_rule c_fair_weight
  have c_is_fair : Ev.GC l.prog w K mg base 63 "is_fair" (spP K cm 2 m_is_fair) [] := ⟨⟨_, _, _, _, g_is_fair, PySem.W.mg_of X G y350, y353, b_is_fair, .nil⟩⟩
  have g_measured := ok_measured (P := l.prog) (w := w) (base := base) F_measured T c_is_pair (PySem.W.mg_of X G y354) y357 b_measured
  have c_measured : Ev.GC l.prog w K mg base 61 "measured" (spP K cm 1 m_measured) [] := ⟨⟨_, _, _, _, g_measured, PySem.W.mg_of X G y354, y357, b_measured, .nil⟩⟩
  have xc_BadOther : Ev.XC l.prog w K mg base "BadOther" X_BadOther (Ev.spX1 K "part") 1 := ⟨⟨_, _, _, T.oe_BadOther, y397, y435, ok_BadOther_init F_BadOther_init, b_BadOther_init, PySem.W.mg_of X G y138⟩⟩
  have g_needed := ok_needed (P := l.prog) (w := w) (base := base) F_needed T c_measured xc_BadOther
  have c_needed : Ev.GC l.prog w K mg base 62 "needed" (spP K cm 1 m_needed) [] := ⟨⟨_, _, _, _, g_needed, PySem.W.mg_of X G y358, y361, b_needed, .nil⟩⟩
  have g_keys_of := ok_keys_of (P := l.prog) (w := w) (base := base) F_keys_of T c_needed
  have c_keys_of : Ev.GC l.prog w K mg base 63 "keys_of" (spP K cm 1 m_keys_of) [] := ⟨⟨_, _, _, _, g_keys_of, PySem.W.mg_of X G y362, y365, b_keys_of, .nil⟩⟩
  have g_height_of := ok_height_of (P := l.prog) (w := w) (base := base) F_height_of T c_needed
  have c_height_of : Ev.GC l.prog w K mg base 63 "height_of" (spP K cm 1 m_height_of) [] := ⟨⟨_, _, _, _, g_height_of, PySem.W.mg_of X G y366, y369, b_height_of, .nil⟩⟩
  have g_least_height := ok_least_height (P := l.prog) (w := w) (base := base) F_least_height T c_need_number
  have c_least_height : Ev.GC l.prog w K mg base 4 "least_height" (spP K cm 1 m_least_height) [] := ⟨⟨_, _, _, _, g_least_height, PySem.W.mg_of X G y370, y373, b_least_height, .nil⟩⟩
  have g_greatest_height := ok_greatest_height (P := l.prog) (w := w) (base := base) F_greatest_height T c_need_weight_rule c_need_number c_highest
  have c_greatest_height : Ev.GC l.prog w K mg base 4 "greatest_height" (spP K cm 2 m_greatest_height) [] := ⟨⟨_, _, _, _, g_greatest_height, PySem.W.mg_of X G y374, y377, b_greatest_height, .nil⟩⟩
  have g_law_right := ok_law_right (P := l.prog) (w := w) (base := base) F_law_right T c_law_numbers c_draw c_law_rule c_halves_shape c_tall_shape c_law_tall c_law_halves c_is_fair c_keys_of c_height_of c_least_height c_greatest_height
  have c_law_right : Ev.GC l.prog w K mg base 76 "_law_right" (spP K cm 2 m_law_right) [] := ⟨⟨_, _, _, _, g_law_right, PySem.W.mg_of X G y378, y381, b_law_right, .nil⟩⟩
  have c_halves_shape_0_keys : Ev.GCK l.prog w K mg base 15 "halves_shape" (spP K cm 1 m_halves_shape) 0 ["keys"] (pk [] [] [(3, 0)]) := ⟨⟨_, _, _, _, g_halves_shape, PySem.W.mg_of X G y297, y300, kb_halves_shape_0_keys⟩⟩
  have c_tall_shape_0_keys_rule : Ev.GCK l.prog w K mg base 75 "tall_shape" (spP K cm 2 m_tall_shape) 0 ["keys", "rule"] (pk [] [] [(3, 1), (3, 0)]) := ⟨⟨_, _, _, _, g_tall_shape, PySem.W.mg_of X G y317, y320, kb_tall_shape_0_keys_rule⟩⟩
  have c_mk_TryRule_1_ : Ev.GN l.prog w K mg base 6 "TryRule" C_TryRule (spI K cm 3 m_TryRule_init) 1 [] (pkS [.int 0] [] [(0, 0), (1, 0)]) := ⟨⟨_, _, _, _, ⟨y429, y275, y279, y430⟩, g_TryRule_init, PySem.W.mg_of X G y45, kb_TryRule_init_1_⟩⟩
  exact ok_law (P := l.prog) (w := w) (base := base) F_law T pure c_draw c_law_pick c_law_right c_halves_shape_0_keys c_mk_TryRule_2_ c_tall_shape_0_keys_rule c_mk_TryRule_1_ c_tall_shape c_pen
end K31
open PySem PySem.W PyProof.Rows
set_option maxRecDepth 100000 in
set_option maxHeartbeats 0 in
theorem PySem.Challenge.cw_evenrules_k31_tall_shapes_and_halves_holds : PySem.Challenge.rw_evenrules_k31_tall_shapes_and_halves.Holds := by
  w_on; o_law; k_head; (case hw => w_witness2)
  k_fill
  refine Ev.walk_gT (l := PySem.Challenge.rw_evenrules_k31_tall_shapes_and_halves) (n := 63) (k := 77) (x := "_law_script") [] rfl (by decide) rfl ⟨rfl, by decide, by decide⟩ (by decide +kernel) (by decide +kernel) (fun w h Y => by first | exact PySem.W.kIn_of Y | exact PySem.W.km_in_of Y) ?F
  case F =>
    intro w mg fa h KX G hmg
    refine' K31.all_mk K31.law_pure KX G hmg ?y1 ?y2 ?y3 ?y4 ?y5 ?y6 ?y7 ?y8 ?y9 ?y10 ?y11 ?y12 ?y13 ?y14 ?y15 ?y16 ?y17 ?y18 ?y19 ?y20 ?y21 ?y22 ?y23 ?y24 ?y25 ?y26 ?y27 ?y28 ?y29 ?y30 ?y31 ?y32 ?y33 ?y34 ?y35 ?y36 ?y37 ?y38 ?y39 ?y40 ?y41 ?y42 ?y43 ?y44 ?y45 ?y46 ?y47 ?y48 ?y49 ?y50 ?y51 ?y52 ?y53 ?y54 ?y55 ?y56 ?y57 ?y58 ?y59 ?y60 ?y61 ?y62 ?y63 ?y64 ?y65 ?y66 ?y67 ?y68 ?y69 ?y70 ?y71 ?y72 ?y73 ?y74 ?y75 ?y76 ?y77 ?y78 ?y79 ?y80 ?y81 ?y82 ?y83 ?y84 ?y85 ?y86 ?y87 ?y88 ?y89 ?y90 ?y91 ?y92 ?y93 ?y94 ?y95 ?y96 ?y97 ?y98 ?y99 ?y100 ?y101 ?y102 ?y103 ?y104 ?y105 ?y106 ?y107 ?y108 ?y109 ?y110 ?y111 ?y112 ?y113 ?y114 ?y115 ?y116 ?y117 ?y118 ?y119 ?y120 ?y121 ?y122 ?y123 ?y124 ?y125 ?y126 ?y127 ?y128 ?y129 ?y130 ?y131 ?y132 ?y133 ?y134 ?y135 ?y136 ?y137 ?y138 ?y139 ?y140 ?y141 ?y142 ?y143 ?y144 ?y145 ?y146 ?y147 ?y148 ?y149 ?y150 ?y151 ?y152 ?y153 ?y154 ?y155 ?y156 ?y157 ?y158 ?y159 ?y160 ?y161 ?y162 ?y163 ?y164 ?y165 ?y166 ?y167 ?y168 ?y169 ?y170 ?y171 ?y172 ?y173 ?y174 ?y175 ?y176 ?y177 ?y178 ?y179 ?y180 ?y181 ?y182 ?y183 ?y184 ?y185 ?y186 ?y187 ?y188 ?y189 ?y190 ?y191 ?y192 ?y193 ?y194 ?y195 ?y196 ?y197 ?y198 ?y199 ?y200 ?y201 ?y202 ?y203 ?y204 ?y205 ?y206 ?y207 ?y208 ?y209 ?y210 ?y211 ?y212 ?y213 ?y214 ?y215 ?y216 ?y217 ?y218 ?y219 ?y220 ?y221 ?y222 ?y223 ?y224 ?y225 ?y226 ?y227 ?y228 ?y229 ?y230 ?y231 ?y232 ?y233 ?y234 ?y235 ?y236 ?y237 ?y238 ?y239 ?y240 ?y241 ?y242 ?y243 ?y244 ?y245 ?y246 ?y247 ?y248 ?y249 ?y250 ?y251 ?y252 ?y253 ?y254 ?y255 ?y256 ?y257 ?y258 ?y259 ?y260 ?y261 ?y262 ?y263 ?y264 ?y265 ?y266 ?y267 ?y268 ?y269 ?y270 ?y271 ?y272 ?y273 ?y274 ?y275 ?y276 ?y277 ?y278 ?y279 ?y280 ?y281 ?y282 ?y283 ?y284 ?y285 ?y286 ?y287 ?y288 ?y289 ?y290 ?y291 ?y292 ?y293 ?y294 ?y295 ?y296 ?y297 ?y298 ?y299 ?y300 ?y301 ?y302 ?y303 ?y304 ?y305 ?y306 ?y307 ?y308 ?y309 ?y310 ?y311 ?y312 ?y313 ?y314 ?y315 ?y316 ?y317 ?y318 ?y319 ?y320 ?y321 ?y322 ?y323 ?y324 ?y325 ?y326 ?y327 ?y328 ?y329 ?y330 ?y331 ?y332 ?y333 ?y334 ?y335 ?y336 ?y337 ?y338 ?y339 ?y340 ?y341 ?y342 ?y343 ?y344 ?y345 ?y346 ?y347 ?y348 ?y349 ?y350 ?y351 ?y352 ?y353 ?y354 ?y355 ?y356 ?y357 ?y358 ?y359 ?y360 ?y361 ?y362 ?y363 ?y364 ?y365 ?y366 ?y367 ?y368 ?y369 ?y370 ?y371 ?y372 ?y373 ?y374 ?y375 ?y376 ?y377 ?y378 ?y379 ?y380 ?y381 ?y382 ?y383 ?y384 ?y385 ?y386 ?y387 ?y388 ?y389 ?y390 ?y391 ?y392 ?y393 ?y394 ?y395 ?y396 ?y397 ?y398 ?y399 ?y400 ?y401 ?y402 ?y403 ?y404 ?y405 ?y406 ?y407 ?y408 ?y409 ?y410 ?y411 ?y412 ?y413 ?y414 ?y415 ?y416 ?y417 ?y418 ?y419 ?y420 ?y421 ?y422 ?y423 ?y424 ?y425 ?y426 ?y427 ?y428 ?y429 ?y430 ?y431 ?y432 ?y433 ?y434 ?y435
    (case y1 => k_is)
    (case y2 => k_is)
    (case y3 => k_is)
    (case y4 => k_is)
    (case y5 => k_is)
    (case y6 => k_is)
    (case y7 => k_is)
    (case y8 => k_is)
    (case y9 => k_is)
    (case y10 => k_is)
    (case y11 => k_is)
    (case y12 => k_is)
    (case y13 => k_is)
    (case y14 => k_is)
    (case y15 => k_is)
    (case y16 => k_is)
    (case y17 => k_is)
    (case y18 => k_is)
    (case y19 => k_is)
    (case y20 => k_is)
    (case y21 => k_is)
    (case y22 => k_is)
    (case y23 => k_is)
    (case y24 => k_is)
    (case y25 => k_is)
    (case y26 => k_is)
    (case y27 => k_is)
    (case y28 => k_is)
    (case y29 => k_is)
    (case y30 => k_is)
    (case y31 => k_is)
    (case y32 => k_is)
    (case y33 => k_is)
    (case y34 => k_is)
    (case y35 => k_is)
    (case y36 => k_is)
    (case y37 => k_is)
    (case y38 => k_is)
    (case y39 => k_is)
    (case y40 => k_is)
    (case y41 => k_is)
    (case y42 => k_is)
    (case y43 => k_is)
    (case y44 => k_is)
    (case y45 => k_is)
    (case y46 => k_is)
    (case y47 => k_is)
    (case y48 => k_is)
    (case y49 => k_is)
    (case y50 => k_is)
    (case y51 => k_is)
    (case y52 => k_is)
    (case y53 => k_is)
    (case y54 => k_is)
    (case y55 => k_is)
    (case y56 => k_is)
    (case y57 => k_is)
    (case y58 => k_is)
    (case y59 => k_is)
    (case y60 => k_is)
    (case y61 => k_is)
    (case y62 => k_is)
    (case y63 => k_is)
    (case y64 => k_is)
    (case y65 => k_is)
    (case y66 => k_is)
    (case y67 => k_is)
    (case y68 => k_is)
    (case y69 => k_is)
    (case y70 => k_is)
    (case y71 => k_is)
    (case y72 => k_is)
    (case y73 => k_is)
    (case y74 => k_is)
    (case y75 => k_is)
    (case y76 => k_is)
    (case y77 => k_is)
    (case y78 => k_is)
    (case y79 => k_is)
    (case y80 => k_is)
    (case y81 => k_is)
    (case y82 => k_is)
    (case y83 => k_is)
    (case y84 => k_is)
    (case y85 => k_is)
    (case y86 => k_is)
    (case y87 => k_is)
    (case y88 => k_is)
    (case y89 => k_is)
    (case y90 => k_is)
    (case y91 => k_is)
    (case y92 => k_is)
    (case y93 => k_is)
    (case y94 => k_is)
    (case y95 => k_is)
    (case y96 => k_is)
    (case y97 => k_is)
    (case y98 => k_is)
    (case y99 => k_is)
    (case y100 => k_is)
    (case y101 => k_is)
    (case y102 => k_is)
    (case y103 => k_is)
    (case y104 => k_is)
    (case y105 => k_is)
    (case y106 => k_is)
    (case y107 => k_is)
    (case y108 => k_is)
    (case y109 => k_is)
    (case y110 => k_is)
    (case y111 => k_is)
    (case y112 => k_is)
    (case y113 => k_is)
    (case y114 => k_is)
    (case y115 => k_is)
    (case y116 => k_is)
    (case y117 => k_is)
    (case y118 => k_is)
    (case y119 => k_is)
    (case y120 => k_is)
    (case y121 => k_is)
    (case y122 => k_is)
    (case y123 => k_is)
    (case y124 => k_is)
    (case y125 => k_is)
    (case y126 => k_is)
    (case y127 => k_is)
    (case y128 => k_is)
    (case y129 => k_is)
    (case y130 => k_is)
    (case y131 => k_is)
    (case y132 => k_is)
    (case y133 => k_is)
    (case y134 => k_is)
    (case y135 => k_is)
    (case y136 => k_is)
    (case y137 => k_is)
    (case y138 => k_is)
    (case y139 => k_is)
    (case y140 => k_is)
    (case y141 => k_is)
    (case y142 => k_is)
    (case y143 => k_is)
    (case y144 => k_is)
    (case y145 => k_is)
    (case y146 => k_is)
    (case y147 => k_is)
    (case y148 => k_is)
    (case y149 => k_is)
    (case y150 => k_is)
    (case y151 => decide +kernel)
    (case y152 => k_is)
    (case y153 => k_is)
    (case y154 => k_is)
    (case y155 => decide +kernel)
    (case y156 => k_is)
    (case y157 => k_is)
    (case y158 => k_is)
    (case y159 => decide +kernel)
    (case y160 => k_is)
    (case y161 => k_is)
    (case y162 => k_is)
    (case y163 => decide +kernel)
    (case y164 => k_is)
    (case y165 => k_is)
    (case y166 => k_is)
    (case y167 => decide +kernel)
    (case y168 => k_is)
    (case y169 => k_is)
    (case y170 => k_is)
    (case y171 => k_is)
    (case y172 => k_is)
    (case y173 => k_is)
    (case y174 => k_is)
    (case y175 => k_is)
    (case y176 => k_is)
    (case y177 => k_is)
    (case y178 => k_is)
    (case y179 => k_is)
    (case y180 => k_is)
    (case y181 => k_is)
    (case y182 => k_is)
    (case y183 => k_is)
    (case y184 => k_is)
    (case y185 => k_is)
    (case y186 => k_is)
    (case y187 => k_is)
    (case y188 => k_is)
    (case y189 => k_is)
    (case y190 => k_is)
    (case y191 => k_is)
    (case y192 => k_is)
    (case y193 => k_is)
    (case y194 => k_is)
    (case y195 => k_is)
    (case y196 => k_is)
    (case y197 => k_is)
    (case y198 => k_is)
    (case y199 => k_is)
    (case y200 => k_is)
    (case y201 => k_is)
    (case y202 => k_is)
    (case y203 => k_is)
    (case y204 => k_is)
    (case y205 => k_is)
    (case y206 => k_is)
    (case y207 => k_is)
    (case y208 => k_is)
    (case y209 => k_is)
    (case y210 => k_is)
    (case y211 => k_is)
    (case y212 => k_is)
    (case y213 => k_is)
    (case y214 => k_is)
    (case y215 => k_is)
    (case y216 => k_is)
    (case y217 => k_is)
    (case y218 => k_is)
    (case y219 => k_is)
    (case y220 => k_is)
    (case y221 => k_is)
    (case y222 => k_is)
    (case y223 => k_is)
    (case y224 => k_is)
    (case y225 => k_is)
    (case y226 => k_is)
    (case y227 => k_is)
    (case y228 => k_is)
    (case y229 => k_is)
    (case y230 => k_is)
    (case y231 => k_is)
    (case y232 => k_is)
    (case y233 => k_is)
    (case y234 => k_is)
    (case y235 => k_is)
    (case y236 => k_is)
    (case y237 => k_is)
    (case y238 => k_is)
    (case y239 => k_is)
    (case y240 => k_is)
    (case y241 => k_is)
    (case y242 => k_is)
    (case y243 => k_is)
    (case y244 => k_is)
    (case y245 => k_is)
    (case y246 => k_is)
    (case y247 => k_is)
    (case y248 => k_is)
    (case y249 => k_is)
    (case y250 => k_is)
    (case y251 => k_is)
    (case y252 => k_is)
    (case y253 => k_is)
    (case y254 => k_is)
    (case y255 => k_is)
    (case y256 => k_is)
    (case y257 => k_is)
    (case y258 => k_is)
    (case y259 => k_is)
    (case y260 => k_is)
    (case y261 => k_is)
    (case y262 => k_is)
    (case y263 => k_is)
    (case y264 => k_is)
    (case y265 => k_is)
    (case y266 => k_is)
    (case y267 => k_is)
    (case y268 => k_is)
    (case y269 => k_is)
    (case y270 => k_is)
    (case y271 => rfl)
    (case y272 => first | rfl | decide +kernel)
    (case y273 => k_is)
    (case y274 => k_is)
    (case y275 => k_is)
    (case y276 => k_is)
    (case y277 => k_is)
    (case y278 => k_is)
    (case y279 => k_is)
    (case y280 => k_is)
    (case y281 => rfl)
    (case y282 => first | rfl | decide +kernel)
    (case y283 => k_is)
    (case y284 => k_is)
    (case y285 => k_is)
    (case y286 => k_is)
    (case y287 => k_is)
    (case y288 => k_is)
    (case y289 => k_is)
    (case y290 => k_is)
    (case y291 => k_is)
    (case y292 => k_is)
    (case y293 => k_is)
    (case y294 => k_is)
    (case y295 => k_is)
    (case y296 => k_is)
    (case y297 => k_is)
    (case y298 => k_is)
    (case y299 => k_is)
    (case y300 => k_is)
    (case y301 => k_is)
    (case y302 => k_is)
    (case y303 => k_is)
    (case y304 => k_is)
    (case y305 => k_is)
    (case y306 => k_is)
    (case y307 => k_is)
    (case y308 => k_is)
    (case y309 => k_is)
    (case y310 => k_is)
    (case y311 => k_is)
    (case y312 => k_is)
    (case y313 => k_is)
    (case y314 => k_is)
    (case y315 => k_is)
    (case y316 => k_is)
    (case y317 => k_is)
    (case y318 => k_is)
    (case y319 => k_is)
    (case y320 => k_is)
    (case y321 => k_is)
    (case y322 => k_is)
    (case y323 => k_is)
    (case y324 => k_is)
    (case y325 => k_is)
    (case y326 => k_is)
    (case y327 => k_is)
    (case y328 => k_is)
    (case y329 => k_is)
    (case y330 => k_is)
    (case y331 => k_is)
    (case y332 => k_is)
    (case y333 => k_is)
    (case y334 => k_is)
    (case y335 => k_is)
    (case y336 => k_is)
    (case y337 => k_is)
    (case y338 => k_is)
    (case y339 => k_is)
    (case y340 => k_is)
    (case y341 => k_is)
    (case y342 => k_is)
    (case y343 => k_is)
    (case y344 => k_is)
    (case y345 => k_is)
    (case y346 => k_is)
    (case y347 => k_is)
    (case y348 => k_is)
    (case y349 => k_is)
    (case y350 => k_is)
    (case y351 => k_is)
    (case y352 => k_is)
    (case y353 => k_is)
    (case y354 => k_is)
    (case y355 => k_is)
    (case y356 => k_is)
    (case y357 => k_is)
    (case y358 => k_is)
    (case y359 => k_is)
    (case y360 => k_is)
    (case y361 => k_is)
    (case y362 => k_is)
    (case y363 => k_is)
    (case y364 => k_is)
    (case y365 => k_is)
    (case y366 => k_is)
    (case y367 => k_is)
    (case y368 => k_is)
    (case y369 => k_is)
    (case y370 => k_is)
    (case y371 => k_is)
    (case y372 => k_is)
    (case y373 => k_is)
    (case y374 => k_is)
    (case y375 => k_is)
    (case y376 => k_is)
    (case y377 => k_is)
    (case y378 => k_is)
    (case y379 => k_is)
    (case y380 => k_is)
    (case y381 => k_is)
    (case y382 => k_is)
    (case y383 => k_is)
    (case y384 => k_is)
    (case y385 => k_is)
    (case y386 => k_is)
    (case y387 => k_is)
    (case y388 => k_is)
    (case y389 => k_is)
    (case y390 => k_is)
    (case y391 => k_is)
    (case y392 => k_is)
    (case y393 => k_is)
    (case y394 => k_is)
    (case y395 => k_is)
    (case y396 => k_is)
    (case y397 => k_is)
    (case y398 => k_is)
    (case y399 => k_is)
    (case y400 => k_is)
    (case y401 => k_is)
    (case y402 => k_is)
    (case y403 => k_is)
    (case y404 => k_is)
    (case y405 => k_is)
    (case y406 => k_is)
    (case y407 => k_is)
    (case y408 => k_is)
    (case y409 => k_is)
    (case y410 => k_is)
    (case y411 => k_is)
    (case y412 => k_is)
    (case y413 => k_is)
    (case y414 => decide +kernel)
    (case y415 => k_is)
    (case y416 => ks_is)
    (case y417 => k_is)
    (case y418 => k_is)
    (case y419 => k_is)
    (case y420 => k_is)
    (case y421 => k_is)
    (case y422 => k_is)
    (case y423 => k_is)
    (case y424 => decide +kernel)
    (case y425 => k_is)
    (case y426 => ks_is)
    (case y427 => k_is)
    (case y428 => k_is)
    (case y429 => k_is)
    (case y430 => k_is)
    (case y431 => k_is)
    (case y432 => k_is)
    (case y433 => k_is)
    (case y434 => k_is)
    (case y435 => k_is)
#print axioms PySem.Challenge.cw_evenrules_k31_tall_shapes_and_halves_holds