import PyProof.Rows.All
import Wide.All
import OpenK.AllK
import Wide.FinOn
import HandS.ForMost
import HandS.ForExc
import HandS.Wide
import HandS.Codes
import HandS.EndBits
import HandS.MakeKwOnly
import HandS.IsInst
import HandS.FStrTup
import HandS.TupAny
import HandS.Style
import HandS.Star
import KE.KOpsOwn
import PyProof.InstNe
import KE.KCallOwn
import KE.KMethU
import HandS.ClsMeth
import HandS.Zip
import HandS.TupMul
import PySem.Challenge.RW_evenrules_k04_tests_added_and_turned
set_option Elab.async false
set_option linter.all false
set_option maxRecDepth 100000
set_option pp.maxSteps 1500
set_option pp.deepTerms false
set_option maxHeartbeats 4000000
/-! ### my own words over the hand layer: heaps, data -/
namespace Ev
open PySem L2
theorem get_new {H : Hp} {p q : Addr} {o u : HO} (h : H q = some o) (hp : H p = none) : upd H p u q = some o := (upd_ne (ne_of_none h hp)).trans h
theorem get_ne {H : Hp} {p q : Addr} {o u : HO} (hn : q ≠ p) (h : H q = some o) : upd H p u q = some o := (upd_ne hn).trans h
/-- all but p is as it was -/
def But (p : Addr) (H H' : Hp) : Prop := ∀ b o, H b = some o → b ≠ p → H' b = some o
theorem But.refl (p : Addr) (H : Hp) : But p H H := fun _ _ h _ => h
theorem But.trans {p : Addr} {H H1 H2 : Hp} (a : But p H H1) (b : But p H1 H2) : But p H H2 := fun c o h n => b c o (a c o h n) n
theorem But.new {p q : Addr} {H H1 : Hp} {o : HO} (a : But p H H1) (h : H1 q = none) : But p H (upd H1 q o) := fun c u e n => get_new (a c u e n) h
theorem But.set {p : Addr} {H H1 : Hp} {o : HO} (a : But p H H1) : But p H (upd H1 p o) := fun c u e n => get_ne n (a c u e n)
/-- data: lists and tuples of ints -/
theorem dpa_ints (K : PySem.W.Frag) (H : Hp) : ∀ ns : List Int, DpAll K H (ns.map V.int) (ns.map PyData.int)
  | [] => .nil
  | n :: r => .cons (.int n) (dpa_ints K H r)
theorem dp_ints {K : PySem.W.Frag} {H : Hp} {a : Addr} {ns : List Int} (h : SqL K H a (ns.map V.int)) : Dp K H (.ref a) (.list (ns.map PyData.int)) := .lst h (dpa_ints K H ns)
theorem can_ints : ∀ ns : List Int, PyData.canLayAll0 (ns.map PyData.int) = true
  | [] => rfl
  | n :: r => by
    show (PyData.canLay0 (PyData.int n) && PyData.canLayAll0 (r.map PyData.int)) = true
    rw [can_ints r]
    rfl
theorem dep_ints : ∀ ns : List Int, PyData.depthAll (ns.map PyData.int) ≤ 1
  | [] => Nat.zero_le _
  | n :: r => by
    have ih := dep_ints r
    have e : PyData.depthAll ((n :: r).map PyData.int) = max (PyData.depth (PyData.int n)) (PyData.depthAll (r.map PyData.int)) := rfl
    have z : PyData.depth (PyData.int n) ≤ 1 := by
      first
        | exact Nat.zero_le _
        | exact Nat.le_refl _
        | decide
    rw [e]
    omega
theorem sh_ints (ns : List Int) : SeqAt.shaped (.list (ns.map PyData.int)) = true := by
  have h1 := can_ints ns
  have h2 := dep_ints ns
  have e : PyData.depth (.list (ns.map PyData.int)) ≤ 64 := by
    have q : PyData.depth (.list (ns.map PyData.int)) ≤ PyData.depthAll (ns.map PyData.int) + 1 := by
      first
        | exact Nat.le_refl _
        | (simp only [PyData.depth]; omega)
    omega
  show (PyData.canLay0 (.list (ns.map PyData.int)) && decide (PyData.depth (.list (ns.map PyData.int)) ≤ 64)) = true
  rw [decide_eq_true e, Bool.and_true]
  exact h1
theorem eqv_ints : ∀ ns ms : List Int, PyData.eqvAll (ns.map PyData.int) (ms.map PyData.int) = decide (ns = ms)
  | [], [] => rfl
  | [], _ :: _ => by simp [PyData.eqvAll]
  | _ :: _, [] => by simp [PyData.eqvAll]
  | n :: r, m :: t => by
    show (PyData.eqv (PyData.int n) (PyData.int m) && PyData.eqvAll (r.map PyData.int) (t.map PyData.int)) = _
    rw [eqv_ints r t]
    have e : PyData.eqv (PyData.int n) (PyData.int m) = (n == m) := rfl
    rw [e]
    by_cases h : n = m
    · subst h
      by_cases h2 : r = t
      · subst h2
        simp
      · simp [h2]
    · simp [h]
theorem ne_ints {K : PySem.W.Frag} {H : Hp} {a b : Addr} {ns ms : List Int} {Q : VK} (ha : SqL K H a (ns.map V.int)) (hb : SqL K H b (ms.map V.int)) (q : Q (.bl (!decide (ns = ms))) H) : rNeD K (.ref a) (.ref b) H Q := by
  refine ⟨_, _, dp_ints ha, dp_ints hb, sh_ints ns, sh_ints ms, ?_⟩
  have e : PyData.eqv (.list (ns.map PyData.int)) (.list (ms.map PyData.int)) = decide (ns = ms) := eqv_ints ns ms
  rw [e]
  exact q
theorem eq_ints {K : PySem.W.Frag} {H : Hp} {a b : Addr} {ns ms : List Int} {Q : VK} (ha : SqL K H a (ns.map V.int)) (hb : SqL K H b (ms.map V.int)) (q : Q (.bl (decide (ns = ms))) H) : rEqD K (.ref a) (.ref b) H Q := by
  refine ⟨_, _, dp_ints ha, dp_ints hb, sh_ints ns, sh_ints ms, ?_⟩
  have e : PyData.eqv (.list (ns.map PyData.int)) (.list (ms.map PyData.int)) = decide (ns = ms) := eqv_ints ns ms
  rw [e]
  exact q
/-- an int of a list of ints at a place within -/
theorem at_int {ns : List Int} {i : Int} (h0 : 0 ≤ i) (h1 : i < ns.length) : ∃ z ∈ ns, atI (ns.map V.int) i = some (.int z) := by
  have hj : i.toNat < ns.length := by omega
  refine ⟨ns[i.toNat], List.getElem_mem hj, ?_⟩
  refine at_of (j := i.toNat) (by omega) ?_
  rw [List.getElem?_map, List.getElem?_eq_getElem hj]
  rfl
theorem cut_ints (ns : List Int) (lo hi : Option Int) : ∃ ms : List Int, cutV (ns.map V.int) lo hi = ms.map V.int ∧ ms.length ≤ ns.length ∧ ∀ z ∈ ms, z ∈ ns := by
  refine ⟨(ns.drop (HT.sIx (ns.map V.int).length 0 lo)).take (HT.sIx (ns.map V.int).length (ns.map V.int).length hi - HT.sIx (ns.map V.int).length 0 lo), ?_, ?_, fun z hz => List.mem_of_mem_drop (List.mem_of_mem_take hz)⟩
  · unfold cutV
    rw [List.map_take, List.map_drop]
  · rw [List.length_take, List.length_drop]
    omega
/-- the law's pen at p: its cells at c, at most n draws so far -/
def Pen (H : Hp) (p c : Addr) (n : Int) : Prop := ∃ (t g : Int) (ns : List Int), H p = some (.lst [.ref c, .int t, .int g]) ∧ H c = some (.lst (ns.map V.int)) ∧ 0 ≤ t ∧ t ≤ n ∧ 0 ≤ g ∧ c ≠ p ∧ ns.length ≤ 63
theorem Pen.ne {H : Hp} {p c t : Addr} {n : Int} (h : Pen H p c n) (ht : H t = none) : t ≠ p := by
  obtain ⟨a, b, ns, e, _⟩ := h
  exact (ne_of_none e ht).symm
theorem Pen.neC {H : Hp} {p c t : Addr} {n : Int} (h : Pen H p c n) (ht : H t = none) : t ≠ c := by
  obtain ⟨a, b, ns, _, e, _⟩ := h
  exact (ne_of_none e ht).symm
theorem Pen.mono {H : Hp} {p c : Addr} {n m : Int} (h : Pen H p c n) (l : n ≤ m) : Pen H p c m := by
  obtain ⟨a, b, ns, e1, e2, e3, e4, e5⟩ := h
  exact ⟨a, b, ns, e1, e2, e3, by omega, e5⟩
theorem Pen.same {H H1 : Hp} {p c : Addr} {n : Int} (h : Pen H p c n) (s : Same H H1) : Pen H1 p c n := by
  obtain ⟨a, b, ns, e1, e2, r⟩ := h
  exact ⟨a, b, ns, s _ _ e1, s _ _ e2, r⟩
theorem Pen.new {H : Hp} {p c t : Addr} {n : Int} {o : HO} (h : Pen H p c n) (ht : H t = none) : Pen (upd H t o) p c n := h.same fun _ _ e => get_new e ht
theorem Pen.set {H : Hp} {p c t : Addr} {n : Int} {o : HO} (h : Pen H p c n) (h1 : t ≠ p) (h2 : t ≠ c) : Pen (upd H t o) p c n := by
  obtain ⟨a, b, ns, e1, e2, r⟩ := h
  exact ⟨a, b, ns, get_ne h1.symm e1, get_ne h2.symm e2, r⟩
/-- what stays but for one object stays if the pen's own are not that one -/
theorem Pen.but {H H1 : Hp} {p c x : Addr} {n : Int} (h : Pen H p c n) (s : But x H H1) (h1 : p ≠ x) (h2 : c ≠ x) : Pen H1 p c n := by
  obtain ⟨a, b, ns, e1, e2, r⟩ := h
  exact ⟨a, b, ns, s _ _ e1 h1, s _ _ e2 h2, r⟩
theorem But.free {p t : Addr} {H H1 : Hp} (b : But p H H1) (h : H1 t = none) (n : t ≠ p) : H t = none := by
  cases z : H t with
  | none => rfl
  | some o =>
    rw [b t o z n] at h
    cases h
theorem get_but {p q : Addr} {H H1 : Hp} {o : HO} (b : But p H H1) (hn : q ≠ p) (h : H q = some o) : H1 q = some o := b q o h hn
theorem get_same {q : Addr} {H H1 : Hp} {o : HO} (b : Same H H1) (h : H q = some o) : H1 q = some o := b q o h
theorem len_putF {f : Str} {y : V} {fs : List (Str × V)} {n : Nat} (h : fs.length ≤ n) : (putF f y fs).length ≤ n + 1 := Nat.le_trans (length_putF f y fs) (Nat.succ_le_succ h)
theorem free_back {H H1 : Hp} {p : Addr} (a : Same H H1) (h : H1 p = none) : H p = none := a.free h
theorem ne_new {H : Hp} {p q : Addr} {o : HO} (h : upd H p o q = none) : q ≠ p := fun z => by
  subst z
  rw [upd_same] at h
  cases h
theorem free_upd {H : Hp} {p q : Addr} {o : HO} (h : upd H p o q = none) : H q = none := by
  have := upd_ne (H := H) (o := o) (ne_new h)
  rw [this] at h
  exact h
theorem rel_int {i : Int} {t : Tok} : RelV (.int i) (.int i t) := ⟨t, rfl⟩
theorem rel_str {x : Str} {t : Tok} : RelV (.str x) (.str x t) := ⟨t, rfl⟩
theorem mul_lt {a b m n : Int} (a0 : 0 ≤ a) (b0 : 0 ≤ b) (h1 : a < m) (h2 : b < n) : 0 ≤ a * b ∧ a * b < m * n := by
  refine ⟨Int.mul_nonneg a0 b0, ?_⟩
  exact Int.lt_of_le_of_lt (Int.mul_le_mul_of_nonneg_left (Int.le_of_lt h2) a0) (Int.mul_lt_mul_of_pos_right h1 (by omega))
theorem pow3 {y t c e k : Int} (y0 : 0 ≤ y) (y1 : y < 2147483648) (t0 : 0 ≤ t) (t1 : t ≤ 100000) (c0 : 0 ≤ c) (c1 : c ≤ 1000000) (k0 : 0 ≤ k) (k1 : k ≤ 1000000) (e0 : 0 ≤ e) (e1 : e ≤ 1000000) : CPow (y * (2 * t + c) + k * t * t + e) 3 := by
  have a := mul_lt y0 (show 0 ≤ 2 * t + c by omega) y1 (show 2 * t + c < 2097152 by omega)
  have b := mul_lt k0 t0 (show k < 1048576 by omega) (show t < 131072 by omega)
  have d := mul_lt b.1 t0 b.2 (show t < 131072 by omega)
  refine ⟨by decide, by decide, ?_⟩
  omega
theorem great_nn {a B : Int} {b : Bool} (h : B ≤ a) : 0 ≤ 2 * (a - B) + (if b = true then 1 else 0) := by
  split <;> omega
end Ev

/-! ### defs where no repr runs around: the context's guards are told -/
namespace Ev
open PySem PySem.Spec PyProof.Rows L2
theorem _root_.L2.Room.un0 {k : Nat} {A : Around} (r : Room k A) : A.units + 200 < cLine := by
  have := r.un
  omega
/-- as FnOk, for calls with no guard around -/
structure GOk (P : Program) (w : World) (K : PySem.W.Frag) (mg : Str → Option Value) (base : Heap) (CX : CXT) (k : Nat) (f : Addr) (fd : FuncData) (ps : List Str) (sp : Sp) : Prop where
  len : ∀ vs H Q E, sp vs H Q E → vs.length = ps.length
  run : ∀ (A : Around) (outer : List Env) (s : Shared) (H : Hp) (args : Args) (us : List Value) (vs : List V) (Q : VK) (E : XK),
    A.guards = some [] → Room k A → Env0 P w K mg base A outer s H → BindsTo s fd args (ps.zip us) → Vals vs us → sp vs H Q E →
    codeAny (model P w) A (.call (.ref f) args) (CR CX outer P w H s Q E) s
theorem GOk.of {P : Program} {w : World} {K : PySem.W.Frag} {mg : Str → Option Value} {base : Heap} {CX : CXT} {k : Nat} {f : Addr} {fd : FuncData} {ps : List Str} {sp : Sp}
    (F : FnOk P w K mg base CX k f fd ps sp) : GOk P w K mg base CX k f fd ps sp := ⟨F.len, fun A o s H a us vs Q E _ hr => F.run A o s H a us vs Q E hr⟩
theorem GOk.mono {P : Program} {w : World} {K : PySem.W.Frag} {mg : Str → Option Value} {base : Heap} {CX : CXT} {j k : Nat} {f : Addr} {fd : FuncData} {ps : List Str} {sp : Sp}
    (F : GOk P w K mg base CX j f fd ps sp) (h : j ≤ k) : GOk P w K mg base CX k f fd ps sp := ⟨F.len, fun A o s H a us vs Q E g hr => F.run A o s H a us vs Q E g (hr.mono h)⟩
theorem GOk.imp {P : Program} {w : World} {K : PySem.W.Frag} {mg : Str → Option Value} {base : Heap} {CX : CXT} {k : Nat} {f : Addr} {fd : FuncData} {ps : List Str} {sp sp' : Sp}
    (F : GOk P w K mg base CX k f fd ps sp) (h : ∀ vs H Q E, sp' vs H Q E → sp vs H Q E) : GOk P w K mg base CX k f fd ps sp' :=
  ⟨fun vs H Q E q => F.len vs H Q E (h _ _ _ _ q), fun A o s H a us vs Q E g hr e0 hb hv q => F.run A o s H a us vs Q E g hr e0 hb hv (h _ _ _ _ q)⟩
/-- a def of the text as it stands behind the top -/
structure Fn (K : PySem.W.Frag) (x qual : Str) (st : Stmt) (f : Addr) (fd : FuncData) : Prop where
  ex : ∃ (oc : Value) (od : Option Addr) (dV kV doc pm : Value) (an : Option Addr) (cdv ct : Value) (osl : Array (Option Value)),
    fd = PySem.W.fnOf x qual (C8.fnArgs st) (C8.fnBody st) (C8.fnScope st) dV kV doc pm an cdv ct ∧ K.lookup f = some ⟨oc, od, .func fd, osl⟩ ∧ PySem.W.codeIn K cdv qual = true
/-- a def that may raise, by its body -/
theorem gfnX {CX : CXT} {P : Program} {w : World} {K : PySem.W.Frag} {mg : Str → Option Value} {base : Heap} {x qual : Str} {st : Stmt} {f : Addr} {fd : FuncData} {N ps : List Str} {k : Nat} {sp : Sp}
    (F : Fn K x qual st f fd) (S : FnScope N ps (C8.fnScope st)) (len : ∀ vs H Q E, sp vs H Q E → vs.length = ps.length)
    (hbody : ∀ (cdv : Value) (A : Around) (outer : List Env) (s : Shared) (H : Hp) (vs : List V) (Q : VK) (E : XK), (A.deeper (envOfC qual (C8.fnScope st) s.heap.objs.size f cdv)).guards = some [] →
      Room k (A.deeper (envOfC qual (C8.fnScope st) s.heap.objs.size f cdv)) → sp vs H Q E →
      ∃ t, PSs (cxOf CX P w K mg base N qual (C8.fnScope st) f cdv A outer s H E) (C8.fnBody st) t ∧ t { nx := fun _ H' => Q .non H', rt := Q } (start N vs) H) :
    GOk P w K mg base CX (k + 1) f fd ps sp := by
  obtain ⟨oc, od, dV, kV, doc, pm, an, cdv, ct, osl, rfl, lk, hcd⟩ := F.ex
  refine ⟨len, fun A outer s H args us vs Q E hgd hr e0 hb r hsp => ?_⟩
  have KX : K.In s.heap := e0.mod.kin.keeps (fun b o z => (e0.bs b o z).1)
  have lim : s.heap.NoLimit := e0.mod.nolimit.keeps (fun b o z => (e0.bs b o z).1)
  have kinds : ∀ y ∈ ps.zip us, (C8.fnScope st).names.lookup y.1 = some .local ∨
      ((C8.fnScope st).names.lookup y.1 = some .cell ∧ ((cellsFrom (s.heap.objs.size + 1) (C8.fnScope st).names []).lookup y.1).isSome = true) := by
    rintro ⟨n, v⟩ hy
    cases S.par n (List.of_mem_zip hy).1 with
    | inl z => exact Or.inl z
    | inr z => exact Or.inr ⟨z, PySem.W.cellsFrom_some _ _ _ (Or.inl z)⟩
  refine codeAny_call_function hr.depth (KX _ _ lk) rfl S.co S.gen rfl (PySem.W.codeRec_of KX hcd) (hb _ _ _ _ ?_)
  refine wpAny_newFunctionEnv_cells S.kind kinds (fun env he s1 x => ?_)
  cases he
  refine ⟨lim.keeps x.toInCall.keep, codeAny_func ?_⟩
  obtain ⟨t, ht, hq⟩ := hbody cdv A outer s H vs Q E hgd (hr.deeper _) hsp
  refine wpAny_mono (ht.run [] s1 (start N vs) H _ (inv_start S hr.hd e0 (len _ _ _ _ hsp) r x) hq) (fun fl s' hs => ?_) (fun e s' z => z)
  cases fl with
  | ret u => exact let ⟨v, _, H', J, rv, q⟩ := hs; ⟨v, H', J.os, J.bare, J.base, J.hok, rv, q⟩
  | next => exact let ⟨_, H', J, q⟩ := hs; ⟨V.non, H', J.os, J.bare, J.base, J.hok, rfl, q⟩
  | brk => exact let ⟨_, _, _, q⟩ := hs; False.elim q
  | cont => exact let ⟨_, _, _, q⟩ := hs; False.elim q
/-- a def that raises nothing -/
theorem gfn0 {CX : CXT} {P : Program} {w : World} {K : PySem.W.Frag} {mg : Str → Option Value} {base : Heap} {x qual : Str} {st : Stmt} {f : Addr} {fd : FuncData} {N ps : List Str} {k : Nat} {sp : Sp}
    (F : Fn K x qual st f fd) (S : FnScope N ps (C8.fnScope st)) (len : ∀ vs H Q E, sp vs H Q E → vs.length = ps.length)
    (hbody : ∀ (cdv : Value) (A : Around) (outer : List Env) (s : Shared) (H : Hp) (vs : List V) (Q : VK) (E : XK), (A.deeper (envOfC qual (C8.fnScope st) s.heap.objs.size f cdv)).guards = some [] →
      Room k (A.deeper (envOfC qual (C8.fnScope st) s.heap.objs.size f cdv)) → sp vs H Q E →
      ∃ t, PSs (cxOf CX P w K mg base N qual (C8.fnScope st) f cdv A outer s H E).nox (C8.fnBody st) t ∧ t { nx := fun _ H' => Q .non H', rt := Q } (start N vs) H) :
    GOk P w K mg base CX (k + 1) f fd ps sp :=
  gfnX F S len fun cdv A outer s H vs Q E hgd hr h => let ⟨t, a, b⟩ := hbody cdv A outer s H vs Q E hgd hr h; ⟨t, a.nox, b⟩
/-! ### calls of such a def -/
section
variable {X : Cx} {CX : CXT} {k : Nat} {f C : Addr} {fd : FuncData} {ps ks : List Str} {sp : Sp} {dvs : List V} {ds : List Value} {E : XK} {x m : Str} {p pos apos : Pos} {e o : Expr} {es : List Expr} {ta : TE} {t tk : TA} {kws : List Keyword} {n : Nat}
  {g : List Value → List Value → List Value} {gV : List V → List V → List V}
/-- positional and keyword values, as the def's own bindings put them -/
theorem run_g {pins : List (Addr × Obj)} {σ : L2.St} {H : Hp} {s : Shared} {Q : VK} {us ws bs : List Value} {zs : List V} (F : GOk X.prog X.w X.K X.mg X.base CX k f fd ps sp) (hgd : X.A.guards = some []) (hr : Room k X.A) (hx : Passes CX X E)
    (I : Inv X pins σ H s) (hb : BindsTo s fd ⟨us, ks.zip ws⟩ (ps.zip bs)) (r : Vals zs bs) (h : sp zs H Q E) : wpAny (model X.prog X.w) X.A (call (.ref f) us (ks.zip ws)) (EP X pins σ Q) X.xe s := by
  refine wpAny_call (codeAny_mono (F.run X.A X.stack s H ⟨us, ks.zip ws⟩ bs zs Q E hgd hr I.env0 hb r h) fun res s' hq => ?_)
  match res, hq with
  | .error e, hq => exact hx pins σ H s e s' I hq
  | .ok (.ret u), hq => exact I.after hq
  | .ok .next, hq => exact hq.elim
  | .ok .brk, hq => exact hq.elim
  | .ok .cont, hq => exact hq.elim
theorem run_gp {pins : List (Addr × Obj)} {σ : L2.St} {H : Hp} {s : Shared} {Q : VK} {us : List Value} {vs : List V} (F : GOk X.prog X.w X.K X.mg X.base CX k f fd ps sp) (hgd : X.A.guards = some []) (hr : Room k X.A) (hb : Binds X.K fd ps ds) (hd : Vals dvs ds) (hx : Passes CX X E)
    (I : Inv X pins σ H s) (r : Vals vs us) (h : sp (vs ++ dvs) H Q E) : wpAny (model X.prog X.w) X.A (call (.ref f) us) (EP X pins σ Q) X.xe s := by
  have r2 : Vals (vs ++ dvs) (us ++ ds) := r.append hd
  have hl : (us ++ ds).length = ps.length := r2.length.symm.trans (F.len _ _ _ _ h)
  exact run_g (ks := []) (ws := []) F hgd hr hx I (hb s us I.kIn hl) r2 h
/-- how a call with n positional values and the keywords ks binds -/
theorem run_gk {pins : List (Addr × Obj)} {σ : L2.St} {H : Hp} {s : Shared} {Q : VK} {us ws : List Value} {vs zs : List V} (F : GOk X.prog X.w X.K X.mg X.base CX k f fd ps sp) (hgd : X.A.guards = some []) (hr : Room k X.A) (hb : KBn X.K fd ps n ks g gV) (hx : Passes CX X E)
    (I : Inv X pins σ H s) (r : Vals vs us) (rz : Vals zs ws) (l1 : vs.length = n) (l2 : zs.length = ks.length) (h : sp (gV vs zs) H Q E) : wpAny (model X.prog X.w) X.A (call (.ref f) us (ks.zip ws)) (EP X pins σ Q) X.xe s :=
  run_g F hgd hr hx I (hb.to s us ws I.kIn (r.length.symm.trans l1) (rz.length.symm.trans l2)) (hb.rel r rz) h
/-- f(e, ..) -/
theorem pe_g (F : GOk X.prog X.w X.K X.mg X.base CX k f fd ps sp) (hgd : X.A.guards = some []) (hr : Room k X.A) (hg : Gl X x) (hm : X.mg x = some (.ref f)) (hk : PySem.W.keepIn X.K (.ref f) = true) (hb : Binds X.K fd ps ds) (hd : Vals dvs ds) (hx : Passes CX X E)
    (ha : PA X (e :: es) t) (hdb : (x == ("__debug__" : Str)) = false := by decide) (he : starEach (e :: es) X.env = (false, eval e X.env) :: starEach es X.env := by rfl) (hpl : (backTo pos (starEach es X.env)).any (·.1) = false := by rfl) :
    PE X (.Call (.Name x p) (e :: es) [] pos) (tCall sp dvs E t) :=
  ⟨fun pins s σ H Q I h => wpAny_Call_Name_kw (ld_glob I hg hm (PySem.W.callWith_K (h₀ := X.base) I.ok.mod.kin hk
    (thn (ha.run pos pins s σ H _ I h) fun us s1 ⟨vs, H1, I1, r, q⟩ => ⟨I1.kIn, run_gp F hgd hr hb hd hx I1 r q⟩) he hpl) hdb)⟩
theorem pe_g0 (F : GOk X.prog X.w X.K X.mg X.base CX k f fd ps sp) (hgd : X.A.guards = some []) (hr : Room k X.A) (hg : Gl X x) (hm : X.mg x = some (.ref f)) (hk : PySem.W.keepIn X.K (.ref f) = true) (hb : Binds X.K fd ps ds) (hd : Vals dvs ds) (hx : Passes CX X E)
    (hdb : (x == ("__debug__" : Str)) = false := by decide) : PE X (.Call (.Name x p) [] [] pos) (tCall sp dvs E tNil) :=
  ⟨fun pins s σ H Q I h => wpAny_Call_Name_kw (ld_glob I hg hm (PySem.W.callWith_K0 I.kIn hk (run_gp (us := []) F hgd hr hb hd hx I .nil h)) hdb)⟩
/-- f(e, .., k = v, ..) -/
def tGK (n m : Nat) (sp : Sp) (gV : List V → List V → List V) (E : XK) (t tk : TA) : TE := fun σ H Q => t σ H fun vs H1 => tk σ H1 fun zs H2 => vs.length = n ∧ zs.length = m ∧ sp (gV vs zs) H2 Q E
theorem pe_gK (F : GOk X.prog X.w X.K X.mg X.base CX k f fd ps sp) (hgd : X.A.guards = some []) (hr : Room k X.A) (hg : Gl X x) (hm : X.mg x = some (.ref f)) (hk : PySem.W.keepIn X.K (.ref f) = true) (hb : KBn X.K fd ps n ks g gV) (hx : Passes CX X E)
    (ha : PA X (e :: es) t) (hkw : PK X kws tk) (hall : (backToKw pos (keywordEach kws X.env)).all (·.1.isSome) = true := by rfl) (hks : (backToKw pos (keywordEach kws X.env)).filterMap (·.1) = ks := by rfl)
    (hdb : (x == ("__debug__" : Str)) = false := by decide) (he : starEach (e :: es) X.env = (false, eval e X.env) :: starEach es X.env := by rfl)
    (hpl : ((backTo pos (starEach (e :: es) X.env)).any (·.1) || (backToKw pos (keywordEach kws X.env)).any (·.1.isNone)) = false := by rfl) :
    PE X (.Call (.Name x p) (e :: es) kws pos) (tGK n ks.length sp gV E t tk) := by
  refine ⟨fun pins s σ H Q I h => wpAny_Call_Name_kw (ld_glob I hg hm (PySem.W.callWith_KW (h₀ := X.base) I.ok.mod.kin hk hall (thn (ha.run pos pins s σ H _ I h) fun us s1 ⟨vs, H1, I1, r, q⟩ => ?_) hpl he) hdb)⟩
  refine thn (hkw.run pos pins s1 σ H1 _ I1 q) fun ws s2 ⟨zs, H2, I2, rz, l1, l2, q2⟩ => ⟨I2.kIn, ?_⟩
  rw [hks]
  exact run_gk F hgd hr hb hx I2 r rz l1 l2 q2
theorem pe_gK0 (F : GOk X.prog X.w X.K X.mg X.base CX k f fd ps sp) (hgd : X.A.guards = some []) (hr : Room k X.A) (hg : Gl X x) (hm : X.mg x = some (.ref f)) (hk : PySem.W.keepIn X.K (.ref f) = true) (hb : KBn X.K fd ps 0 ks g gV) (hx : Passes CX X E)
    (hkw : PK X kws tk) (hall : (backToKw pos (keywordEach kws X.env)).all (·.1.isSome) = true := by rfl) (hks : (backToKw pos (keywordEach kws X.env)).filterMap (·.1) = ks := by rfl)
    (hdb : (x == ("__debug__" : Str)) = false := by decide) (hpl : ((backTo pos (starEach [] X.env)).any (·.1) || (backToKw pos (keywordEach kws X.env)).any (·.1.isNone)) = false := by rfl) :
    PE X (.Call (.Name x p) [] kws pos) (tGK 0 ks.length sp gV E tNil tk) := by
  refine ⟨fun pins s σ H Q I h => wpAny_Call_Name_kw (ld_glob I hg hm (PySem.W.callWith_KW0 (h₀ := X.base) I.ok.mod.kin hk hall ?_ hpl) hdb)⟩
  refine thn (hkw.run pos pins s σ H _ I h) fun ws s2 ⟨zs, H2, I2, rz, l1, l2, q2⟩ => ⟨I2.kIn, ?_⟩
  rw [hks]
  exact run_gk (us := []) (vs := []) F hgd hr hb hx I2 .nil rz rfl l2 q2
/-- o.m(e, ..), o.m() -/
theorem pe_gm {pl : Sem Bool} (he : PE X o ta) (c : Cls X.K C) (hm : Meth X.K C m f) (F : GOk X.prog X.w X.K X.mg X.base CX k f fd ps sp) (hgd : X.A.guards = some []) (hr : Room k X.A) (hb : Binds X.K fd ps ds) (hd : Vals dvs ds) (hx : Passes CX X E) (ha : PA X (e :: es) t)
    (hst : starEach (e :: es) X.env = (false, eval e X.env) :: starEach es X.env := by rfl) (hpl : (backTo pos (starEach es X.env)).any (·.1) = false := by rfl)
    (ht : eval (.Call (.Attribute o m apos) (e :: es) [] pos) X.env = (do
      let ov ← eval o X.env
      standAt apos.atName
      let (f, first) ← holding [ov] (getMethod ov m pl)
      callWith pos f first (backTo pos (starEach (e :: es) X.env)) (backToKw pos (keywordEach [] X.env))) := by rfl) :
    PE X (.Call (.Attribute o m apos) (e :: es) [] pos) (tMeth C m sp dvs E ta t) := by
  refine ⟨fun pins s σ H Q I h => PySem.W.methodCall_KW (pl := pl) (thn (he.run pins s σ H _ I h) fun u s1 ⟨x, H1, I1, rx, a, dx, fs, ex, ea, l, q⟩ => ?_) ht⟩
  subst ex
  cases rx
  exact getmeth_ok I1 ea c hm l (PySem.W.callWith_K (first := [.ref a]) (h₀ := X.base) I.ok.mod.kin hm.kp (thn (ha.run pos pins s1 σ H1 _ I1 q) fun us s2 ⟨vs, H2, I2, r, q2⟩ =>
    ⟨I2.kIn, run_gp (us := .ref a :: us) (vs := .ref a :: vs) F hgd hr hb hd hx I2 (.cons rfl r) q2⟩) hst hpl)
theorem pe_gm0 {pl : Sem Bool} (he : PE X o ta) (c : Cls X.K C) (hm : Meth X.K C m f) (F : GOk X.prog X.w X.K X.mg X.base CX k f fd ps sp) (hgd : X.A.guards = some []) (hr : Room k X.A) (hb : Binds X.K fd ps ds) (hd : Vals dvs ds) (hx : Passes CX X E)
    (ht : eval (.Call (.Attribute o m apos) [] [] pos) X.env = (do
      let ov ← eval o X.env
      standAt apos.atName
      let (f, first) ← holding [ov] (getMethod ov m pl)
      callWith pos f first (backTo pos (starEach [] X.env)) (backToKw pos (keywordEach [] X.env))) := by rfl) :
    PE X (.Call (.Attribute o m apos) [] [] pos) (tMeth C m sp dvs E ta tNil) := by
  refine ⟨fun pins s σ H Q I h => PySem.W.methodCall_KW (pl := pl) (thn (he.run pins s σ H _ I h) fun u s1 ⟨x, H1, I1, rx, a, dx, fs, ex, ea, l, q⟩ => ?_) ht⟩
  subst ex
  cases rx
  exact getmeth_ok I1 ea c hm l (PySem.W.callWith_K0 (first := [.ref a]) I1.kIn hm.kp (run_gp (us := [.ref a]) (vs := [.ref a]) F hgd hr hb hd hx I1 (.cons rfl .nil) q))
/-- a new instance -/
theorem guards_make {A : Around} (h : A.guards = some []) (us : List Value) (kw : List (Str × Value)) : (A.under (.builtin "type.__call__" ⟨.ref C :: us, kw⟩)).guards = some [] := by
  first
    | (simp [Around.under, h, pushGuards, Code.guards, Code.isGuard, guardIds]; done)
    | (unfold Around.under; simp [h, pushGuards, Code.guards, Code.isGuard, guardIds]; done)
    | (simp only [Around.under, h]; rfl)
theorem run_gmake {pins : List (Addr × Obj)} {σ : L2.St} {H : Hp} {s : Shared} {Q : VK} {us ws bs : List Value} {vs zs : List V} (M : Mk X.K C f) (F : GOk X.prog X.w X.K X.mg X.base CX k f fd ps sp) (hgd : X.A.guards = some []) (hr : Room (k + 1) X.A) (hx : Passes CX X E)
    (I : Inv X pins σ H s) (hb : ∀ (s' : Shared) (v : Value), X.K.In s'.heap → BindsTo s' fd ⟨v :: us, ks.zip ws⟩ (ps.zip (v :: bs))) (r : Vals zs bs)
    (h : ∀ x dx, H x = none → H dx = none → dx ≠ x → sp (.ref x :: zs) (upd (upd H dx (.own x)) x (.ins C dx [])) (fun v H2 => v = .non ∧ Q (.ref x) H2) E) :
    wpAny (model X.prog X.w) X.A (call (.ref C) us (ks.zip ws)) (EP X pins σ Q) X.xe s := by
  have hq := h (s.heap.objs.size + 1) s.heap.objs.size (I.hok.fresh (Nat.le_succ _)) (I.hok.fresh (Nat.le_refl _)) (Nat.ne_of_lt (Nat.lt_succ_self _))
  have J := Inv.made (C := C) I
  have rr : Vals (V.ref (s.heap.objs.size + 1) :: zs) (Value.ref (s.heap.objs.size + 1) :: bs) := .cons rfl r
  refine wpAny_call (make_map (f := f) I.kIn M.makes M.init (beq_iff_eq.mp M.fn) (codeAny_mono (F.run _ X.stack _ _ ⟨.ref (s.heap.objs.size + 1) :: us, ks.zip ws⟩ (.ref (s.heap.objs.size + 1) :: bs) _ _ E (guards_make hgd us (ks.zip ws)) (hr.make C us (ks.zip ws))
    (J.env0.make C us (ks.zip ws)) (hb _ _ J.kIn) rr hq) fun res s' hq' => ?_))
  match res, hq' with
  | .error e, z => exact hx pins σ _ _ e s' J z
  | .ok (.ret u), z =>
    obtain ⟨v, H', I3, rv, ev, q3⟩ := J.after z
    subst ev
    exact ⟨rv, .ref (s.heap.objs.size + 1), H', I3, rfl, q3⟩
  | .ok .next, z => exact z.elim
  | .ok .brk, z => exact z.elim
  | .ok .cont, z => exact z.elim
end
end Ev

/-! ### defs, methods, classes as facts of the module -/
namespace Ev
open PySem PySem.Spec PyProof.Rows L2
section
variable (P : Program) (w : World) (K : PySem.W.Frag) (mg : Str → Option Value) (base : Heap)
/-- a def under its name, with these defaults -/
structure GC (k : Nat) (x : Str) (sp : Sp) (dvs : List V) : Prop where
  ex : ∃ (f : Addr) (fd : FuncData) (ps : List Str) (ds : List Value), GOk P w K mg base (L2.CX P w) k f fd ps sp ∧ mg x = some (.ref f) ∧ PySem.W.keepIn K (.ref f) = true ∧ Binds K fd ps ds ∧ Vals dvs ds
/-- .. called with n positional values and the keywords ks -/
structure GCK (k : Nat) (x : Str) (sp : Sp) (n : Nat) (ks : List Str) (gV : List V → List V → List V) : Prop where
  ex : ∃ (f : Addr) (fd : FuncData) (ps : List Str) (g : List Value → List Value → List Value), GOk P w K mg base (L2.CX P w) k f fd ps sp ∧ mg x = some (.ref f) ∧ PySem.W.keepIn K (.ref f) = true ∧ KBn K fd ps n ks g gV
/-- a method -/
structure GM (k : Nat) (C : Addr) (m : Str) (sp : Sp) (dvs : List V) : Prop where
  ex : ∃ (f : Addr) (fd : FuncData) (ps : List Str) (ds : List Value), Cls K C ∧ Meth K C m f ∧ GOk P w K mg base (L2.CX P w) k f fd ps sp ∧ Binds K fd ps ds ∧ Vals dvs ds
/-- a class, made by n positional values and the keywords ks -/
structure GN (k : Nat) (x : Str) (C : Addr) (sp : Sp) (n : Nat) (ks : List Str) (gV : List V → List V → List V) : Prop where
  ex : ∃ (f : Addr) (fd : FuncData) (ps : List Str) (g : List Value → List Value → List Value), Mk K C f ∧ GOk P w K mg base (L2.CX P w) k f fd ps sp ∧ mg x = some (.ref C) ∧ KBn K fd ps (n + 1) ks g gV
end
section
variable {X : Cx} {k j n : Nat} {C : Addr} {x m : Str} {sp : Sp} {dvs : List V} {E : XK} {p pos apos : Pos} {e o : Expr} {es : List Expr} {ta : TE} {t tk : TA} {kws : List Keyword} {ks : List Str} {gV : List V → List V → List V}
theorem pe_cE (c : GC X.prog X.w X.K X.mg X.base k x sp dvs) (hgd : X.A.guards = some []) (hr : Room j X.A) (hk : k ≤ j) (hx : Passes (L2.CX X.prog X.w) X E) (hg : Gl X x) (ha : PA X (e :: es) t)
    (hdb : (x == ("__debug__" : Str)) = false := by decide) (he : starEach (e :: es) X.env = (false, eval e X.env) :: starEach es X.env := by rfl) (hpl : (backTo pos (starEach es X.env)).any (·.1) = false := by rfl) :
    PE X (.Call (.Name x p) (e :: es) [] pos) (tCall sp dvs E t) :=
  let ⟨_, _, _, _, F, hm, kp, b, d⟩ := c.ex
  pe_g F hgd (hr.mono hk) hg hm kp b d hx ha hdb he hpl
theorem pe_c (c : GC X.prog X.w X.K X.mg X.base k x sp dvs) (hgd : X.A.guards = some []) (hr : Room j X.A) (hk : k ≤ j) (hg : Gl X x) (ha : PA X (e :: es) t)
    (hdb : (x == ("__debug__" : Str)) = false := by decide) (he : starEach (e :: es) X.env = (false, eval e X.env) :: starEach es X.env := by rfl) (hpl : (backTo pos (starEach es X.env)).any (·.1) = false := by rfl) :
    PE X (.Call (.Name x p) (e :: es) [] pos) (tCall sp dvs E0 t) := pe_cE c hgd hr hk passL hg ha hdb he hpl
theorem pe_c0E (c : GC X.prog X.w X.K X.mg X.base k x sp dvs) (hgd : X.A.guards = some []) (hr : Room j X.A) (hk : k ≤ j) (hx : Passes (L2.CX X.prog X.w) X E) (hg : Gl X x)
    (hdb : (x == ("__debug__" : Str)) = false := by decide) : PE X (.Call (.Name x p) [] [] pos) (tCall sp dvs E tNil) :=
  let ⟨_, _, _, _, F, hm, kp, b, d⟩ := c.ex
  pe_g0 F hgd (hr.mono hk) hg hm kp b d hx hdb
theorem pe_c0 (c : GC X.prog X.w X.K X.mg X.base k x sp dvs) (hgd : X.A.guards = some []) (hr : Room j X.A) (hk : k ≤ j) (hg : Gl X x)
    (hdb : (x == ("__debug__" : Str)) = false := by decide) : PE X (.Call (.Name x p) [] [] pos) (tCall sp dvs E0 tNil) := pe_c0E c hgd hr hk passL hg hdb
theorem pe_cKE (c : GCK X.prog X.w X.K X.mg X.base k x sp n ks gV) (hgd : X.A.guards = some []) (hr : Room j X.A) (hk : k ≤ j) (hx : Passes (L2.CX X.prog X.w) X E) (hg : Gl X x)
    (ha : PA X (e :: es) t) (hkw : PK X kws tk) (hall : (backToKw pos (keywordEach kws X.env)).all (·.1.isSome) = true := by rfl) (hks : (backToKw pos (keywordEach kws X.env)).filterMap (·.1) = ks := by rfl)
    (hdb : (x == ("__debug__" : Str)) = false := by decide) (he : starEach (e :: es) X.env = (false, eval e X.env) :: starEach es X.env := by rfl)
    (hpl : ((backTo pos (starEach (e :: es) X.env)).any (·.1) || (backToKw pos (keywordEach kws X.env)).any (·.1.isNone)) = false := by rfl) :
    PE X (.Call (.Name x p) (e :: es) kws pos) (tGK n ks.length sp gV E t tk) :=
  let ⟨_, _, _, _, F, hm, kp, b⟩ := c.ex
  pe_gK F hgd (hr.mono hk) hg hm kp b hx ha hkw hall hks hdb he hpl
theorem pe_cK (c : GCK X.prog X.w X.K X.mg X.base k x sp n ks gV) (hgd : X.A.guards = some []) (hr : Room j X.A) (hk : k ≤ j) (hg : Gl X x)
    (ha : PA X (e :: es) t) (hkw : PK X kws tk) (hall : (backToKw pos (keywordEach kws X.env)).all (·.1.isSome) = true := by rfl) (hks : (backToKw pos (keywordEach kws X.env)).filterMap (·.1) = ks := by rfl)
    (hdb : (x == ("__debug__" : Str)) = false := by decide) (he : starEach (e :: es) X.env = (false, eval e X.env) :: starEach es X.env := by rfl)
    (hpl : ((backTo pos (starEach (e :: es) X.env)).any (·.1) || (backToKw pos (keywordEach kws X.env)).any (·.1.isNone)) = false := by rfl) :
    PE X (.Call (.Name x p) (e :: es) kws pos) (tGK n ks.length sp gV E0 t tk) := pe_cKE c hgd hr hk passL hg ha hkw hall hks hdb he hpl
theorem pe_cK0E (c : GCK X.prog X.w X.K X.mg X.base k x sp 0 ks gV) (hgd : X.A.guards = some []) (hr : Room j X.A) (hk : k ≤ j) (hx : Passes (L2.CX X.prog X.w) X E) (hg : Gl X x)
    (hkw : PK X kws tk) (hall : (backToKw pos (keywordEach kws X.env)).all (·.1.isSome) = true := by rfl) (hks : (backToKw pos (keywordEach kws X.env)).filterMap (·.1) = ks := by rfl)
    (hdb : (x == ("__debug__" : Str)) = false := by decide) (hpl : ((backTo pos (starEach [] X.env)).any (·.1) || (backToKw pos (keywordEach kws X.env)).any (·.1.isNone)) = false := by rfl) :
    PE X (.Call (.Name x p) [] kws pos) (tGK 0 ks.length sp gV E tNil tk) :=
  let ⟨_, _, _, _, F, hm, kp, b⟩ := c.ex
  pe_gK0 F hgd (hr.mono hk) hg hm kp b hx hkw hall hks hdb hpl
theorem pe_cK0 (c : GCK X.prog X.w X.K X.mg X.base k x sp 0 ks gV) (hgd : X.A.guards = some []) (hr : Room j X.A) (hk : k ≤ j) (hg : Gl X x)
    (hkw : PK X kws tk) (hall : (backToKw pos (keywordEach kws X.env)).all (·.1.isSome) = true := by rfl) (hks : (backToKw pos (keywordEach kws X.env)).filterMap (·.1) = ks := by rfl)
    (hdb : (x == ("__debug__" : Str)) = false := by decide) (hpl : ((backTo pos (starEach [] X.env)).any (·.1) || (backToKw pos (keywordEach kws X.env)).any (·.1.isNone)) = false := by rfl) :
    PE X (.Call (.Name x p) [] kws pos) (tGK 0 ks.length sp gV E0 tNil tk) := pe_cK0E c hgd hr hk passL hg hkw hall hks hdb hpl
/-- methods -/
theorem pe_mE {pl : Sem Bool} (c : GM X.prog X.w X.K X.mg X.base k C m sp dvs) (hgd : X.A.guards = some []) (hr : Room j X.A) (hk : k ≤ j) (hx : Passes (L2.CX X.prog X.w) X E) (he : PE X o ta) (ha : PA X (e :: es) t)
    (hst : starEach (e :: es) X.env = (false, eval e X.env) :: starEach es X.env := by rfl) (hpl : (backTo pos (starEach es X.env)).any (·.1) = false := by rfl)
    (ht : eval (.Call (.Attribute o m apos) (e :: es) [] pos) X.env = (do
      let ov ← eval o X.env
      standAt apos.atName
      let (f, first) ← holding [ov] (getMethod ov m pl)
      callWith pos f first (backTo pos (starEach (e :: es) X.env)) (backToKw pos (keywordEach [] X.env))) := by rfl) :
    PE X (.Call (.Attribute o m apos) (e :: es) [] pos) (tMeth C m sp dvs E ta t) :=
  let ⟨_, _, _, _, hc, hm, F, b, d⟩ := c.ex
  pe_gm (pl := pl) he hc hm F hgd (hr.mono hk) b d hx ha hst hpl ht
theorem pe_m {pl : Sem Bool} (c : GM X.prog X.w X.K X.mg X.base k C m sp dvs) (hgd : X.A.guards = some []) (hr : Room j X.A) (hk : k ≤ j) (he : PE X o ta) (ha : PA X (e :: es) t)
    (hst : starEach (e :: es) X.env = (false, eval e X.env) :: starEach es X.env := by rfl) (hpl : (backTo pos (starEach es X.env)).any (·.1) = false := by rfl)
    (ht : eval (.Call (.Attribute o m apos) (e :: es) [] pos) X.env = (do
      let ov ← eval o X.env
      standAt apos.atName
      let (f, first) ← holding [ov] (getMethod ov m pl)
      callWith pos f first (backTo pos (starEach (e :: es) X.env)) (backToKw pos (keywordEach [] X.env))) := by rfl) :
    PE X (.Call (.Attribute o m apos) (e :: es) [] pos) (tMeth C m sp dvs E0 ta t) := pe_mE (pl := pl) c hgd hr hk passL he ha hst hpl ht
theorem pe_m0E {pl : Sem Bool} (c : GM X.prog X.w X.K X.mg X.base k C m sp dvs) (hgd : X.A.guards = some []) (hr : Room j X.A) (hk : k ≤ j) (hx : Passes (L2.CX X.prog X.w) X E) (he : PE X o ta)
    (ht : eval (.Call (.Attribute o m apos) [] [] pos) X.env = (do
      let ov ← eval o X.env
      standAt apos.atName
      let (f, first) ← holding [ov] (getMethod ov m pl)
      callWith pos f first (backTo pos (starEach [] X.env)) (backToKw pos (keywordEach [] X.env))) := by rfl) :
    PE X (.Call (.Attribute o m apos) [] [] pos) (tMeth C m sp dvs E ta tNil) :=
  let ⟨_, _, _, _, hc, hm, F, b, d⟩ := c.ex
  pe_gm0 (pl := pl) he hc hm F hgd (hr.mono hk) b d hx ht
theorem pe_m0 {pl : Sem Bool} (c : GM X.prog X.w X.K X.mg X.base k C m sp dvs) (hgd : X.A.guards = some []) (hr : Room j X.A) (hk : k ≤ j) (he : PE X o ta)
    (ht : eval (.Call (.Attribute o m apos) [] [] pos) X.env = (do
      let ov ← eval o X.env
      standAt apos.atName
      let (f, first) ← holding [ov] (getMethod ov m pl)
      callWith pos f first (backTo pos (starEach [] X.env)) (backToKw pos (keywordEach [] X.env))) := by rfl) :
    PE X (.Call (.Attribute o m apos) [] [] pos) (tMeth C m sp dvs E0 ta tNil) := pe_m0E (pl := pl) c hgd hr hk passL he ht
/-- classes -/
theorem run_gnK {f : Addr} {fd : FuncData} {ps : List Str} {g : List Value → List Value → List Value} {pins : List (Addr × Obj)} {σ : L2.St} {H : Hp} {s : Shared} {Q : VK} {us ws : List Value} {vs zs : List V} (M : Mk X.K C f) (F : GOk X.prog X.w X.K X.mg X.base (L2.CX X.prog X.w) k f fd ps sp)
    (hgd : X.A.guards = some []) (hr : Room (k + 1) X.A) (hb : KBn X.K fd ps (n + 1) ks g gV) (hx : Passes (L2.CX X.prog X.w) X E) (I : Inv X pins σ H s) (r : Vals vs us) (rz : Vals zs ws) (l1 : vs.length = n) (l2 : zs.length = ks.length)
    (h : ∀ x dx, H x = none → H dx = none → dx ≠ x → sp (gV (.ref x :: vs) zs) (upd (upd H dx (.own x)) x (.ins C dx [])) (fun v H2 => v = .non ∧ Q (.ref x) H2) E) :
    wpAny (model X.prog X.w) X.A (call (.ref C) us (ks.zip ws)) (EP X pins σ Q) X.xe s := by
  have hq := h (s.heap.objs.size + 1) s.heap.objs.size (I.hok.fresh (Nat.le_succ _)) (I.hok.fresh (Nat.le_refl _)) (Nat.ne_of_lt (Nat.lt_succ_self _))
  have J := Inv.made (C := C) I
  have rr : Vals (V.ref (s.heap.objs.size + 1) :: vs) (Value.ref (s.heap.objs.size + 1) :: us) := .cons rfl r
  have len1 : (Value.ref (s.heap.objs.size + 1) :: us).length = n + 1 := by
    have := r.length
    simp only [List.length_cons]
    omega
  refine wpAny_call (make_map (f := f) I.kIn M.makes M.init (beq_iff_eq.mp M.fn) (codeAny_mono (F.run _ X.stack _ _ ⟨.ref (s.heap.objs.size + 1) :: us, ks.zip ws⟩ (g (.ref (s.heap.objs.size + 1) :: us) ws) _ _ E (guards_make hgd us (ks.zip ws)) (hr.make C us (ks.zip ws))
    (J.env0.make C us (ks.zip ws)) (hb.to _ _ ws J.kIn len1 (rz.length.symm.trans l2)) (hb.rel rr rz) hq) fun res s' hq' => ?_))
  match res, hq' with
  | .error e, z => exact hx pins σ _ _ e s' J z
  | .ok (.ret u), z =>
    obtain ⟨v, H', I3, rv, ev, q3⟩ := J.after z
    subst ev
    exact ⟨rv, .ref (s.heap.objs.size + 1), H', I3, rfl, q3⟩
  | .ok .next, z => exact z.elim
  | .ok .brk, z => exact z.elim
  | .ok .cont, z => exact z.elim
theorem pe_nE (c : GN X.prog X.w X.K X.mg X.base k x C sp n ks gV) (hgd : X.A.guards = some []) (hr : Room j X.A) (hk : k + 1 ≤ j) (hx : Passes (L2.CX X.prog X.w) X E) (hg : Gl X x)
    (ha : PA X (e :: es) t) (hkw : PK X kws tk) (hall : (backToKw pos (keywordEach kws X.env)).all (·.1.isSome) = true := by rfl) (hks : (backToKw pos (keywordEach kws X.env)).filterMap (·.1) = ks := by rfl)
    (hdb : (x == ("__debug__" : Str)) = false := by decide) (he : starEach (e :: es) X.env = (false, eval e X.env) :: starEach es X.env := by rfl)
    (hpl : ((backTo pos (starEach (e :: es) X.env)).any (·.1) || (backToKw pos (keywordEach kws X.env)).any (·.1.isNone)) = false := by rfl) :
    PE X (.Call (.Name x p) (e :: es) kws pos) (tMakeK C n ks.length sp gV E t tk) := by
  obtain ⟨_, _, _, _, M, F, hm, b⟩ := c.ex
  refine ⟨fun pins s σ H Q I h => wpAny_Call_Name_kw (ld_glob I hg hm (PySem.W.callWith_KW (h₀ := X.base) I.ok.mod.kin M.kp hall (thn (ha.run pos pins s σ H _ I h) fun us s1 ⟨vs, H1, I1, r, q⟩ => ?_) hpl he) hdb)⟩
  refine thn (hkw.run pos pins s1 σ H1 _ I1 q) fun ws s2 ⟨zs, H2, I2, rz, l1, l2, q2⟩ => ⟨I2.kIn, ?_⟩
  rw [hks]
  exact run_gnK M F hgd (hr.mono hk) b hx I2 r rz l1 l2 q2
theorem pe_n (c : GN X.prog X.w X.K X.mg X.base k x C sp n ks gV) (hgd : X.A.guards = some []) (hr : Room j X.A) (hk : k + 1 ≤ j) (hg : Gl X x)
    (ha : PA X (e :: es) t) (hkw : PK X kws tk) (hall : (backToKw pos (keywordEach kws X.env)).all (·.1.isSome) = true := by rfl) (hks : (backToKw pos (keywordEach kws X.env)).filterMap (·.1) = ks := by rfl)
    (hdb : (x == ("__debug__" : Str)) = false := by decide) (he : starEach (e :: es) X.env = (false, eval e X.env) :: starEach es X.env := by rfl)
    (hpl : ((backTo pos (starEach (e :: es) X.env)).any (·.1) || (backToKw pos (keywordEach kws X.env)).any (·.1.isNone)) = false := by rfl) :
    PE X (.Call (.Name x p) (e :: es) kws pos) (tMakeK C n ks.length sp gV E0 t tk) := pe_nE c hgd hr hk passL hg ha hkw hall hks hdb he hpl
theorem pe_n0E (c : GN X.prog X.w X.K X.mg X.base k x C sp 0 ks gV) (hgd : X.A.guards = some []) (hr : Room j X.A) (hk : k + 1 ≤ j) (hx : Passes (L2.CX X.prog X.w) X E) (hg : Gl X x)
    (hkw : PK X kws tk) (hall : (backToKw pos (keywordEach kws X.env)).all (·.1.isSome) = true := by rfl) (hks : (backToKw pos (keywordEach kws X.env)).filterMap (·.1) = ks := by rfl)
    (hdb : (x == ("__debug__" : Str)) = false := by decide) (hpl : ((backTo pos (starEach [] X.env)).any (·.1) || (backToKw pos (keywordEach kws X.env)).any (·.1.isNone)) = false := by rfl) :
    PE X (.Call (.Name x p) [] kws pos) (tMakeK C 0 ks.length sp gV E tNil tk) := by
  obtain ⟨_, _, _, _, M, F, hm, b⟩ := c.ex
  refine ⟨fun pins s σ H Q I h => wpAny_Call_Name_kw (ld_glob I hg hm (PySem.W.callWith_KW0 (h₀ := X.base) I.ok.mod.kin M.kp hall ?_ hpl) hdb)⟩
  refine thn (hkw.run pos pins s σ H _ I h) fun ws s2 ⟨zs, H2, I2, rz, l1, l2, q2⟩ => ⟨I2.kIn, ?_⟩
  rw [hks]
  exact run_gnK (us := []) (vs := []) M F hgd (hr.mono hk) b hx I2 .nil rz rfl l2 q2
end
/-- every parameter is given by its place -/
theorem kbn_pos {K : PySem.W.Frag} {fd : FuncData} {ps : List Str} (b : Binds K fd ps []) : KBn K fd ps ps.length [] (fun us _ => us) (fun vs _ => vs) :=
  ⟨fun s us ws X h1 h2 => by
    have := b s us X (by rw [List.append_nil]; exact h1)
    rw [List.append_nil] at this
    exact this, fun r _ => r⟩
end Ev

/-! ### the law's own call, with no guard around it -/
namespace Ev
open PySem PySem.Spec PyProof.Rows L2
theorem law_g {P : Program} {w : World} {K : PySem.W.Frag} {mg mb : Str → Option Value} {CX : CXT} {k : Nat} {fa a : Addr} {fd : FuncData} {x : Str} {sp : Sp} {s₁ : Shared} {vs : List Value} {ns : List Int}
    (KX : K.In s₁.heap) (hns : s₁.heap.Ns mainGlobals mg) (hb : s₁.heap.Ns builtinsNs mb) (hbb : ∀ y : Str, y ≠ "__name__" → mb y = bootBuiltins y) (hlim : s₁.heap.NoLimit) (hg : s₁.gens = #[])
    (ha : s₁.heap.get? a = some { cls := .type "list", data := .seq vs.toArray }) (hi : IntsAre vs ns) (hl : ns.length ≤ sizeLine) (hr : Room k callerA)
    (F : ∀ base : Heap, K.In base → base.Ns mainGlobals mg → GOk P w K mg base CX k fa fd [x] sp) (hbind : ∀ (s : Shared) (u : Value), BindsTo s fd ⟨[u], []⟩ [(x, u)])
    (hsp : ∀ H : Hp, Only H → SqL K H a (ns.map V.int) → sp [.ref a] H (fun v _ => v = .bl true) fun _ _ _ => False)
    (hCX : ∀ H e s', CX [] H s₁ (fun _ _ _ => False) e s' → False) :
    codeAny (model P w) callerA (.call (.ref fa) ⟨[.ref a], []⟩) (fun r s' => r = .ok (.ret (.bool true)) ∧ OldK s₁.heap s'.heap ∧ s'.os = s₁.os ∧ AllBare s'.gens) s₁ := by
  have rv := vals_ints hi
  obtain ⟨H, hO, hS, hok, hA, hK⟩ : ∃ H : Hp, Only H ∧ SqL K H a (ns.map V.int) ∧ HOk P w H s₁.heap ∧ (∀ b, H b ≠ none → b = a) ∧ (H a ≠ none → K.lookup a = none) := by
    cases hk : K.lookup a with
    | some o =>
      have eo : o = { cls := .type "list", data := .seq vs.toArray } := Option.some.inj ((KX a o hk).symm.trans ha)
      subst eo
      refine ⟨fun _ => none, fun _ => Or.inl rfl, Or.inr ⟨_, vs.toArray, _, hk, rfl, rfl, rfl, ?_, ?_⟩, fun b u z => (nomatch z), fun b z => (z rfl).elim, fun z => (z rfl).elim⟩
      · rw [List.size_toArray, hi.length]
        exact hl
      · simpa using rv
    | none =>
      refine ⟨fun b => if b = a then some (.frz { cls := .type "list", data := .seq vs.toArray } (.lst (ns.map V.int))) else none, fun b => ?_, Or.inl (Or.inr ⟨{ cls := .type "list", data := .seq vs.toArray }, if_pos rfl⟩), fun b u z => ?_, fun b z => ?_, fun _ => rfl⟩
      · by_cases e : b = a
        · exact Or.inr ⟨_, _, if_pos e⟩
        · exact Or.inl (if_neg e)
      · by_cases e : b = a
        · subst e
          cases (if_pos rfl).symm.trans z
          exact ⟨ha, (List.length_map (as := ns) V.int).symm ▸ hl, vs, _, rv, ha⟩
        · cases (if_neg e).symm.trans z
      · by_cases e : b = a
        · exact e
        · exact (z (if_neg e)).elim
  have keep : ∀ {b : Addr} {o : Obj}, s₁.heap.get? b = some o → H b = none → (hidT s₁.heap H).get? b = some o := fun e n => hidT_get e n
  have nodict : ∀ {b : Addr} {o : Obj} {es : Array DictEntry} {ep : Nat}, s₁.heap.get? b = some o → o.data = .dict es ep → H b = none := by
    intro b o es ep e d
    refine Classical.byContradiction fun z => ?_
    have e' := hA b z
    subst e'
    cases ha.symm.trans e
    cases d
  have nsK : ∀ {b : Addr} {m : Str → Option Value}, s₁.heap.Ns b m → (hidT s₁.heap H).Ns b m := fun ⟨o, es, ep, e, d, r⟩ => ⟨o, es, ep, keep e (nodict e d), d, r⟩
  have kb : K.In (hidT s₁.heap H) := fun b o e => keep (KX b o e) (Classical.byContradiction fun z => by
    have e' := hA b z
    subst e'
    rw [hK z] at e
    cases e)
  have mod : Mod K mg (hidT s₁.heap H) := ⟨kb, nsK hns, ⟨mb, nsK hb, hbb⟩, let ⟨mc, h1, h2⟩ := hlim; ⟨mc, nsK h1, h2⟩⟩
  have e0 : Env0 P w K mg (hidT s₁.heap H) callerA [] s₁ H := ⟨rfl, mod, fun _ _ e => of_hidT e, Nat.le_of_eq (hidT_size _ _), trivial, fun b hb => (nomatch (show b ∈ ([] : List Addr) from hb)), hok, .of_eq hg⟩
  refine codeAny_mono ((F _ kb (nsK hns)).run callerA [] s₁ H ⟨[.ref a], []⟩ [.ref a] [.ref a] _ _ rfl hr e0 (hbind s₁ (.ref a)) (.cons rfl .nil) (hsp H hO hS)) fun r s' h => ?_
  match r, h with
  | .error e, z => exact (hCX H e s' z).elim
  | .ok .next, z => exact z.elim
  | .ok .brk, z => exact z.elim
  | .ok .cont, z => exact z.elim
  | .ok (.ret u), ⟨v, H', os, bare, un, hok', r', (q : v = .bl true)⟩ =>
    subst q
    cases (show u = Value.bool true from r')
    refine ⟨rfl, OldK.of_keep fun b o e => ?_, os, bare⟩
    rcases hO b with z | ⟨ob, xs, z⟩
    · exact un.keep b o e z (fun y => (nomatch (show b ∈ ([] : List Addr) from y))) (by simp)
    · have o1 := (hok b _ z).1
      have o2 := (hok' b _ (un.frzs b ob _ z)).1
      exact o2.trans (o1.symm.trans e)
/-- the goal that k_head leaves, from the law's promise -/
theorem walk_g {l : PySem.W.OpenLaw} {n k : Nat} {q : Program} {loose : List Str} {XP : (Str → Option Value) → Heap → Prop} {YP : World → Heap → Prop} {d : DefRec} {K : Params → PySem.W.Frag} {sp : PySem.W.Frag → Sp} {x : Str}
    (hn : l.most = some n) (hn2 : n ≤ sizeLine) (hdf : d.params.defaults = []) (hr : Room k callerA) (hY : ∀ (w : World) (h : Heap), YP w h → (K w.params).In h)
    (F : ∀ (w : World) (mg : Str → Option Value) (fa : Addr) (h : Heap), (K w.params).In h → h.Ns mainGlobals mg → mg d.name = some (.ref fa) →
      ∃ fd : FuncData, (∀ (s : Shared) (u : Value), BindsTo s fd ⟨[u], []⟩ [(x, u)]) ∧
        ∀ base : Heap, (K w.params).In base → base.Ns mainGlobals mg → GOk l.prog w (K w.params) mg base (L2.CX l.prog w) k fa fd [x] (sp (K w.params)))
    (hsp : ∀ (K : PySem.W.Frag) (H : Hp) (a : Addr) (ns : List Int), ns.length ≤ n → (∀ z ∈ ns, Builtin.Int.intBits z ≤ 1048576) → Only H → SqL K H a (ns.map V.int) → sp K [.ref a] H (fun v _ => v = .bl true) fun _ _ _ => False) :
    PySem.W.WalkO q loose XP YP l.row.toRowW d [] (fun f vs => PySem.call f vs) := by
  refine Att.attach_callB hn hdf fun w s₀ s₁ mg mb fa o pm cd doc a vs ns G Y ho hd hcd hmg hobj hints hlen hbits hg => ?_
  obtain ⟨fd, b, hF⟩ := F w mg fa _ (hY w _ Y) G.T.g hmg
  refine law_g (hY w _ Y) G.T.g G.T.b G.T.builtins G.T.nolimit hg hobj hints (Nat.le_trans hlen hn2) hr hF b (fun H hO hS => hsp _ H a ns hlen hbits hO hS) fun H e s' z => ?_
  obtain ⟨_, _, _, _, _, _, _, _, _, _, _, _, y⟩ := z
  exact y.elim
end Ev

/-! ### repr of data -/
namespace Ev
open PySem PySem.Spec PyProof.Rows L2
mutual
def cost : PyData → Nat
  | .none => 4
  | .bool _ => 5
  | .int _ => 1921
  | .str x => (reprText x).length
  | .list xs => costs xs + 2
  | .tuple xs => costs xs + 2
  | .dict _ => 0
def costs : List PyData → Nat
  | [] => 0
  | x :: xs => cost x + 2 + costs xs
end
theorem listText_le (ts : List Str) : (listText ts).length ≤ piled ts + 2 := by
  have h1 : (listText ts).length = (textFrom 0 "[" ts).length + 1 := by
    show (textFrom 0 "[" ts ++ "]").length = _
    rw [strLen_append]
    rfl
  rw [h1]
  cases ts with
  | nil =>
    show (Str.ofString "[").length + 1 ≤ _
    decide +kernel
  | cons t r =>
    have e : ((("[" : Str) ++ (if (0 : Nat) > 0 then ", " else "" : String) ++ t)).length = 1 + t.length := by
      rw [strLen_append, strLen_append]
      rfl
    have h2 : (textFrom 0 "[" (t :: r)).length = ((("[" : Str) ++ (if (0 : Nat) > 0 then ", " else "" : String) ++ t)).length + piled r := textFrom_length_pos r 1 _ (Nat.succ_pos 0)
    rw [h2, e, piled_cons]
    omega
mutual
theorem shown_le : ∀ d : PyData, d.showable = true → d.hasDict = false → (PyData.shown d).length ≤ cost d
  | .none, _, _ => by
    show (Str.ofString "None").length ≤ 4
    decide +kernel
  | .bool true, _, _ => by
    show (PyData.shown (.bool true)).length ≤ 5
    decide +kernel
  | .bool false, _, _ => by
    show (PyData.shown (.bool false)).length ≤ 5
    decide +kernel
  | .int i, h, _ => PyProof.Rows.int_text_len_1921 (of_decide_eq_true h)
  | .str x, _, _ => Nat.le_refl _
  | .list xs, h, hd => by
    have a := shown_les xs (by simpa [PyData.showable] using h) (by simpa [PyData.hasDict] using hd)
    have b := listText_le (PyData.shownAll xs)
    show (listText (PyData.shownAll xs)).length ≤ costs xs + 2
    omega
  | .tuple xs, h, hd => by
    have a := shown_les xs (by simpa [PyData.showable] using h) (by simpa [PyData.hasDict] using hd)
    have b := fmt_text (PyData.shownAll xs)
    show (tupleText (PyData.shownAll xs)).length ≤ costs xs + 2
    omega
  | .dict _, _, hd => by simp [PyData.hasDict] at hd
theorem shown_les : ∀ ds : List PyData, PyData.showableAll ds = true → PyData.hasDictAll ds = false → piled (PyData.shownAll ds) ≤ costs ds
  | [], _, _ => Nat.le_refl _
  | d :: ds, h, hd => by
    have h1 : d.showable = true ∧ PyData.showableAll ds = true := by simpa [PyData.showableAll] using h
    have h2 : d.hasDict = false ∧ PyData.hasDictAll ds = false := by simpa [PyData.hasDictAll] using hd
    have a := shown_le d h1.1 h2.1
    have b := shown_les ds h1.2 h2.2
    show piled (PyData.shown d :: PyData.shownAll ds) ≤ cost d + 2 + costs ds
    rw [piled_cons]
    omega
end
mutual
theorem nodict : ∀ d : PyData, d.canLay0 = true → d.hasDict = false
  | .none, _ => rfl
  | .bool _, _ => rfl
  | .int _, _ => rfl
  | .str _, _ => rfl
  | .list xs, h => by
    show PyData.hasDictAll xs = false
    exact nodicts xs (by simpa [PyData.canLay0] using h)
  | .tuple xs, h => by
    show PyData.hasDictAll xs = false
    exact nodicts xs (by simpa [PyData.canLay0] using h)
  | .dict _, h => by simp [PyData.canLay0] at h
theorem nodicts : ∀ ds : List PyData, PyData.canLayAll0 ds = true → PyData.hasDictAll ds = false
  | [], _ => rfl
  | d :: ds, h => by
    have h1 : d.canLay0 = true ∧ PyData.canLayAll0 ds = true := by simpa [PyData.canLayAll0] using h
    show (d.hasDict || PyData.hasDictAll ds) = false
    rw [nodict d h1.1, nodicts ds h1.2]
    rfl
end
/-- what is asked of data that are shown -/
structure Shows (d : PyData) : Prop where
  sh : d.showable = true
  nd : d.hasDict = false
  dp : d.depth ≤ 64
  ct : cost d ≤ 16777216
section
variable {X : Cx}
def rRepr (K : PySem.W.Frag) : List V → Hp → VK → Prop := fun vs H Q => ∃ (x : V) (d : PyData), vs = [x] ∧ Dp K H x d ∧ Shows d ∧ Q (.str d.shown) H
theorem call_repr (hgd : X.A.guards = some []) (hu : X.A.units + 64 < cLine) (hu2 : X.A.units + 200 < cLine) : CallR X (.builtin "repr") (rRepr X.K) := by
  intro pins s σ H vs us Q I r h
  obtain ⟨x, d, rfl, hd, S, q⟩ := h
  cases r with
  | cons rx rn =>
    cases rn
    rename_i u
    have hz : d.shown.length ≤ sizeLine := by
      have a := shown_le d S.sh S.nd
      have b := S.ct
      rw [sizeLine_eq]
      omega
    obtain ⟨as, hr⟩ := Dp.reads I d x u hd rx
    cases hd with
    | non =>
      cases rx
      exact P.repr_of_none ⟨.str _, H, I.tok _, ⟨_, rfl⟩, q⟩
    | bl b =>
      cases rx
      exact P.repr_of_bool ⟨.str _, H, I.tok _, ⟨_, rfl⟩, q⟩
    | int i =>
      obtain ⟨t, rfl⟩ := rx
      exact P.repr_of_int (of_decide_eq_true S.sh) ⟨.str _, H, I.tok _, ⟨_, rfl⟩, q⟩
    | str z =>
      obtain ⟨t, rfl⟩ := rx
      exact P.repr_of_str ⟨.str _, H, I.tok _, ⟨_, rfl⟩, q⟩ hz
    | lst a b =>
      cases rx
      exact repr_of_reads' hr S.sh (PyData.noDict_hsm S.nd) hgd (by have := S.dp; omega) (fun _ _ e => e) (fun h' t tk hk => ⟨.str _, H, I.kept hk, ⟨_, rfl⟩, q⟩) hz
    | tup a b =>
      cases rx
      exact repr_of_reads' hr S.sh (PyData.noDict_hsm S.nd) hgd (by have := S.dp; omega) (fun _ _ e => e) (fun h' t tk hk => ⟨.str _, H, I.kept hk, ⟨_, rfl⟩, q⟩) hz
end
end Ev

/-! ### comprehensions and loops that leave what was tracked as it was -/
namespace Ev
open PySem L2
theorem Same.new {H H1 : Hp} {q : Addr} {o : HO} (a : Same H H1) (h : H1 q = none) : Same H (upd H1 q o) := fun c u e => get_new (a c u e) h
theorem Same.seqT {K : PySem.W.Frag} {H H' : Hp} {a : Addr} {xs : List V} (e : Same H H') (h : SqT K H a xs) : SqT K H' a xs := by
  rcases h with (h | ⟨o, h⟩) | h
  · exact .inl (.inl (e _ _ h))
  · exact .inl (.inr ⟨o, e _ _ h⟩)
  · exact .inr h
theorem Same.old {H H1 : Hp} {q : Addr} {o : HO} (a : Same H H1) (h : H q = none) : Same H (upd H1 q o) := fun c u e => get_ne (ne_of_none e h) (a c u e)
theorem Same.but {H H1 : Hp} (a : Same H H1) (p : Addr) : But p H H1 := fun c u e _ => a c u e
/-- what the first n turns put in -/
def outs (f : Nat → Option V) (n : Nat) : List V := (List.range n).filterMap f
theorem outs_succ (f : Nat → Option V) (n : Nat) : outs f (n + 1) = outs f n ++ (f n).toList := by
  unfold outs
  rw [List.range_succ, List.filterMap_append]
  cases h : f n with
  | none => simp [h]
  | some y => simp [h]
theorem outs_len (f : Nat → Option V) : ∀ n, (outs f n).length ≤ n
  | 0 => Nat.le_refl _
  | n + 1 => by
    have := outs_len f n
    rw [outs_succ, List.length_append]
    cases f n with
    | none => simp; omega
    | some y => simp; omega
theorem outs_map (g : Nat → V) (n : Nat) : outs (fun i => some (g i)) n = (List.range n).map g := by
  unfold outs
  exact congrFun (List.filterMap_eq_map (f := g)) _
theorem outs_list {xs : List V} (h : V → V) : outs (fun i => (xs[i]?).map h) xs.length = xs.map h := by
  have z : ∀ n, n ≤ xs.length → outs (fun i => (xs[i]?).map h) n = (xs.take n).map h := by
    intro n
    induction n with
    | zero => intro _; rfl
    | succ n ih =>
      intro hn
      rw [outs_succ, ih (by omega), List.take_add_one, List.map_append]
      congr 1
      rw [List.getElem?_eq_getElem (by omega)]
      rfl
  rw [z _ (Nat.le_refl _), List.take_length]
theorem cat_ne {K : PySem.W.Frag} {H : Hp} {a b : Addr} {xs ys : List V} {Q : VK} (hx : SqT K H a xs) (hy : SqT K H b ys) (h1 : xs ≠ []) (h2 : ys ≠ []) (hz : xs.length + ys.length ≤ 1000)
    (q : ∀ p, H p = none → Q (.ref p) (upd H p (.tup (xs ++ ys)))) : rCatA K (.ref a) (.ref b) H Q :=
  ⟨a, b, xs, ys, rfl, rfl, hx, hy, Nat.le_trans hz (by decide), fun z => (h1 z).elim, fun _ z => (h2 z).elim, fun _ _ => q⟩
theorem sl_part {K : PySem.W.Frag} {H : Hp} {a : Addr} {xs : List V} {lo hi : Option Int} {Q : VK} (hx : SqT K H a xs) (hn : ¬ (HT.sIx xs.length 0 lo = 0 ∧ HT.sIx xs.length xs.length hi = xs.length))
    (q : ∀ p, H p = none → Q (.ref p) (upd H p (.tup (cutV xs lo hi)))) : rSlA K (.ref a) lo hi H Q := ⟨a, xs, rfl, hx, fun z => (hn z).elim, fun _ => q⟩
section
variable {g : TG} {tt : TT} {te : TE} {vs : List Nat} {σ : L2.St} {H1 : Hp} {D : Addr} {Qd : Hp → Prop} {K : PySem.W.Frag} {a : Addr} {xs : List V} {lo : Int} {n : Nat}
/-- the turn of a comprehension, for any R (what a kept element leads to) and N (what a test that fails leads to) -/
def LcTurn (g : TG) (tt : TT) (te : TE) (vs : List Nat) (σ : L2.St) (x : V) (H : Hp) (R : V → Hp → Prop) (N : Hp → Prop) : Prop :=
  g x (wipe σ vs) H fun σ2 H2 => wipe σ2 vs = wipe σ vs ∧ tt σ2 H2 fun b H3 => if b = true then te σ2 H3 R else N H3
theorem lc_step {f : Nat → Option V} {i : Nat} {x : V} {H : Hp} (hz : i < 16777216) (hD : H1 D = none) (hS : Same H1 H) (hI : H D = some (.lst (outs f i)))
    (hs : ∀ (R : V → Hp → Prop) (N : Hp → Prop), (∀ y H4, f i = some y → Same H H4 → R y H4) → (∀ H4, f i = none → Same H H4 → N H4) → LcTurn g tt te vs σ x H R N) :
    g x (wipe σ vs) H fun σ2 H2 => wipe σ2 vs = wipe σ vs ∧ tt σ2 H2 fun b H3 =>
      if b = true then te σ2 H3 fun y H4 => ∃ acc, H4 D = some (.lst acc) ∧ acc.length < sizeLine ∧ (Same H1 (upd H4 D (.lst (acc ++ [y]))) ∧ (upd H4 D (.lst (acc ++ [y]))) D = some (.lst (outs f (i + 1))))
      else (Same H1 H3 ∧ H3 D = some (.lst (outs f (i + 1)))) := by
  refine hs (fun y H4 => ∃ acc, H4 D = some (.lst acc) ∧ acc.length < sizeLine ∧ (Same H1 (upd H4 D (.lst (acc ++ [y]))) ∧ (upd H4 D (.lst (acc ++ [y]))) D = some (.lst (outs f (i + 1))))) (fun H3 => Same H1 H3 ∧ H3 D = some (.lst (outs f (i + 1)))) (fun y H4 e s => ?_) (fun H4 e s => ?_)
  · refine ⟨outs f i, s _ _ hI, ?_, Same.old (hS.trans s) hD, ?_⟩
    · have := outs_len f i
      rw [sizeLine_eq]
      omega
    · rw [upd_same, outs_succ, e]
      rfl
  · refine ⟨hS.trans s, ?_⟩
    rw [outs_succ, e]
    rw [s _ _ hI]
    simp
theorem lcT {f : Nat → Option V} (hx : SqT K H1 a xs) (hD : H1 D = none) (hz : xs.length < 16777216)
    (hs : ∀ i x H (R : V → Hp → Prop) (N : Hp → Prop), xs[i]? = some x → Same H1 H → (∀ y H4, f i = some y → Same H H4 → R y H4) → (∀ H4, f i = none → Same H H4 → N H4) → LcTurn g tt te vs σ x H R N)
    (hd : ∀ H, Same H1 H → H D = some (.lst (outs f xs.length)) → Qd H) :
    ∃ W : Nat → Nat → Hp → Prop, (∃ m, W 0 m (upd H1 D (.lst []))) ∧ ∀ i m H, W i m H →
      ((Itt K a).stop i H ∧ Qd H) ∨ ((Itt K a).go i H ∧ ∃ Nx : Hp → Prop, (∀ H', Nx H' → ∃ m', m' < m ∧ W (i + 1) m' H') ∧ ∀ x H', (Itt K a).yld i H x H' → g x (wipe σ vs) H' fun σ2 H2 => wipe σ2 vs = wipe σ vs ∧ tt σ2 H2 fun b H3 =>
        if b = true then te σ2 H3 fun y H4 => ∃ acc, H4 D = some (.lst acc) ∧ acc.length < sizeLine ∧ Nx (upd H4 D (.lst (acc ++ [y]))) else Nx H3) :=
  lc_tup (fun i H => Same H1 H ∧ H D = some (.lst (outs f i))) ⟨Same.old (Same.refl _) hD, upd_same⟩ (fun i H _ p => Same.seqT p.1 hx)
    (fun i x H hi p => lc_step (by have := (List.getElem?_eq_some_iff.mp hi).1; omega) hD p.1 p.2 fun R N r n => hs i x H R N hi p.1 r n) (fun H p => hd H p.1 p.2)
theorem lcL {f : Nat → Option V} (hx : SqL K H1 a xs) (hD : H1 D = none) (hz : xs.length < 16777216)
    (hs : ∀ i x H (R : V → Hp → Prop) (N : Hp → Prop), xs[i]? = some x → Same H1 H → (∀ y H4, f i = some y → Same H H4 → R y H4) → (∀ H4, f i = none → Same H H4 → N H4) → LcTurn g tt te vs σ x H R N)
    (hd : ∀ H, Same H1 H → H D = some (.lst (outs f xs.length)) → Qd H) :
    ∃ W : Nat → Nat → Hp → Prop, (∃ m, W 0 m (upd H1 D (.lst []))) ∧ ∀ i m H, W i m H →
      ((Itl K a).stop i H ∧ Qd H) ∨ ((Itl K a).go i H ∧ ∃ Nx : Hp → Prop, (∀ H', Nx H' → ∃ m', m' < m ∧ W (i + 1) m' H') ∧ ∀ x H', (Itl K a).yld i H x H' → g x (wipe σ vs) H' fun σ2 H2 => wipe σ2 vs = wipe σ vs ∧ tt σ2 H2 fun b H3 =>
        if b = true then te σ2 H3 fun y H4 => ∃ acc, H4 D = some (.lst acc) ∧ acc.length < sizeLine ∧ Nx (upd H4 D (.lst (acc ++ [y]))) else Nx H3) :=
  lc_list (fun i H => Same H1 H ∧ H D = some (.lst (outs f i))) ⟨Same.old (Same.refl _) hD, upd_same⟩ (fun i H _ p => p.1.seq hx)
    (fun i x H hi p => lc_step (by have := (List.getElem?_eq_some_iff.mp hi).1; omega) hD p.1 p.2 fun R N r n => hs i x H R N hi p.1 r n) (fun H p => hd H p.1 p.2)
theorem lcR {f : Nat → Option V} (hD : H1 D = none) (hz : n < 16777216)
    (hs : ∀ i H (R : V → Hp → Prop) (N : Hp → Prop), i < n → Same H1 H → (∀ y H4, f i = some y → Same H H4 → R y H4) → (∀ H4, f i = none → Same H H4 → N H4) → LcTurn g tt te vs σ (.int (lo + i)) H R N)
    (hd : ∀ H, Same H1 H → H D = some (.lst (outs f n)) → Qd H) :
    ∃ W : Nat → Nat → Hp → Prop, (∃ m, W 0 m (upd H1 D (.lst []))) ∧ ∀ i m H, W i m H →
      ((Itr lo n).stop i H ∧ Qd H) ∨ ((Itr lo n).go i H ∧ ∃ Nx : Hp → Prop, (∀ H', Nx H' → ∃ m', m' < m ∧ W (i + 1) m' H') ∧ ∀ x H', (Itr lo n).yld i H x H' → g x (wipe σ vs) H' fun σ2 H2 => wipe σ2 vs = wipe σ vs ∧ tt σ2 H2 fun b H3 =>
        if b = true then te σ2 H3 fun y H4 => ∃ acc, H4 D = some (.lst acc) ∧ acc.length < sizeLine ∧ Nx (upd H4 D (.lst (acc ++ [y]))) else Nx H3) :=
  lc_range (fun i H => Same H1 H ∧ H D = some (.lst (outs f i))) ⟨Same.old (Same.refl _) hD, upd_same⟩
    (fun i H hi p => lc_step (by omega) hD p.1 p.2 fun R N r n => hs i H R N hi p.1 r n) (fun H p => hd H p.1 p.2)
end
end Ev

/-! ### own special methods: ==, !=, len, truth, calls, one- and two-place operators -/
namespace Ev
open PySem PySem.Spec PyProof.Rows L2
section
variable {X : Cx} {CX : CXT} {k j : Nat} {f C : Addr} {fd : FuncData} {ps ks : List Str} {sp : Sp} {dvs : List V} {ds : List Value} {E : XK} {m : Str} {n : Nat}
theorem run_gA {A' : Around} {pins : List (Addr × Obj)} {σ : L2.St} {H : Hp} {s : Shared} {Q : VK} {us : List Value} {vs : List V} (F : GOk X.prog X.w X.K X.mg X.base CX k f fd ps sp) (hg : A'.guards = some []) (hr : Room k A') (hf : A'.frames = X.A.frames)
    (hb : Binds X.K fd ps ds) (hd : Vals dvs ds) (hx : Passes CX X E) (I : Inv X pins σ H s) (r : Vals vs us) (h : sp (vs ++ dvs) H Q E) : wpAny (model X.prog X.w) A' (call (.ref f) us) (EP X pins σ Q) X.xe s := by
  have e0 : Env0 X.prog X.w X.K X.mg X.base A' X.stack s H := by
    have e := I.env0
    exact ⟨by rw [hf]; exact e.frames, e.mod, e.bs, e.bsz, e.funs, e.frf, e.hok, e.bare⟩
  have r2 : Vals (vs ++ dvs) (us ++ ds) := r.append hd
  have hl : (us ++ ds).length = ps.length := r2.length.symm.trans (F.len _ _ _ _ h)
  refine wpAny_call (codeAny_mono (F.run A' X.stack s H ⟨us, []⟩ (us ++ ds) (vs ++ dvs) Q E hg hr e0 (hb s us I.kIn hl) r2 h) fun res s' hq => ?_)
  match res, hq with
  | .error e, hq => exact hx pins σ H s e s' I hq
  | .ok (.ret u), hq => exact I.after hq
  | .ok .next, hq => exact hq.elim
  | .ok .brk, hq => exact hq.elim
  | .ok .cont, hq => exact hq.elim
theorem looks_ty {pins : List (Addr × Obj)} {σ : L2.St} {H : Hp} {s : Shared} {x : V} {u t : Value} (I : Inv X pins σ H s) (rx : RelV x u) (ty : TyX X.K H x t) : PySem.W.Looks (model X.prog X.w) s.heap (typeOf u) t := by
  obtain ⟨P, Z, p, _⟩ := kit_of I rx ty
  exact Z.ty _ _ I.kIn p
theorem inst_at {pins : List (Addr × Obj)} {σ : L2.St} {H : Hp} {s : Shared} {a dx : Addr} {fs : List (Str × V)} (I : Inv X pins σ H s) (h : H a = some (.ins C dx fs)) : ∃ ox od, PySem.W.InstAt s.heap a ox C od ∧ ox.data = .plain := by
  obtain ⟨mA, O, _⟩ := ins_get I.hok h
  obtain ⟨od, J, _⟩ := O.look
  exact ⟨_, _, J, rfl⟩
/-- x == y by x's own __eq__ -/
def rOwnC (K : PySem.W.Frag) (C : Addr) (sp : Sp) (E : XK) (g : Bool → Bool) : R2 := fun x y H Q => ∃ (a dx : Addr) (fs : List (Str × V)) (t : Value), x = .ref a ∧ H a = some (.ins C dx fs) ∧ TyX K H y t ∧ PySem.W.notFirst K C t = true ∧ sp [.ref a, y] H (fun v H' => ∃ b, v = .bl b ∧ Q (.bl (g b)) H') E
theorem op_eqO (c : GM X.prog X.w X.K X.mg X.base k C "__eq__" sp []) (hgd : X.A.guards = some []) (hr : Room j X.A) (hk : k ≤ j) (hx : Passes (L2.CX X.prog X.w) X E) {K : PySem.W.Frag} (hK : X.K = K := by rfl) : OpR X (compareOp .Eq) (rOwnC K C sp E id) := by
  subst hK
  intro pins s σ H x y v u Q I rx ry h
  obtain ⟨a, dx, fs, t, rfl, ha, ty, nf, q⟩ := h
  obtain ⟨f, fd, ps, ds, cl, M, F, b, d⟩ := c.ex
  cases d
  cases rx
  obtain ⟨ox, od, J, _⟩ := inst_at I ha
  obtain ⟨mm, hF⟩ := I.fr
  show wpAny (model X.prog X.w) X.A (richCompare .Eq (.ref a) u) (EP X pins σ Q) X.xe s
  refine PySem.W.cmp_K (op := .Eq) (tb := t) (hr.mono hk).units0 hF I.ok.mod.kin J (looks_ty I ry ty) nf M.at_ M.fn ?_
  refine wpAny_mono (run_gA (vs := [.ref a, y]) (us := [.ref a, u]) (dvs := []) F hgd (hr.mono hk) rfl b .nil hx I (.cons rfl (.cons ry .nil)) q) (fun w s' hw => ?_) fun _ _ z => z
  obtain ⟨v', H', I', rv, bb, ev, q'⟩ := hw
  subst ev
  cases rv
  exact ⟨.bl bb, H', I', rfl, q'⟩
theorem ne_K {h₀ : Heap} {L x : Addr} {mm : Str → Option Value} {ox : Obj} {od : Option Obj} {b tb : Value} {K : PySem.W.Frag} {prog : Program} {w : World} {A : Around} {E : Value → Shared → Prop} {s : Shared} {Q : Value → Shared → Prop} (hu : A.units + 1 < cLine) (F : Fr h₀ L s.heap mm) (X₀ : K.In h₀) (I : PySem.W.InstAt s.heap x ox C od) (hb : PySem.W.Looks (model prog w) s.heap (typeOf b) tb)
    (hn : PySem.W.notFirst K C tb = true) (hne : PySem.W.findIn K (.ref C) "__ne__" = some (some (.builtin "object.__ne__"))) (hs : PySem.W.findIn K (.ref C) "__eq__" = some (some (.ref f))) (hf : PySem.W.isFn K (.ref f) = true) (hm : PySem.W.mroIn K C (.type "object") = some true)
    (h : wpAny (model prog w) A.in1 (call (.ref f) [.ref x, b]) (fun v s' => ∃ r, v = .bool r ∧ Q (.bool (!r)) s') E s) : wpAny (model prog w) A (richCompare .NotEq (.ref x) b) Q E s := by
  have X := X₀.keeps F.keep
  have body : wpAny (model prog w) A.in1 (Builtin.«object.__ne__» ⟨[.ref x, b], []⟩) (fun fin s' => match fin with | .done f => wants (fun v s' => Q v s' ∧ ∃ r, v = .bool r) E (.ok f) s' | .again c' => c'.quiet = true ∧ codeAny (model prog w) A c' (wants (fun v s' => Q v s' ∧ ∃ r, v = .bool r) E) s') (fun e s' => wants (fun v s' => Q v s' ∧ ∃ r, v = .bool r) E (.error e) s') s := by
    unfold Builtin.«object.__ne__»
    repeat (first
      | with_reducible refine wpAny_cRoomFor hu ?_
      | (refine wpAny_bind (m := callSpecialIfBound? (.ref x) (Str.ofString "__eq__") [b])
          (PySem.W.ifBound_K X I hs hf (wpAny_mono h (fun r s' hr => by
            obtain ⟨b, rfl, hq⟩ := hr
            repeat (first | exact ⟨hq, _, rfl⟩ | exact wpAny_pure ⟨hq, _, rfl⟩ | (refine wpAny_bind (m := truthy (.bool _)) (wpAny_truthy_bool ?_)) | wp_step)) fun _ _ e => e)))
      | wp_step)
  have one : wpAny (model prog w) A (tryCompare (.ref x) "__ne__" b) (fun r s' => ∃ v, r = some v ∧ Q v s') E s := by
    unfold tryCompare
    simp only [callSpecialIfBound?, bindSpecialIfBound?]
    refine wpAny_bind (wpAny_holding (wpAny_bind (wpAny_bind (wpAny_bind (I.type.here ((PySem.W.looks_findIn X hne).here ?_))))))
    refine wpAny_bind (wpAny_askSetting (wpAny_ite ?_))
    have fin : wpAny (model prog w) A (call (.builtin "object.__ne__") ([.ref x] ++ [b])) (fun v s' => Q v s' ∧ ∃ r, v = .bool r) E s :=
      wpAny_call (codeAny_call_builtin PySem.F.cmp_object.ne.plain PySem.F.cmpEntry_ne (PySem.W.check_slot PySem.F.cmpKind_ne PySem.F.cmpSplit_ne (I.type.andThen (PySem.W.looks_mroIn X hm)) (PySem.F.cmpArgs_ne _ _) body))
    have fin2 : wpAny (model prog w) A (call (.builtin "object.__ne__") ([.ref x] ++ [b]) >>= fun v => pure (some v)) (fun r s' => wpAny (model prog w) A (match r with | some .notImplemented | none => pure none | some v => pure (some v) : Sem (Option Value)) (fun r s' => ∃ v, r = some v ∧ Q v s') E s') E s := wpAny_bind (wpAny_mono fin (fun v s' hv => by
      obtain ⟨hq, r, rfl⟩ := hv
      exact wpAny_pure (wpAny_pure ⟨_, rfl, hq⟩)) fun _ _ z => z)
    split
    · exact wpAny_bind (wpAny_of_eq (PySem.F.cmp_object.ne.bind _) (wpAny_pure (by exact fin2)))
    · exact wpAny_tryCatch (wpAny_bind (wpAny_of_eq (PySem.F.cmp_object.ne.bind _) (wpAny_pure (by exact fin2))))
  unfold richCompare
  simp only [oneThing_ref]
  refine wpAny_holding (wpAny_bind (wpAny_cRoomFor (by omega) ?_))
  refine wpAny_bind (I.type.here (wpAny_bind (hb.here ?_)))
  rw [cmpInfo_NotEq]
  dsimp only
  split
  · rename_i q
    have e : PySem.W.subIn K tb (.ref C) = some false := by
      rcases Bool.or_eq_true_iff.mp hn with e | e
      · rw [beq_iff_eq.mp e] at q; simp at q
      · exact beq_iff_eq.mp e
    refine wpAny_bind ((PySem.W.looks_subIn X e).here ?_)
    simp only [Bool.false_eq_true, if_false]
    refine wpAny_bind (wpAny_mono one (fun r s' z => ?_) fun _ _ e => e)
    obtain ⟨v, rfl, hq⟩ := z
    exact wpAny_pure hq
  · refine wpAny_bind (wpAny_pure ?_)
    simp only [Bool.false_eq_true, if_false]
    refine wpAny_bind (wpAny_mono one (fun r s' z => ?_) fun _ _ e => e)
    obtain ⟨v, rfl, hq⟩ := z
    exact wpAny_pure hq
/-- what an inherited != asks of the class -/
structure NeO (K : PySem.W.Frag) (C : Addr) : Prop where
  ne : PySem.W.findIn K (.ref C) "__ne__" = some (some (.builtin "object.__ne__"))
  ob : PySem.W.mroIn K C (.type "object") = some true
theorem op_neO (c : GM X.prog X.w X.K X.mg X.base k C "__eq__" sp []) (N : NeO X.K C) (hgd : X.A.guards = some []) (hr : Room j X.A) (hk : k + 1 ≤ j) (hx : Passes (L2.CX X.prog X.w) X E) {K : PySem.W.Frag} (hK : X.K = K := by rfl) : OpR X (compareOp .NotEq) (rOwnC K C sp E not) := by
  subst hK
  intro pins s σ H x y v u Q I rx ry h
  obtain ⟨a, dx, fs, t, rfl, ha, ty, nf, q⟩ := h
  obtain ⟨f, fd, ps, ds, cl, M, F, b, d⟩ := c.ex
  cases d
  cases rx
  obtain ⟨ox, od, J, _⟩ := inst_at I ha
  obtain ⟨mm, hF⟩ := I.fr
  have hr2 := hr.mono hk
  show wpAny (model X.prog X.w) X.A (richCompare .NotEq (.ref a) u) (EP X pins σ Q) X.xe s
  refine ne_K (tb := t) (by have := hr2.un0; omega) hF I.ok.mod.kin J (looks_ty I ry ty) nf N.ne M.at_ M.fn N.ob ?_
  refine wpAny_mono (run_gA (vs := [.ref a, y]) (us := [.ref a, u]) (dvs := []) F hgd hr2.in1 rfl b .nil hx I (.cons rfl (.cons ry .nil)) q) (fun w s' hw => ?_) fun _ _ z => z
  obtain ⟨v', H', I', rv, bb, ev, q'⟩ := hw
  subst ev
  cases rv
  exact ⟨bb, rfl, .bl (!bb), H', I', rfl, q'⟩
/-- len(x) by x's own __len__ -/
def rOwn1 (C : Addr) (sp : Sp) (E : XK) (P : V → Prop) : V → Hp → VK → Prop := fun x H Q => ∃ (a dx : Addr) (fs : List (Str × V)), x = .ref a ∧ H a = some (.ins C dx fs) ∧ sp [.ref a] H (fun v H' => P v ∧ Q v H') E
theorem call_lenO (c : GM X.prog X.w X.K X.mg X.base k C "__len__" sp []) (hgd : X.A.guards = some []) (hr : Room j X.A) (hk : k + 1 ≤ j) (hx : Passes (L2.CX X.prog X.w) X E) :
    CallR X (.builtin "len") (fun xs H Q => ∃ x, xs = [x] ∧ rOwn1 C sp E (fun v => ∃ n : Int, v = .int n ∧ 0 ≤ n ∧ n < 2 ^ 63) x H Q) := by
  intro pins s σ H xs us Q I r h
  obtain ⟨x, rfl, a, dx, fs, rfl, ha, q⟩ := h
  obtain ⟨f, fd, ps, ds, cl, M, F, b, d⟩ := c.ex
  cases d
  cases r with
  | cons rx rn =>
    cases rn
    cases rx
    obtain ⟨ox, od, J, _⟩ := inst_at I ha
    obtain ⟨mm, hF⟩ := I.fr
    refine PySem.W.len_K hF I.ok.mod.kin J M.at_ M.fn ?_
    refine wpAny_mono (run_gA (vs := [.ref a]) (us := [.ref a]) (dvs := []) F hgd (hr.mono hk).in1 rfl b .nil hx I (.cons rfl .nil) q) (fun w s' hw => ?_) fun _ _ z => z
    obtain ⟨v', H', I', rv, ⟨n, ev, h0, h1⟩, q'⟩ := hw
    subst ev
    obtain ⟨t, rfl⟩ := rv
    exact ⟨⟨h0, h1⟩, .int n, H', I'.tok _, ⟨_, rfl⟩, q'⟩
/-- -x, ~x by own methods -/
theorem un_negO (c : GM X.prog X.w X.K X.mg X.base k C "__neg__" sp []) (hgd : X.A.guards = some []) (hr : Room j X.A) (hk : k ≤ j) (hx : Passes (L2.CX X.prog X.w) X E) : UnR X (unaryOp .USub) (rOwn1 C sp E fun _ => True) := by
  intro pins s σ H x v Q I rx h
  obtain ⟨a, dx, fs, rfl, ha, q⟩ := h
  obtain ⟨f, fd, ps, ds, cl, M, F, b, d⟩ := c.ex
  cases d
  cases rx
  obtain ⟨ox, od, J, _⟩ := inst_at I ha
  obtain ⟨mm, hF⟩ := I.fr
  refine PySem.W.ksp_neg hF I.ok.mod.kin J M.at_ M.fn (wpAny_mono (run_gA (vs := [.ref a]) (us := [.ref a]) (dvs := []) F hgd (hr.mono hk) rfl b .nil hx I (.cons rfl .nil) q) (fun w s' hw => ?_) fun _ _ z => z)
  obtain ⟨v', H', I', rv, _, q'⟩ := hw
  exact ⟨v', H', I', rv, q'⟩
theorem un_invO (c : GM X.prog X.w X.K X.mg X.base k C "__invert__" sp []) (hgd : X.A.guards = some []) (hr : Room j X.A) (hk : k ≤ j) (hx : Passes (L2.CX X.prog X.w) X E) : UnR X (unaryOp .Invert) (rOwn1 C sp E fun _ => True) := by
  intro pins s σ H x v Q I rx h
  obtain ⟨a, dx, fs, rfl, ha, q⟩ := h
  obtain ⟨f, fd, ps, ds, cl, M, F, b, d⟩ := c.ex
  cases d
  cases rx
  obtain ⟨ox, od, J, _⟩ := inst_at I ha
  obtain ⟨mm, hF⟩ := I.fr
  refine PySem.W.ksp_inv hF I.ok.mod.kin J M.at_ M.fn (wpAny_mono (run_gA (vs := [.ref a]) (us := [.ref a]) (dvs := []) F hgd (hr.mono hk) rfl b .nil hx I (.cons rfl .nil) q) (fun w s' hw => ?_) fun _ _ z => z)
  obtain ⟨v', H', I', rv, _, q'⟩ := hw
  exact ⟨v', H', I', rv, q'⟩
/-- a value's truth by its own __bool__ -/
def rOwnB (C : Addr) (sp : Sp) (E : XK) : V → Hp → (Bool → Hp → Prop) → Prop := fun x H Q => ∃ (a dx : Addr) (fs : List (Str × V)), x = .ref a ∧ H a = some (.ins C dx fs) ∧ sp [.ref a] H (fun v H' => ∃ b, v = .bl b ∧ Q b H') E
theorem tru_boolO (c : GM X.prog X.w X.K X.mg X.base k C "__bool__" sp []) (hgd : X.A.guards = some []) (hr : Room j X.A) (hk : k ≤ j) (hx : Passes (L2.CX X.prog X.w) X E) : TruR X (rOwnB C sp E) := by
  intro pins s σ H x v Q I rx h
  obtain ⟨a, dx, fs, rfl, ha, q⟩ := h
  obtain ⟨f, fd, ps, ds, cl, M, F, b, d⟩ := c.ex
  cases d
  cases rx
  obtain ⟨ox, od, J, _⟩ := inst_at I ha
  obtain ⟨mm, hF⟩ := I.fr
  refine PySem.W.truthy_K hF I.ok.mod.kin J M.at_ M.fn (wpAny_mono (run_gA (vs := [.ref a]) (us := [.ref a]) (dvs := []) F hgd (hr.mono hk) rfl b .nil hx I (.cons rfl .nil) q) (fun w s' hw => ?_) fun _ _ z => z)
  obtain ⟨v', H', I', rv, bb, ev, q'⟩ := hw
  subst ev
  cases rv
  exact ⟨H', I', q'⟩
end
end Ev

/-! ### more calls: methods by keywords, instances called, static methods, methods of one of several classes -/
namespace Ev
open PySem PySem.Spec PyProof.Rows L2
section
variable (P : Program) (w : World) (K : PySem.W.Frag) (mg : Str → Option Value) (base : Heap)
structure GMK (k : Nat) (C : Addr) (m : Str) (sp : Sp) (n : Nat) (ks : List Str) (gV : List V → List V → List V) : Prop where
  ex : ∃ (f : Addr) (fd : FuncData) (ps : List Str) (g : List Value → List Value → List Value), Cls K C ∧ Meth K C m f ∧ GOk P w K mg base (L2.CX P w) k f fd ps sp ∧ KBn K fd ps (n + 1) ks g gV
/-- instances of C may be called -/
structure GO (k : Nat) (C : Addr) (sp : Sp) (n : Nat) (ks : List Str) (gV : List V → List V → List V) : Prop where
  ex : ∃ (f : Addr) (fd : FuncData) (ps : List Str) (g : List Value → List Value → List Value), Meth K C "__call__" f ∧ PySem.W.fnIn K f = true ∧ GOk P w K mg base (L2.CX P w) k f fd ps sp ∧ KBn K fd ps (n + 1) ks g gV
/-- a static method, through an instance -/
structure GS (k : Nat) (C : Addr) (m : Str) (sp : Sp) (dvs : List V) : Prop where
  ex : ∃ (p f : Addr) (fd : FuncData) (ps : List Str) (ds : List Value), Cls K C ∧ PySem.W.findIn K (.ref C) m = some (some (.ref p)) ∧ PySem.W.typeIn K (.ref p) = some (.type "staticmethod") ∧
    PySem.W.specialIn K (.ref p) "__get__" = some (some (.builtin "staticmethod.__get__")) ∧ PySem.W.takesIn K (.ref p) = some false ∧ PySem.W.copiedNames.contains m = false ∧ (∃ rest, PySem.W.recIn K p "staticmethod" = some (.ref f :: rest)) ∧
    PySem.W.keepIn K (.ref f) = true ∧ GOk P w K mg base (L2.CX P w) k f fd ps sp ∧ Binds K fd ps ds ∧ Vals dvs ds
end
section
variable {X : Cx} {k j n : Nat} {C : Addr} {x m : Str} {sp : Sp} {dvs : List V} {E : XK} {p pos apos : Pos} {e o : Expr} {es : List Expr} {ta : TE} {t tk : TA} {kws : List Keyword} {ks : List Str} {gV : List V → List V → List V}
def tMethK (C : Addr) (m : Str) (n l : Nat) (sp : Sp) (gV : List V → List V → List V) (E : XK) (ta : TE) (t tk : TA) : TE := fun σ H Q => ta σ H fun x H1 => ∃ a dx fs, x = .ref a ∧ H1 a = some (.ins C dx fs) ∧ fs.lookup m = none ∧
  t σ H1 fun vs H2 => tk σ H2 fun zs H3 => vs.length = n ∧ zs.length = l ∧ sp (gV (x :: vs) zs) H3 Q E
theorem run_gmk {f : Addr} {fd : FuncData} {ps : List Str} {g : List Value → List Value → List Value} {pins : List (Addr × Obj)} {σ : L2.St} {H : Hp} {s : Shared} {Q : VK} {a : Addr} {us ws : List Value} {vs zs : List V} (F : GOk X.prog X.w X.K X.mg X.base (L2.CX X.prog X.w) k f fd ps sp) (hgd : X.A.guards = some []) (hr : Room k X.A)
    (hb : KBn X.K fd ps (n + 1) ks g gV) (hx : Passes (L2.CX X.prog X.w) X E) (I : Inv X pins σ H s) (r : Vals vs us) (rz : Vals zs ws) (l1 : vs.length = n) (l2 : zs.length = ks.length) (h : sp (gV (.ref a :: vs) zs) H Q E) :
    wpAny (model X.prog X.w) X.A (call (.ref f) (.ref a :: us) (ks.zip ws)) (EP X pins σ Q) X.xe s :=
  run_gk (vs := .ref a :: vs) F hgd hr hb hx I (.cons rfl r) rz (by rw [List.length_cons, l1]) l2 h
theorem pe_mKE {pl : Sem Bool} (c : GMK X.prog X.w X.K X.mg X.base k C m sp n ks gV) (hgd : X.A.guards = some []) (hr : Room j X.A) (hk : k ≤ j) (hx : Passes (L2.CX X.prog X.w) X E) (ho : PE X o ta)
    (ha : PA X (e :: es) t) (hkw : PK X kws tk) (hall : (backToKw pos (keywordEach kws X.env)).all (·.1.isSome) = true := by rfl) (hks : (backToKw pos (keywordEach kws X.env)).filterMap (·.1) = ks := by rfl)
    (he : starEach (e :: es) X.env = (false, eval e X.env) :: starEach es X.env := by rfl)
    (hpl : ((backTo pos (starEach (e :: es) X.env)).any (·.1) || (backToKw pos (keywordEach kws X.env)).any (·.1.isNone)) = false := by rfl)
    (ht : eval (.Call (.Attribute o m apos) (e :: es) kws pos) X.env = (do
      let ov ← eval o X.env
      standAt apos.atName
      let (f, first) ← holding [ov] (getMethod ov m pl)
      callWith pos f first (backTo pos (starEach (e :: es) X.env)) (backToKw pos (keywordEach kws X.env))) := by rfl) :
    PE X (.Call (.Attribute o m apos) (e :: es) kws pos) (tMethK C m n ks.length sp gV E ta t tk) := by
  obtain ⟨_, _, _, _, hc, hm, F, b⟩ := c.ex
  refine ⟨fun pins s σ H Q I h => PySem.W.methodCall_KW (pl := pl) (thn (ho.run pins s σ H _ I h) fun u s1 ⟨x, H1, I1, rx, a, dx, fs, ex, ea, l, q⟩ => ?_) ht⟩
  subst ex
  cases rx
  refine getmeth_ok I1 ea hc hm l (PySem.W.callWith_KW (first := [.ref a]) (h₀ := X.base) I.ok.mod.kin hm.kp hall (thn (ha.run pos pins s1 σ H1 _ I1 q) fun us s2 ⟨vs, H2, I2, r, q2⟩ => ?_) hpl he)
  refine thn (hkw.run pos pins s2 σ H2 _ I2 q2) fun ws s3 ⟨zs, H3, I3, rz, l1, l2, q3⟩ => ⟨I3.kIn, ?_⟩
  rw [hks]
  exact run_gmk F hgd (hr.mono hk) b hx I3 r rz l1 l2 q3
theorem pe_mK0E {pl : Sem Bool} (c : GMK X.prog X.w X.K X.mg X.base k C m sp 0 ks gV) (hgd : X.A.guards = some []) (hr : Room j X.A) (hk : k ≤ j) (hx : Passes (L2.CX X.prog X.w) X E) (ho : PE X o ta)
    (hkw : PK X kws tk) (hall : (backToKw pos (keywordEach kws X.env)).all (·.1.isSome) = true := by rfl) (hks : (backToKw pos (keywordEach kws X.env)).filterMap (·.1) = ks := by rfl)
    (hpl : ((backTo pos (starEach [] X.env)).any (·.1) || (backToKw pos (keywordEach kws X.env)).any (·.1.isNone)) = false := by rfl)
    (ht : eval (.Call (.Attribute o m apos) [] kws pos) X.env = (do
      let ov ← eval o X.env
      standAt apos.atName
      let (f, first) ← holding [ov] (getMethod ov m pl)
      callWith pos f first (backTo pos (starEach [] X.env)) (backToKw pos (keywordEach kws X.env))) := by rfl) :
    PE X (.Call (.Attribute o m apos) [] kws pos) (tMethK C m 0 ks.length sp gV E ta tNil tk) := by
  obtain ⟨_, _, _, _, hc, hm, F, b⟩ := c.ex
  refine ⟨fun pins s σ H Q I h => PySem.W.methodCall_KW (pl := pl) (thn (ho.run pins s σ H _ I h) fun u s1 ⟨x, H1, I1, rx, a, dx, fs, ex, ea, l, q⟩ => ?_) ht⟩
  subst ex
  cases rx
  refine getmeth_ok I1 ea hc hm l (PySem.W.callWith_KW0 (first := [.ref a]) (h₀ := X.base) I.ok.mod.kin hm.kp hall ?_ hpl)
  refine thn (hkw.run pos pins s1 σ H1 _ I1 q) fun ws s3 ⟨zs, H3, I3, rz, l1, l2, q3⟩ => ⟨I3.kIn, ?_⟩
  rw [hks]
  exact run_gmk (us := []) (vs := []) F hgd (hr.mono hk) b hx I3 .nil rz rfl l2 q3
/-! an instance called -/
def tInst (C : Addr) (n l : Nat) (sp : Sp) (gV : List V → List V → List V) (E : XK) (ta : TE) (t tk : TA) : TE := fun σ H Q => ta σ H fun x H1 => ∃ a, x = V.ref a ∧
  t σ H1 fun vs H2 => tk σ H2 fun zs H3 => vs.length = n ∧ zs.length = l ∧ (∃ dx fs, H3 a = some (.ins C dx fs)) ∧ sp (gV (x :: vs) zs) H3 Q E
theorem inst_kw {M : Model} {A : Around} {E : Value → Shared → Prop} {s : Shared} {a : Addr} {pos : Pos} {Q : Value → Shared → Prop} {args : List (Bool × Sem Value)} {kw : List (Option Str × Sem Value)} (hplain : (args.any (·.1) || kw.any (·.1.isNone)) = false)
    (h : wpAny M A (evalArgs (.ref a) true args kw) (fun z s₁ => (∃ C ox od, PySem.W.InstAt s₁.heap a ox C od ∧ ox.data = .plain) ∧ wpAny M A (call (.ref a) ([] ++ z.pos) z.kw) Q E s₁) E s) : wpAny M A (callWith pos (.ref a) [] args kw) Q E s := by
  unfold callWith
  refine wpAny_bind (wpAny_holding (wpAny_mono h (fun z s₁ h₁ => wpAny_bind (wpAny_standAt ?_)) fun _ _ y => y))
  obtain ⟨⟨C, ox, od, J, hd⟩, h₁⟩ := h₁
  have L := PySem.W.kco_keeper (M := M) J hd
  simp only [hplain]
  refine wpAny_bind (L.here ?_)
  have tail : ∀ {t : Sem Value}, wpAny M A t Q E s₁ → wpAny M A (t >>= fun r => holding [r] point >>= fun _ => pure r) Q E s₁ :=
    fun ht => wpAny_bind (wpAny_mono ht (fun r s₂ hr => wpAny_bind (wpAny_holding (wpAny_point (wpAny_pure hr)))) fun _ _ y => y)
  first
    | exact tail (wpAny_operateT h₁)
    | exact tail h₁
theorem run_o {f : Addr} {fd : FuncData} {ps : List Str} {g : List Value → List Value → List Value} {pins : List (Addr × Obj)} {σ : L2.St} {H : Hp} {s : Shared} {Q : VK} {a dx : Addr} {fs : List (Str × V)} {us ws : List Value} {vs zs : List V} (hm : Meth X.K C "__call__" f) (hfi : PySem.W.fnIn X.K f = true)
    (F : GOk X.prog X.w X.K X.mg X.base (L2.CX X.prog X.w) k f fd ps sp) (hgd : X.A.guards = some []) (hr : Room k X.A)
    (hb : KBn X.K fd ps (n + 1) ks g gV) (hx : Passes (L2.CX X.prog X.w) X E) (I : Inv X pins σ H s) (ha : H a = some (.ins C dx fs)) (r : Vals vs us) (rz : Vals zs ws) (l1 : vs.length = n) (l2 : zs.length = ks.length) (h : sp (gV (.ref a :: vs) zs) H Q E) :
    wpAny (model X.prog X.w) X.A (call (.ref a) us (ks.zip ws)) (EP X pins σ Q) X.xe s := by
  obtain ⟨ox, od, J, hd⟩ := inst_at I ha
  have r2 : Vals (.ref a :: vs) (.ref a :: us) := .cons rfl r
  refine wpAny_call (PySem.W.kco_code (a := ⟨us, ks.zip ws⟩) I.kIn J hd hm.at_ hm.fn hfi (codeAny_mono (F.run X.A X.stack s H ⟨.ref a :: us, ks.zip ws⟩ (g (.ref a :: us) ws) (gV (.ref a :: vs) zs) Q E hgd hr I.env0
    (hb.to s _ ws I.kIn (r2.length.symm.trans (by rw [List.length_cons, l1])) (rz.length.symm.trans l2)) (hb.rel r2 rz) h) fun res s' hq => ?_))
  match res, hq with
  | .error e, hq => exact hx pins σ H s e s' I hq
  | .ok (.ret u), hq => exact I.after hq
  | .ok .next, hq => exact hq.elim
  | .ok .brk, hq => exact hq.elim
  | .ok .cont, hq => exact hq.elim
theorem pe_oE (c : GO X.prog X.w X.K X.mg X.base k C sp n [] gV) (hgd : X.A.guards = some []) (hr : Room j X.A) (hk : k ≤ j) (hx : Passes (L2.CX X.prog X.w) X E) (ho : PE X o ta) (ha : PA X (e :: es) t)
    (ht : eval (.Call o (e :: es) [] pos) X.env = (do callWith pos (← eval o X.env) [] (backTo pos (starEach (e :: es) X.env)) (backToKw pos (keywordEach [] X.env))) := by rfl)
    (he : starEach (e :: es) X.env = (false, eval e X.env) :: starEach es X.env := by rfl) (hpl : (backTo pos (starEach es X.env)).any (·.1) = false := by rfl) : PE X (.Call o (e :: es) [] pos) (tInst C n 0 sp gV E ta t tNil) := by
  obtain ⟨_, _, _, _, hm, hfi, F, b⟩ := c.ex
  refine ⟨fun pins s σ H Q I h => ?_⟩
  refine Call_ (thn (ho.run pins s σ H _ I h) fun u s1 ⟨y, H1, I1, ry, a, ey, q⟩ => ?_) ht
  subst ey
  obtain rfl : u = Value.ref a := ry
  refine StX.callO_with (thn (ha.run pos pins s1 σ H1 _ I1 q) fun us s2 ⟨vs, H2, I2, r, l1, l2, ⟨dx, fs, hi⟩, q2⟩ => ?_) he hpl
  obtain ⟨ox, od, J, hd⟩ := inst_at I2 hi
  exact ⟨⟨C, ox, od, J, hd⟩, run_o (ks := []) (ws := []) (zs := []) hm hfi F hgd (hr.mono hk) b hx I2 hi r .nil l1 rfl q2⟩
theorem pe_oK0E (c : GO X.prog X.w X.K X.mg X.base k C sp 0 ks gV) (hgd : X.A.guards = some []) (hr : Room j X.A) (hk : k ≤ j) (hx : Passes (L2.CX X.prog X.w) X E) (ho : PE X o ta) (hkw : PK X kws tk)
    (hall : (backToKw pos (keywordEach kws X.env)).all (·.1.isSome) = true := by rfl) (hks : (backToKw pos (keywordEach kws X.env)).filterMap (·.1) = ks := by rfl)
    (ht : eval (.Call o [] kws pos) X.env = (do callWith pos (← eval o X.env) [] (backTo pos (starEach [] X.env)) (backToKw pos (keywordEach kws X.env))) := by rfl)
    (hpl : ((backTo pos (starEach [] X.env)).any (·.1) || (backToKw pos (keywordEach kws X.env)).any (·.1.isNone)) = false := by rfl) : PE X (.Call o [] kws pos) (tInst C 0 ks.length sp gV E ta tNil tk) := by
  obtain ⟨_, _, _, _, hm, hfi, F, b⟩ := c.ex
  refine ⟨fun pins s σ H Q I h => ?_⟩
  rw [ht]
  refine wpAny_bind (thn (ho.run pins s σ H _ I h) fun u s1 ⟨y, H1, I1, ry, a, ey, q⟩ => ?_)
  subst ey
  obtain rfl : u = Value.ref a := ry
  refine inst_kw hpl (PySem.evalArgs_kw_nil hall (thn (hkw.run pos pins s1 σ H1 _ I1 q) fun ws s2 ⟨zs, H2, I2, rz, l1, l2, ⟨dx, fs, hi⟩, q2⟩ => ?_))
  obtain ⟨ox, od, J, hd⟩ := inst_at I2 hi
  refine ⟨⟨C, ox, od, J, hd⟩, ?_⟩
  rw [hks]
  exact run_o (us := []) (vs := []) hm hfi F hgd (hr.mono hk) b hx I2 hi .nil rz rfl l2 q2
/-! a static method through an instance -/
theorem pe_sE {pl : Sem Bool} (c : GS X.prog X.w X.K X.mg X.base k C m sp dvs) (hgd : X.A.guards = some []) (hr : Room j X.A) (hk : k ≤ j) (hx : Passes (L2.CX X.prog X.w) X E) (he : PE X o ta) (ha : PA X (e :: es) t)
    (hst : starEach (e :: es) X.env = (false, eval e X.env) :: starEach es X.env := by rfl) (hpl : (backTo pos (starEach es X.env)).any (·.1) = false := by rfl)
    (ht : eval (.Call (.Attribute o m apos) (e :: es) [] pos) X.env = (do
      let ov ← eval o X.env
      standAt apos.atName
      let (f, first) ← holding [ov] (getMethod ov m pl)
      callWith pos f first (backTo pos (starEach (e :: es) X.env)) (backToKw pos (keywordEach [] X.env))) := by rfl) :
    PE X (.Call (.Attribute o m apos) (e :: es) [] pos) (fun σ H Q => ta σ H fun x H1 => ∃ a dx fs, x = .ref a ∧ H1 a = some (.ins C dx fs) ∧ fs.lookup m = none ∧ t σ H1 fun vs H2 => sp (vs ++ dvs) H2 Q E) := by
  obtain ⟨p, f, fd, ps, ds, hc, ha', hty, hg, htk, hcp, ⟨rest, hrc⟩, hkp, F, b, d⟩ := c.ex
  refine ⟨fun pins s σ H Q I h => PySem.W.methodCall_KW (pl := pl) (thn (he.run pins s σ H _ I h) fun u s1 ⟨x, H1, I1, rx, a, dx, fs, ex, ea, l, q⟩ => ?_) ht⟩
  subst ex
  cases rx
  obtain ⟨mA, O, r, _, _, _⟩ := ins_get I1.hok ea
  have hn : mA m = none := RelO.none_of (by rw [← l]; exact r m)
  obtain ⟨od, J, hl⟩ := O.look
  have hl' : PySem.W.lookIn m od = some none := by
    have := hl m
    rw [hn] at this
    exact this
  have hcl : PySem.W.isClsIn X.K C = true := by
    obtain ⟨cd, hc', _⟩ := PySem.W.any_some hc.hd
    show (PySem.W.clsIn X.K C).isSome = true
    rw [hc']
    rfl
  refine PySem.W.method_usual (r := some (.ref p)) I1.kIn J (PySem.W.plainGet_of (hc.get m)).1 (PySem.W.plainGet_of (hc.get m)).2 ha' ?_ ?_
  · simp only [Option.all_some, hty, Option.any_some]
    decide +kernel
  · refine PySem.W.get_bind I1.kIn J (PySem.W.plainGet_of (hc.get m)).1 (ClX.find_cm hcl ha' hg htk hcp hl') (PySem.W.plainGet_of (hc.get m)).2 ?_
    refine wpAny_call (PySem.W.sm_get (s := { s1 with toks := s1.toks + 1 }) I1.kIn hrc (PySem.W.handed_on rfl ?_))
    exact PySem.W.callWith_K (first := []) (h₀ := X.base) I.ok.mod.kin hkp (thn (ha.run pos pins _ σ H1 _ (I1.tok _) q) fun us s2 ⟨vs, H2, I2, r, q2⟩ => ⟨I2.kIn, run_gp F hgd (hr.mono hk) b d hx I2 r q2⟩) hst hpl
/-! a method of one of several classes -/
def tMethP (D : Addr → Prop) (m : Str) (sp : Addr → Sp) (dvs : List V) (E : XK) (ta : TE) (t : TA) : TE := fun σ H Q => ta σ H fun x H1 => ∃ a C dx fs, x = .ref a ∧ D C ∧ H1 a = some (.ins C dx fs) ∧ fs.lookup m = none ∧
  t σ H1 fun vs H2 => sp C (x :: (vs ++ dvs)) H2 Q E
theorem pe_mP {D : Addr → Prop} {sp : Addr → Sp} {pl : Sem Bool} (c : ∀ C, D C → GM X.prog X.w X.K X.mg X.base k C m (sp C) dvs) (hgd : X.A.guards = some []) (hr : Room j X.A) (hk : k ≤ j) (hx : Passes (L2.CX X.prog X.w) X E) (he : PE X o ta) (ha : PA X (e :: es) t)
    (hst : starEach (e :: es) X.env = (false, eval e X.env) :: starEach es X.env := by rfl) (hpl : (backTo pos (starEach es X.env)).any (·.1) = false := by rfl)
    (ht : eval (.Call (.Attribute o m apos) (e :: es) [] pos) X.env = (do
      let ov ← eval o X.env
      standAt apos.atName
      let (f, first) ← holding [ov] (getMethod ov m pl)
      callWith pos f first (backTo pos (starEach (e :: es) X.env)) (backToKw pos (keywordEach [] X.env))) := by rfl) :
    PE X (.Call (.Attribute o m apos) (e :: es) [] pos) (tMethP D m sp dvs E ta t) := by
  refine ⟨fun pins s σ H Q I h => PySem.W.methodCall_KW (pl := pl) (thn (he.run pins s σ H _ I h) fun u s1 ⟨x, H1, I1, rx, a, C, dx, fs, ex, hD, ea, l, q⟩ => ?_) ht⟩
  subst ex
  cases rx
  obtain ⟨_, _, _, _, hc, hm, F, b, d⟩ := (c C hD).ex
  exact getmeth_ok I1 ea hc hm l (PySem.W.callWith_K (first := [.ref a]) (h₀ := X.base) I.ok.mod.kin hm.kp (thn (ha.run pos pins s1 σ H1 _ I1 q) fun us s2 ⟨vs, H2, I2, r, q2⟩ =>
    ⟨I2.kIn, run_gp (us := .ref a :: us) (vs := .ref a :: vs) F hgd (hr.mono hk) b d hx I2 (.cons rfl r) q2⟩) hst hpl)
theorem pe_mPK0 {D : Addr → Prop} {sp : Addr → Sp} {pl : Sem Bool} (c : ∀ C, D C → GMK X.prog X.w X.K X.mg X.base k C m (sp C) 0 ks gV) (hgd : X.A.guards = some []) (hr : Room j X.A) (hk : k ≤ j) (hx : Passes (L2.CX X.prog X.w) X E) (ho : PE X o ta)
    (hkw : PK X kws tk) (hall : (backToKw pos (keywordEach kws X.env)).all (·.1.isSome) = true := by rfl) (hks : (backToKw pos (keywordEach kws X.env)).filterMap (·.1) = ks := by rfl)
    (hpl : ((backTo pos (starEach [] X.env)).any (·.1) || (backToKw pos (keywordEach kws X.env)).any (·.1.isNone)) = false := by rfl)
    (ht : eval (.Call (.Attribute o m apos) [] kws pos) X.env = (do
      let ov ← eval o X.env
      standAt apos.atName
      let (f, first) ← holding [ov] (getMethod ov m pl)
      callWith pos f first (backTo pos (starEach [] X.env)) (backToKw pos (keywordEach kws X.env))) := by rfl) :
    PE X (.Call (.Attribute o m apos) [] kws pos) (fun σ H Q => ta σ H fun x H1 => ∃ a C dx fs, x = .ref a ∧ D C ∧ H1 a = some (.ins C dx fs) ∧ fs.lookup m = none ∧ tk σ H1 fun zs H3 => zs.length = ks.length ∧ sp C (gV [x] zs) H3 Q E) := by
  refine ⟨fun pins s σ H Q I h => PySem.W.methodCall_KW (pl := pl) (thn (ho.run pins s σ H _ I h) fun u s1 ⟨x, H1, I1, rx, a, C, dx, fs, ex, hD, ea, l, q⟩ => ?_) ht⟩
  subst ex
  cases rx
  obtain ⟨_, _, _, _, hc, hm, F, b⟩ := (c C hD).ex
  refine getmeth_ok I1 ea hc hm l (PySem.W.callWith_KW0 (first := [.ref a]) (h₀ := X.base) I.ok.mod.kin hm.kp hall ?_ hpl)
  refine thn (hkw.run pos pins s1 σ H1 _ I1 q) fun ws s3 ⟨zs, H3, I3, rz, l2, q3⟩ => ⟨I3.kIn, ?_⟩
  rw [hks]
  exact run_gmk (us := []) (vs := []) F hgd (hr.mono hk) b hx I3 .nil rz rfl l2 q3
end
end Ev

/-! ### zip of two sequences, each a list or a tuple -/
namespace Ev
open PySem PySem.Spec PyProof.Rows L2
def SI (b : Bool) (h : Heap) (it l : Addr) (k : Nat) : Prop := match b with
  | true => h.IsListIter it l k
  | false => h.IsTupleIter it l k
def SS (b : Bool) (h : Heap) (l : Addr) (xs : Array Value) : Prop := match b with
  | true => h.IsList l xs
  | false => h.IsTuple l xs
theorem SI.to {b : Bool} {h h' : Heap} {it l : Addr} {k : Nat} (x : SI b h it l k) (e : ∀ o, h.get? it = some o → h'.get? it = some o) : SI b h' it l k := by
  cases b
  · obtain ⟨o, ho, r⟩ := x
    exact ⟨o, e o ho, r⟩
  · obtain ⟨o, ho, r⟩ := x
    exact ⟨o, e o ho, r⟩
theorem SS.to {b : Bool} {h h' : Heap} {l : Addr} {xs : Array Value} (x : SS b h l xs) (e : ∀ o, h.get? l = some o → h'.get? l = some o) : SS b h' l xs := by
  cases b
  · obtain ⟨o, ho, r⟩ := x
    exact ⟨o, e o ho, r⟩
  · obtain ⟨o, ho, r⟩ := x
    exact ⟨o, e o ho, r⟩
theorem SI.obj {b : Bool} {h : Heap} {it l : Addr} {k : Nat} (x : SI b h it l k) : ∃ o, h.get? it = some o ∧ o.data = .fields #[.ref l, .int k 0] := by
  cases b
  · obtain ⟨o, ho, _, d⟩ := x
    exact ⟨o, ho, d⟩
  · obtain ⟨o, ho, _, d⟩ := x
    exact ⟨o, ho, d⟩
theorem SS.lt {b : Bool} {h : Heap} {l : Addr} {xs : Array Value} (x : SS b h l xs) : l < h.objs.size := by
  cases b
  · obtain ⟨o, ho, _⟩ := x
    exact Heap.lt_size ho
  · obtain ⟨o, ho, _⟩ := x
    exact Heap.lt_size ho
section
variable {prog : Program} {w : World} {A : Around} {E : Value → Shared → Prop} {s : Shared}
theorem si_item {b : Bool} {it l : Addr} {i : Nat} {items : Array Value} {x : Value} {Q : Value → Shared → Prop} (hit : SI b s.heap it l i) (hl : SS b s.heap l items) (hx : items[i]? = some x)
    (hQ : ∀ h', SI b h' it l (i + 1) → Heap.SameBut it s.heap h' → Q x { s with heap := h' }) : wpAny (model prog w) A (Builtin.SmallTypes.nextOf (.ref it)) Q E s := by
  cases b
  · exact RZ.nextOf_tuple_item hit hl hx hQ
  · exact wpAny_nextOf_list_item hit hl hx hQ
theorem si_end {b : Bool} {it l : Addr} {i : Nat} {items : Array Value} {Q : Value → Shared → Prop} (hh : A.handled = none) (hit : SI b s.heap it l i) (hl : SS b s.heap l items) (hx : items[i]? = none)
    (hE : ∀ h' e, Heap.ExtBut it s.heap h' → (∃ o, h'.get? e = some o ∧ o.cls = .type "StopIteration") → E (.ref e) { s with heap := h' }) : wpAny (model prog w) A (Builtin.SmallTypes.nextOf (.ref it)) Q E s := by
  cases b
  · exact RZ.nextOf_tuple_end hh hit hl hx hE
  · exact wpAny_nextOf_list_end hh hit hl hx hE
/-- the first steps of zip's next, up to the walk over the two iterators -/
theorem zk_item {b1 b2 : Bool} {z TI TO i1 i2 l1 l2 : Addr} {k1 k2 : Nat} {xs ys : Array Value} {x y a b : Value} {Q : Value → Shared → Prop} (D : ZipApart z TI TO i1 i2 l1 l2) (hz : IsZip s.heap z TI TO .none) (hTI : IsPair s.heap TI (.ref i1) (.ref i2)) (hTO : IsPair s.heap TO a b)
    (h1 : SI b1 s.heap i1 l1 k1) (h2 : SI b2 s.heap i2 l2 k2) (hl1 : SS b1 s.heap l1 xs) (hl2 : SS b2 s.heap l2 ys) (hx : xs[k1]? = some x) (hy : ys[k2]? = some y)
    (hQ : ∀ h', IsZip h' z TI TO (rawInt s.heap.objs.size) → IsPair h' TO x y → SI b1 h' i1 l1 (k1 + 1) → SI b2 h' i2 l2 (k2 + 1) → IsPair h' s.heap.objs.size x y → (∀ c o, c ≠ z → c ≠ TO → c ≠ i1 → c ≠ i2 → s.heap.get? c = some o → h'.get? c = some o) → Q (.ref s.heap.objs.size) { s with heap := h' }) :
    wpAny (model prog w) A (Builtin.«zip.__next__» ⟨[.ref z], []⟩) (fun fin s' => ∃ v, fin = .done (.ret v) ∧ Q v s') E s := by
  show wpAny _ _ (field (.ref z) 2 >>= _) _ _ _
  refine wpAny_bind (wpAny_field hz rfl (x := .bool false) rfl ?_)
  show wpAny _ _ (field (.ref z) 3 >>= _) _ _ _
  refine wpAny_bind (wpAny_field hz rfl (x := .ref TI) rfl (wpAny_bind (wpAny_seqItems hTI rfl ?_)))
  show wpAny _ _ (Builtin.SmallTypes.ownedTupleIsFree (.ref z) >>= _) _ _ _
  refine wpAny_bind ?_
  unfold Builtin.SmallTypes.ownedTupleIsFree
  refine wpAny_bind (wpAny_field hz rfl (x := .none) rfl (wpAny_pure ?_))
  simp only [if_true]
  refine wpAny_bind (wpAny_rule (wpAny_bind (wpAny_field hz rfl (x := .ref TO) rfl (wpAny_bind (wpAny_setField_rec hz (by simp) fun g1 zz1 e1 => ?_)))))
  replace zz1 : IsZip g1 z TI TO .ellipsis := zz1
  have q1 : ∀ c o, c ≠ z → s.heap.get? c = some o → g1.get? c = some o := fun c o n h => e1.extBut _ _ n h
  refine wpAny_bind ?_
  simp only [List.zipIdx_cons, List.zipIdx_nil, List.forIn_cons, List.forIn_nil]
  refine wpAny_bind (wpAny_bind (wpAny_onRaise ?_))
  show wpAny _ _ (Builtin.SmallTypes.nextOf (.ref i1) >>= _) _ _ _
  refine wpAny_bind (si_item (s := { s with heap := g1 }) (h1.to fun o => q1 _ o D.i1z) (hl1.to fun o => q1 _ o D.l1z) hx fun g2 n1 e2 => wpAny_pure ?_)
  have q2 : ∀ c o, c ≠ z → c ≠ i1 → s.heap.get? c = some o → g2.get? c = some o := fun c o n m h => e2.extBut _ _ m (q1 c o n h)
  have p2 : IsPair g2 TO a b := q2 _ _ D.TOz D.TOi1 hTO
  refine wpAny_bind (wpAny_seqItems p2 rfl (wpAny_bind (wpAny_updateSeq_pair p2 fun g3 p3 e3 => wpAny_bind (wpAny_letGo (wpAny_pure ?_)))))
  replace p3 : IsPair g3 TO x b := p3
  have q3 : ∀ c o, c ≠ z → c ≠ i1 → c ≠ TO → s.heap.get? c = some o → g3.get? c = some o := fun c o n m l h => e3.extBut _ _ l (q2 c o n m h)
  refine wpAny_bind (wpAny_bind (wpAny_onRaise ?_))
  show wpAny _ _ (Builtin.SmallTypes.nextOf (.ref i2) >>= _) _ _ _
  refine wpAny_bind (si_item (s := { s with heap := g3 }) (h2.to fun o => q3 _ o D.i2z D.i12.symm D.TOi2.symm) (hl2.to fun o => q3 _ o D.l2z D.l2i1 D.l2TO) hy fun g4 n2 e4 => wpAny_pure ?_)
  have p4 : IsPair g4 TO x b := e4.extBut _ _ D.TOi2 p3
  refine wpAny_bind (wpAny_seqItems p4 rfl (wpAny_bind (wpAny_updateSeq_pair p4 fun g5 p5 e5 => wpAny_bind (wpAny_letGo (wpAny_pure (wpAny_pure ?_))))))
  replace p5 : IsPair g5 TO x y := p5
  refine wpAny_bind (wpAny_seqItems p5 rfl (wpAny_bind (wpAny_newTuple ?_)))
  have hsz : g5.objs.size = s.heap.objs.size := by rw [e5.1, e4.1, e3.1, e2.1, e1.1]
  have z5 : IsZip g5 z TI TO .ellipsis := e5.extBut _ _ D.TOz.symm (e4.extBut _ _ D.i2z.symm (e3.extBut _ _ D.TOz.symm (e2.extBut _ _ D.i1z.symm zz1)))
  have q5 : ∀ c o, c ≠ z → c ≠ TO → c ≠ i1 → c ≠ i2 → s.heap.get? c = some o → g5.get? c = some o := fun c o a1 a2 a3 a4 h => e5.extBut _ _ a2 (e4.extBut _ _ a4 (q3 c o a1 a3 a2 h))
  have m1 : SI b1 g5 i1 l1 (k1 + 1) := n1.to fun o h => e5.extBut _ _ D.TOi1.symm (e4.extBut _ _ D.i12 (e3.extBut _ _ D.TOi1.symm h))
  have m2 : SI b2 g5 i2 l2 (k2 + 1) := n2.to fun o h => e5.extBut _ _ D.TOi2.symm h
  show wpAny _ _ (Builtin.SmallTypes.ownedTupleHandOut (.ref z) (.ref g5.objs.size) >>= _) _ _ _
  refine wpAny_bind ?_
  unfold Builtin.SmallTypes.ownedTupleHandOut
  have z6 : IsZip (g5.push { cls := .type "tuple", data := .seq #[x, y] }) z TI TO .ellipsis := Heap.get?_push_of_some _ z5
  refine wpAny_bind (wpAny_setField_rec z6 (by simp) fun g7 z7 e7 => ?_)
  replace z7 : IsZip g7 z TI TO (rawInt g5.objs.size) := z7
  refine wpAny_setField_rec z7 (by simp) fun g8 z8 e8 => ?_
  replace z8 : IsZip g8 z TI TO (rawInt g5.objs.size) := z8
  have up : ∀ c o, c ≠ z → g5.get? c = some o → g8.get? c = some o := fun c o n h => e8.extBut _ _ n (e7.extBut _ _ n (Heap.get?_push_of_some _ h))
  have zl : z < g5.objs.size := Heap.lt_size z5
  have pp : IsPair g8 g5.objs.size x y := e8.extBut _ _ (Nat.ne_of_gt zl) (e7.extBut _ _ (Nat.ne_of_gt zl) (Heap.get?_push_size _ rfl))
  rw [hsz] at z8 pp
  refine wpAny_pure ⟨_, rfl, ?_⟩
  show Q (.ref g5.objs.size) _
  rw [hsz]
  exact hQ g8 z8 (up _ _ D.TOz p5) (m1.to fun o h => up _ o D.i1z h) (m2.to fun o h => up _ o D.i2z h) pp fun c o a1 a2 a3 a4 h => up c o a1 (q5 c o a1 a2 a3 a4 h)
theorem zk_end {b1 b2 : Bool} {z TI TO i1 i2 l1 l2 : Addr} {k1 k2 : Nat} {xs ys : Array Value} {a b : Value} {Q : Fin → Shared → Prop} (hh : A.handled = none) (D : ZipApart z TI TO i1 i2 l1 l2) (hz : IsZip s.heap z TI TO .none) (hTI : IsPair s.heap TI (.ref i1) (.ref i2)) (hTO : IsPair s.heap TO a b)
    (h1 : SI b1 s.heap i1 l1 k1) (h2 : SI b2 s.heap i2 l2 k2) (hl1 : SS b1 s.heap l1 xs) (hl2 : SS b2 s.heap l2 ys) (hend : xs[k1]? = none ∨ ys[k2]? = none)
    (hE : ∀ h' e, (∀ c o, c ≠ z → c ≠ TO → c ≠ i1 → c ≠ i2 → s.heap.get? c = some o → h'.get? c = some o) → (∃ o, h'.get? e = some o ∧ o.cls = .type "StopIteration") → E (.ref e) { s with heap := h' }) :
    wpAny (model prog w) A (Builtin.«zip.__next__» ⟨[.ref z], []⟩) Q E s := by
  show wpAny _ _ (field (.ref z) 2 >>= _) _ _ _
  refine wpAny_bind (wpAny_field hz rfl (x := .bool false) rfl ?_)
  show wpAny _ _ (field (.ref z) 3 >>= _) _ _ _
  refine wpAny_bind (wpAny_field hz rfl (x := .ref TI) rfl (wpAny_bind (wpAny_seqItems hTI rfl ?_)))
  show wpAny _ _ (Builtin.SmallTypes.ownedTupleIsFree (.ref z) >>= _) _ _ _
  refine wpAny_bind ?_
  unfold Builtin.SmallTypes.ownedTupleIsFree
  refine wpAny_bind (wpAny_field hz rfl (x := .none) rfl (wpAny_pure ?_))
  simp only [if_true]
  refine wpAny_bind (wpAny_rule (wpAny_bind (wpAny_field hz rfl (x := .ref TO) rfl (wpAny_bind (wpAny_setField_rec hz (by simp) fun g1 zz1 e1 => ?_)))))
  replace zz1 : IsZip g1 z TI TO .ellipsis := zz1
  have q1 : ∀ c o, c ≠ z → s.heap.get? c = some o → g1.get? c = some o := fun c o n h => e1.extBut _ _ n h
  refine wpAny_bind ?_
  simp only [List.zipIdx_cons, List.zipIdx_nil, List.forIn_cons, List.forIn_nil]
  refine wpAny_bind (wpAny_bind (wpAny_onRaise ?_))
  show wpAny _ _ (Builtin.SmallTypes.nextOf (.ref i1) >>= _) _ _ _
  cases hx : xs[k1]? with
  | none =>
    refine wpAny_bind (si_end (s := { s with heap := g1 }) hh (h1.to fun o => q1 _ o D.i1z) (hl1.to fun o => q1 _ o D.l1z) hx fun g2 e e2 he => ?_)
    obtain ⟨oe, hoe, hce⟩ := he
    have z2 : IsZip g2 z TI TO .ellipsis := e2 _ _ D.i1z.symm zz1
    have hez : e ≠ z := fun x => by
      subst x
      rw [z2] at hoe
      cases hoe
      simp at hce
    exact wpAny_setField_rec z2 (by simp) fun g3 _ e3 => hE g3 e (fun c o a1 _ a3 _ h => e3.extBut _ _ a1 (e2 _ _ a3 (q1 c o a1 h))) ⟨oe, e3.extBut _ _ hez hoe, hce⟩
  | some x =>
    have hy : ys[k2]? = none := by
      rcases hend with h | h
      · rw [hx] at h
        cases h
      · exact h
    refine wpAny_bind (si_item (s := { s with heap := g1 }) (h1.to fun o => q1 _ o D.i1z) (hl1.to fun o => q1 _ o D.l1z) hx fun g2 n1 e2 => wpAny_pure ?_)
    have q2 : ∀ c o, c ≠ z → c ≠ i1 → s.heap.get? c = some o → g2.get? c = some o := fun c o n m h => e2.extBut _ _ m (q1 c o n h)
    have p2 : IsPair g2 TO a b := q2 _ _ D.TOz D.TOi1 hTO
    refine wpAny_bind (wpAny_seqItems p2 rfl (wpAny_bind (wpAny_updateSeq_pair p2 fun g3 p3 e3 => wpAny_bind (wpAny_letGo (wpAny_pure ?_)))))
    have q3 : ∀ c o, c ≠ z → c ≠ i1 → c ≠ TO → s.heap.get? c = some o → g3.get? c = some o := fun c o n m l h => e3.extBut _ _ l (q2 c o n m h)
    refine wpAny_bind (wpAny_bind (wpAny_onRaise ?_))
    show wpAny _ _ (Builtin.SmallTypes.nextOf (.ref i2) >>= _) _ _ _
    refine wpAny_bind (si_end (s := { s with heap := g3 }) hh (h2.to fun o => q3 _ o D.i2z D.i12.symm D.TOi2.symm) (hl2.to fun o => q3 _ o D.l2z D.l2i1 D.l2TO) hy fun g4 e e4 he => ?_)
    obtain ⟨oe, hoe, hce⟩ := he
    have z4 : IsZip g4 z TI TO .ellipsis := e4 _ _ D.i2z.symm (e3.extBut _ _ D.TOz.symm (e2.extBut _ _ D.i1z.symm zz1))
    have hez : e ≠ z := fun x => by
      subst x
      rw [z4] at hoe
      cases hoe
      simp at hce
    exact wpAny_setField_rec z4 (by simp) fun g5 _ e5 => hE g5 e (fun c o a1 a2 a3 a4 h => e5.extBut _ _ a1 (e4 _ _ a4 (q3 c o a1 a3 a2 h))) ⟨oe, e5.extBut _ _ hez hoe, hce⟩
theorem zk_next {b1 b2 : Bool} {z TI TO i1 i2 l1 l2 : Addr} {k1 k2 : Nat} {xs ys : Array Value} {x y a b : Value} {Q : Option Value → Shared → Prop} (D : ZipApart z TI TO i1 i2 l1 l2) (hz : IsZip s.heap z TI TO .none) (hTI : IsPair s.heap TI (.ref i1) (.ref i2)) (hTO : IsPair s.heap TO a b)
    (h1 : SI b1 s.heap i1 l1 k1) (h2 : SI b2 s.heap i2 l2 k2) (hl1 : SS b1 s.heap l1 xs) (hl2 : SS b2 s.heap l2 ys) (hx : xs[k1]? = some x) (hy : ys[k2]? = some y)
    (hQ : ∀ h', IsZip h' z TI TO (rawInt s.heap.objs.size) → IsPair h' TO x y → SI b1 h' i1 l1 (k1 + 1) → SI b2 h' i2 l2 (k2 + 1) → IsPair h' s.heap.objs.size x y → (∀ c o, c ≠ z → c ≠ TO → c ≠ i1 → c ≠ i2 → s.heap.get? c = some o → h'.get? c = some o) → Q (some (.ref s.heap.objs.size)) { s with heap := h' }) :
    wpAny (model prog w) A (pyNext (.ref z)) Q E s := by
  have hT : s.TypeIs (.ref z) "zip" := ⟨_, hz, rfl⟩
  unfold pyNext
  exact wpAny_bind (wpAny_attempt (wpAny_callSpecial?_slot (name := Str.ofString "__next__") hT F.slot_zip_next (wpAny_call_entry F.slot_zip_next hT F.entry_zip_next
    (zk_item D hz hTI hTO h1 h2 hl1 hl2 hx hy fun h' a1 a2 a3 a4 a5 a7 => wpAny_pure (hQ h' a1 a2 a3 a4 a5 a7)) (F.args_zip_next_1 _))))
theorem zk_stop {b1 b2 : Bool} {z TI TO i1 i2 l1 l2 : Addr} {k1 k2 : Nat} {xs ys : Array Value} {a b : Value} {Q : Option Value → Shared → Prop} (hh : A.handled = none) (D : ZipApart z TI TO i1 i2 l1 l2) (hz : IsZip s.heap z TI TO .none) (hTI : IsPair s.heap TI (.ref i1) (.ref i2)) (hTO : IsPair s.heap TO a b)
    (h1 : SI b1 s.heap i1 l1 k1) (h2 : SI b2 s.heap i2 l2 k2) (hl1 : SS b1 s.heap l1 xs) (hl2 : SS b2 s.heap l2 ys) (hend : xs[k1]? = none ∨ ys[k2]? = none)
    (hQ : ∀ h', (∀ c o, c ≠ z → c ≠ TO → c ≠ i1 → c ≠ i2 → s.heap.get? c = some o → h'.get? c = some o) → Q none { s with heap := h' }) : wpAny (model prog w) A (pyNext (.ref z)) Q E s := by
  have hT : s.TypeIs (.ref z) "zip" := ⟨_, hz, rfl⟩
  unfold pyNext
  refine wpAny_bind (wpAny_attempt (wpAny_callSpecial?_slot (name := Str.ofString "__next__") hT F.slot_zip_next (wpAny_call_entry F.slot_zip_next hT F.entry_zip_next (zk_end hh D hz hTI hTO h1 h2 hl1 hl2 hend fun h' e hk he => ?_) (F.args_zip_next_1 _))))
  obtain ⟨o, ho, hc⟩ := he
  exact wpAny_bind (wpAny_isInstance (T := "StopIteration") (b := true) ⟨o, ho, hc⟩ isSubtype_stop (wpAny_pure (hQ _ hk)))
end
/-! its making -/
def itO (b : Bool) (l : Addr) : Obj := { cls := .type (if b then "list_iterator" else "tuple_iterator"), data := .fields #[.ref l, .int 0 0] }
abbrev zk1 (b1 : Bool) (h : Heap) (l1 : Addr) : Heap := h.push (itO b1 l1)
abbrev zk2 (b1 b2 : Bool) (h : Heap) (l1 l2 : Addr) : Heap := (zk1 b1 h l1).push (itO b2 l2)
abbrev zk3 (b1 b2 : Bool) (h : Heap) (l1 l2 : Addr) : Heap := (zk2 b1 b2 h l1 l2).push { cls := .type "tuple", data := .seq #[.ref h.objs.size, .ref (zk1 b1 h l1).objs.size] }
abbrev zk4 (b1 b2 : Bool) (h : Heap) (l1 l2 : Addr) : Heap := (zk3 b1 b2 h l1 l2).push { cls := .type "tuple", data := .seq #[.none, .none] }
abbrev zk5 (b1 b2 : Bool) (h : Heap) (l1 l2 : Addr) : Heap := (zk4 b1 b2 h l1 l2).push { cls := .type "zip", data := .fields #[.none, .bool false, .bool false, .ref (zk2 b1 b2 h l1 l2).objs.size, .ref (zk3 b1 b2 h l1 l2).objs.size] }
theorem zk_new (b1 b2 : Bool) (l1 l2 : Addr) (xs ys : Array Value) :
    Meets (Builtin.«zip.__new__» ⟨[.type "zip", .ref l1, .ref l2], []⟩) (fun _ R s => SS b1 s.heap l1 xs ∧ SS b2 s.heap l2 ys ∧ R (.ok (.ret (.ref (zk4 b1 b2 s.heap l1 l2).objs.size))) { s with heap := zk5 b1 b2 s.heap l1 l2 }) :=
  .of_wp fun prog w A R s h => by
    obtain ⟨hp, g, d, tk, os⟩ := s
    obtain ⟨hl1, hl2, h⟩ := h
    have hsub := sub_zip
    have hl2' : SS b2 (hp.push (itO b1 l1)) l2 ys := hl2.to fun o e => Heap.get?_push_of_some _ e
    cases b1 <;> cases b2
    · have y1 : Heap.IsTuple (Shared.heap ⟨hp, g, d, tk, os⟩) l1 xs := hl1
      have y2 : Heap.IsTuple (Shared.heap ⟨hp.push { cls := .type "tuple_iterator", data := .fields #[.ref l1, .int 0 0] }, g, d, tk, os⟩) l2 ys := hl2'
      wp_walk using wpAny_pyIter_tuple y1, wpAny_pyIter_tuple y2
      exact ⟨_, rfl, h⟩
    · have y1 : Heap.IsTuple (Shared.heap ⟨hp, g, d, tk, os⟩) l1 xs := hl1
      have y2 : Heap.IsList (Shared.heap ⟨hp.push { cls := .type "tuple_iterator", data := .fields #[.ref l1, .int 0 0] }, g, d, tk, os⟩) l2 ys := hl2'
      wp_walk using wpAny_pyIter_tuple y1, wpAny_pyIter_list y2
      exact ⟨_, rfl, h⟩
    · have y1 : Heap.IsList (Shared.heap ⟨hp, g, d, tk, os⟩) l1 xs := hl1
      have y2 : Heap.IsTuple (Shared.heap ⟨hp.push { cls := .type "list_iterator", data := .fields #[.ref l1, .int 0 0] }, g, d, tk, os⟩) l2 ys := hl2'
      wp_walk using wpAny_pyIter_list y1, wpAny_pyIter_tuple y2
      exact ⟨_, rfl, h⟩
    · have y1 : Heap.IsList (Shared.heap ⟨hp, g, d, tk, os⟩) l1 xs := hl1
      have y2 : Heap.IsList (Shared.heap ⟨hp.push { cls := .type "list_iterator", data := .fields #[.ref l1, .int 0 0] }, g, d, tk, os⟩) l2 ys := hl2'
      wp_walk using wpAny_pyIter_list y1, wpAny_pyIter_list y2
      exact ⟨_, rfl, h⟩
theorem itO_is {b : Bool} {h : Heap} {a l : Addr} (e : h.get? a = some (itO b l)) : SI b h a l 0 := by
  cases b
  · exact ⟨_, e, rfl, rfl⟩
  · exact ⟨_, e, rfl, rfl⟩
section
variable {prog : Program} {w : World} {A : Around} {E : Value → Shared → Prop} {s : Shared}
theorem call_zk {b1 b2 : Bool} {l1 l2 : Addr} {xs ys : Array Value} {Q : Value → Shared → Prop} (hl1 : SS b1 s.heap l1 xs) (hl2 : SS b2 s.heap l2 ys)
    (h : ∀ h', IsZip h' (s.heap.objs.size + 4) (s.heap.objs.size + 2) (s.heap.objs.size + 3) .none → IsPair h' (s.heap.objs.size + 2) (.ref s.heap.objs.size) (.ref (s.heap.objs.size + 1)) → IsPair h' (s.heap.objs.size + 3) .none .none → SI b1 h' s.heap.objs.size l1 0 → SI b2 h' (s.heap.objs.size + 1) l2 0 →
      (∀ c o, s.heap.get? c = some o → h'.get? c = some o) → Q (.ref (s.heap.objs.size + 4)) { s with heap := h' }) : wpAny (model prog w) A (call (.type "zip") [.ref l1, .ref l2]) Q E s := by
  refine callType_new F.called_zip (by decide) (F.typeCall_zip_2 _ _) (F.newCall_zip_2 _ _) (fun obj => F.args_object_init_3 obj _ _) F.entry_zip_new (zk_new b1 b2 l1 l2 xs ys) ⟨hl1, hl2, ?_⟩
  have z1 : (zk1 b1 s.heap l1).objs.size = s.heap.objs.size + 1 := Heap.size_push ..
  have z2 : (zk2 b1 b2 s.heap l1 l2).objs.size = s.heap.objs.size + 2 := by rw [Heap.size_push, z1]
  have z3 : (zk3 b1 b2 s.heap l1 l2).objs.size = s.heap.objs.size + 3 := by rw [Heap.size_push, z2]
  have z4 : (zk4 b1 b2 s.heap l1 l2).objs.size = s.heap.objs.size + 4 := by rw [Heap.size_push, z3]
  have y5 : (zk5 b1 b2 s.heap l1 l2).get? (zk4 b1 b2 s.heap l1 l2).objs.size = some _ := Heap.get?_push_size _ rfl
  have y4 : (zk5 b1 b2 s.heap l1 l2).get? (zk3 b1 b2 s.heap l1 l2).objs.size = some _ := Heap.get?_push_of_some _ (Heap.get?_push_size _ rfl)
  have y3 : (zk5 b1 b2 s.heap l1 l2).get? (zk2 b1 b2 s.heap l1 l2).objs.size = some _ := Heap.get?_push_of_some _ (Heap.get?_push_of_some _ (Heap.get?_push_size _ rfl))
  have y2 : (zk5 b1 b2 s.heap l1 l2).get? (zk1 b1 s.heap l1).objs.size = some (itO b2 l2) := Heap.get?_push_of_some _ (Heap.get?_push_of_some _ (Heap.get?_push_of_some _ (Heap.get?_push_size _ (by cases b2 <;> rfl))))
  have y1 : (zk5 b1 b2 s.heap l1 l2).get? s.heap.objs.size = some (itO b1 l1) := Heap.get?_push_of_some _ (Heap.get?_push_of_some _ (Heap.get?_push_of_some _ (Heap.get?_push_of_some _ (Heap.get?_push_size _ (by cases b1 <;> rfl)))))
  show _ ∧ _
  rw [z2, z3, z4] at y5
  rw [z1, z2] at y3
  rw [z3] at y4
  rw [z1] at y2
  rw [z4]
  exact ⟨⟨_, y5, rfl⟩, h _ y5 y3 y4 (itO_is y1) (itO_is y2) fun c o x => Heap.get?_push_of_some _ (Heap.get?_push_of_some _ (Heap.get?_push_of_some _ (Heap.get?_push_of_some _ (Heap.get?_push_of_some _ x))))⟩
end
/-- a list or a tuple of the abstract heap -/
def SqB (b : Bool) (K : PySem.W.Frag) (H : Hp) (a : Addr) (xs : List V) : Prop := match b with
  | true => SqL K H a xs
  | false => SqT K H a xs
theorem sqb_ss {X : Cx} {pins : List (Addr × Obj)} {σ : L2.St} {H : Hp} {s : Shared} {b : Bool} {a : Addr} {xs : List V} (I : Inv X pins σ H s) (h : SqB b X.K H a xs) : ∃ its : List Value, Vals xs its ∧ SS b s.heap a its.toArray := by
  cases b
  · obtain ⟨its, rv, p, _⟩ := I.tuple (show SqT X.K H a xs from h)
    exact ⟨its, rv, p⟩
  · obtain ⟨its, rv, p, _⟩ := I.list (show SqL X.K H a xs from h)
    exact ⟨its, rv, p.isList⟩
theorem sqb_inj {X : Cx} {pins : List (Addr × Obj)} {σ : L2.St} {H : Hp} {s : Shared} {b : Bool} {a : Addr} {xs ys : List V} (I : Inv X pins σ H s) (h : SqB b X.K H a xs) (h' : SqB b X.K H a ys) : xs = ys := by
  cases b
  · exact I.tuple_inj h h'
  · exact I.list_inj h h'
def ItzB (b1 b2 : Bool) (K : PySem.W.Frag) (a b : Addr) : It :=
  ⟨fun i H => ∃ (xs ys : List V) (x y : V), SqB b1 K H a xs ∧ SqB b2 K H b ys ∧ xs[i]? = some x ∧ ys[i]? = some y,
    fun i H v H' => ∃ T x y, v = .ref T ∧ H T = none ∧ H' = upd H T (.tup [x, y]) ∧ (∀ xs, SqB b1 K H a xs → xs[i]? = some x) ∧ ∀ ys, SqB b2 K H b ys → ys[i]? = some y,
    fun i H => ∃ xs ys : List V, SqB b1 K H a xs ∧ SqB b2 K H b ys ∧ (xs.length ≤ i ∨ ys.length ≤ i)⟩
theorem turn_zk {b1 b2 : Bool} {P : Program} {w : World} {K : PySem.W.Frag} {elts : List Expr} {kk : Nat} {tpos : Pos} {a b z TI TO i1 i2 : Addr} (D : ZipApart z TI TO i1 i2 a b) :
    Turn P w K (.Tuple elts kk tpos) (ItzB b1 b2 K a b) [z, TI, TO, i1, i2] z (fun i h => IsZip h z TI TO .none ∧ IsPair h TI (.ref i1) (.ref i2) ∧ (∃ x y, IsPair h TO x y) ∧ SI b1 h i1 a i ∧ SI b2 h i2 b i) where
  mem := by simp
  obj := fun i h st c hc => by
    obtain ⟨hz, hTI, ⟨x, y, hTO⟩, q1, q2⟩ := st
    obtain ⟨o1, e1, d1⟩ := q1.obj
    obtain ⟨o2, e2, d2⟩ := q2.obj
    have e' : c = z ∨ c = TI ∨ c = TO ∨ c = i1 ∨ c = i2 := by simpa using hc
    rcases e' with rfl | rfl | rfl | rfl | rfl
    · exact ⟨_, hz, fun v q => nomatch q⟩
    · exact ⟨_, hTI, fun v q => nomatch q⟩
    · exact ⟨_, hTO, fun v q => nomatch q⟩
    · exact ⟨o1, e1, fun v q => by rw [d1] at q; cases q⟩
    · exact ⟨o2, e2, fun v q => by rw [d2] at q; cases q⟩
  keep := fun i h h' st k => by
    obtain ⟨hz, hTI, ⟨x, y, hTO⟩, h1, h2⟩ := st
    exact ⟨k z (by simp) _ hz, k TI (by simp) _ hTI, ⟨x, y, k TO (by simp) _ hTO⟩, h1.to fun o q => k i1 (by simp) o q, h2.to fun o q => k i2 (by simp) o q⟩
  item := by
    intro X hP hw hK hc i pins s σ H E I hf st hg
    subst hP hw hK
    obtain ⟨hz, hTI, ⟨x0, y0, hTO⟩, h1, h2⟩ := st
    obtain ⟨xs, ys, x, y, hqx, hqy, hx, hy⟩ := hg
    obtain ⟨its, rv, p⟩ := sqb_ss I hqx
    obtain ⟨its2, rv2, p2⟩ := sqb_ss I hqy
    obtain ⟨u, hu, ru⟩ := rv.get hx
    obtain ⟨u2, hu2, ru2⟩ := rv2.get hy
    have zl : z < s.heap.objs.size := Heap.lt_size hz
    refine zk_next D hz hTI hTO h1 h2 p p2 (x := u) (y := u2) (by simpa using hu) (by simpa using hu2) fun h' z' TO' h1' h2' hT hk => ?_
    refine ⟨_, rfl, wpAny_letOwnedTupleGo_zip (s := { s with heap := h' }) z' fun g zg sb => ?_⟩
    have hT2 : g.get? s.heap.objs.size = some { cls := .type "tuple", data := .seq #[u, u2] } := (sb.2 _ (Nat.ne_of_gt zl)).trans hT
    have new : ObjOk X.prog X.w (upd H s.heap.objs.size (.tup [x, y])) g s.heap.objs.size (.tup [x, y]) := ⟨by show 2 ≤ sizeLine; decide, [u, u2], .cons ru (.cons ru2 .nil), ⟨_, hT2, rfl, _, rfl⟩⟩
    have I1 : Inv X pins σ (upd H s.heap.objs.size (.tup [x, y])) { s with heap := g } :=
      I.turnedNew (t' := s.toks) (ch := [z, TI, TO, i1, i2]) (fun c o hb q => (sb.2 c (fun q' => hb (by simp [q']))).trans (hk c o (fun q' => hb (by simp [q'])) (fun q' => hb (by simp [q'])) (fun q' => hb (by simp [q'])) (fun q' => hb (by simp [q'])) q)) hf (Nat.le_refl _) new
    refine ⟨.ref s.heap.objs.size, _, I1, rfl, ⟨_, x, y, rfl, I.hok.fresh (Nat.le_refl _), rfl, fun l hl => by rw [sqb_inj I hl hqx]; exact hx, fun l hl => by rw [sqb_inj I hl hqy]; exact hy⟩, ⟨zg, (sb.2 _ D.TIz).trans (hk _ _ D.TIz D.TITO D.TIi1 D.TIi2 hTI), ⟨u, u2, (sb.2 _ D.TOz).trans TO'⟩, h1'.to fun o q => (sb.2 _ D.i1z).trans q, h2'.to fun o q => (sb.2 _ D.i2z).trans q⟩, fun c hcm => ?_⟩
    obtain ⟨o1, e1, _⟩ := h1.obj
    obtain ⟨o2, e2, _⟩ := h2.obj
    have hlt : c < s.heap.objs.size := by
      have e' : c = z ∨ c = TI ∨ c = TO ∨ c = i1 ∨ c = i2 := by simpa using hcm
      rcases e' with q | q | q | q | q
      · rw [q]; exact zl
      · rw [q]; exact Heap.lt_size hTI
      · rw [q]; exact Heap.lt_size hTO
      · rw [q]; exact Heap.lt_size e1
      · rw [q]; exact Heap.lt_size e2
    rw [upd_ne (Nat.ne_of_lt hlt)]
    exact (hf c hcm).1
  done := by
    intro X hP hw hK hc i pins s σ H E I hf st hg
    subst hP hw hK
    obtain ⟨hz, hTI, ⟨x0, y0, hTO⟩, h1, h2⟩ := st
    obtain ⟨xs, ys, hqx, hqy, hend⟩ := hg
    obtain ⟨its, rv, p⟩ := sqb_ss I hqx
    obtain ⟨its2, rv2, p2⟩ := sqb_ss I hqy
    have m1 := rv.length
    have m2 := rv2.length
    have he : its.toArray[i]? = none ∨ its2.toArray[i]? = none := by
      rcases hend with q | q
      · exact .inl (by simp; omega)
      · exact .inr (by simp; omega)
    exact zk_stop (I.ok.hd hc) D hz hTI hTO h1 h2 p p2 he fun h' hk => ⟨rfl, I.turnedL (t' := s.toks) (ch := [z, TI, TO, i1, i2]) (fun c o hb q => hk c o (fun q' => hb (by simp [q'])) (fun q' => hb (by simp [q'])) (fun q' => hb (by simp [q'])) (fun q' => hb (by simp [q'])) q) hf⟩
  self := fun A i s Q E st h => wpAny_pyIter_zip st.1 h
def iZipB (b1 b2 : Bool) (K : PySem.W.Frag) (ta : TA) : TI := fun σ H R => ta σ H fun vs H1 => ∃ a b xs ys, vs = [.ref a, .ref b] ∧ SqB b1 K H1 a xs ∧ SqB b2 K H1 b ys ∧ R (ItzB b1 b2 K a b) H1
theorem pi_zipB (b1 b2 : Bool) {X : Cx} {e e2 : Expr} {ta : TA} {p pos tpos : Pos} {elts : List Expr} {kk : Nat} (hg : Gl X "zip") (hm : X.mg "zip" = none) (ha : PA X [e, e2] ta)
    (hs : starEach [e, e2] X.env = (false, eval e X.env) :: starEach [e2] X.env := by rfl) (hpl : (backTo pos (starEach [e2] X.env)).any (·.1) = false := by rfl) :
    PI X (.Tuple elts kk tpos) (.Call (.Name "zip" p) [e, e2] [] pos) (iZipB b1 b2 X.K ta) := by
  refine ⟨fun pins s σ H R I h => ?_⟩
  refine Call_ (ld_blt I hg hm PyProof.Rows.boot_zip (PyProof.Rows.callWith_type1 (thn (ha.run pos pins s σ H _ I h) fun us s1 ⟨vs, H1, I1, r1, q1⟩ => ?_) hs hpl))
  obtain ⟨a, b, xs, ys, ex, qx, qy, q⟩ := q1
  subst ex
  obtain ⟨u1, u2, rfl, ra, rb⟩ := vals2 r1
  cases ra
  cases rb
  obtain ⟨its, rv, p1⟩ := sqb_ss I1 qx
  obtain ⟨its2, rv2, p2⟩ := sqb_ss I1 qy
  refine call_zk p1 p2 fun h' hz hTI hTO h1 h2 hk => wpAny_pyIter_zip hz ?_
  have I2 : Inv X pins σ H1 { s1 with heap := h' } := I1.kept (t' := s1.toks) hk
  refine ⟨s1.heap.objs.size + 4, [s1.heap.objs.size + 4, s1.heap.objs.size + 2, s1.heap.objs.size + 3, s1.heap.objs.size, s1.heap.objs.size + 1], _, _, H1, rfl, I2, turn_zk (PySem.W.ktu_apart s1.heap.objs.size a b p1.lt p2.lt), ⟨hz, hTI, ⟨_, _, hTO⟩, h1, h2⟩, fun c hcm => ?_, q⟩
  have e' : c = s1.heap.objs.size + 4 ∨ c = s1.heap.objs.size + 2 ∨ c = s1.heap.objs.size + 3 ∨ c = s1.heap.objs.size ∨ c = s1.heap.objs.size + 1 := by simpa using hcm
  have hle : s1.heap.objs.size ≤ c := by
    rcases e' with q | q | q | q | q <;> rw [q] <;> first | exact Nat.le_refl _ | exact Nat.le_add_right _ _
  exact I1.fpOk hle (I1.hok.fresh hle)
end Ev

/-! ### comprehensions whose turns may change the heap, and over zip -/
namespace Ev
open PySem L2
section
variable {g : TG} {tt : TT} {te : TE} {vs : List Nat} {σ : L2.St} {H1 : Hp} {D : Addr} {Qd : Hp → Prop} {K : PySem.W.Frag} {a b : Addr} {xs ys : List V} {lo : Int} {n : Nat}
/-- what a comprehension's rule asks of its iterator -/
def LcGoal (J : It) (g : TG) (tt : TT) (te : TE) (vs : List Nat) (σ : L2.St) (H1 : Hp) (D : Addr) (Qd : Hp → Prop) : Prop :=
  ∃ W : Nat → Nat → Hp → Prop, (∃ m, W 0 m (upd H1 D (.lst []))) ∧ ∀ i m H, W i m H →
    (J.stop i H ∧ Qd H) ∨ (J.go i H ∧ ∃ Nx : Hp → Prop, (∀ H', Nx H' → ∃ m', m' < m ∧ W (i + 1) m' H') ∧ ∀ x H', J.yld i H x H' → g x (wipe σ vs) H' fun σ2 H2 => wipe σ2 vs = wipe σ vs ∧ tt σ2 H2 fun b H3 =>
      if b = true then te σ2 H3 fun y H4 => ∃ acc, H4 D = some (.lst acc) ∧ acc.length < sizeLine ∧ Nx (upd H4 D (.lst (acc ++ [y]))) else Nx H3)
theorem lcIt {J : It} {P : Nat → List V → Hp → Prop} (hz : n < 16777216) (h0 : P 0 [] (upd H1 D (.lst [])))
    (hgo : ∀ i acc H, i < n → H D = some (.lst acc) → P i acc H → J.go i H) (hst : ∀ acc H, H D = some (.lst acc) → P n acc H → J.stop n H)
    (hs : ∀ i acc H x H' (R : V → Hp → Prop) (N : Hp → Prop), i < n → H D = some (.lst acc) → P i acc H → J.yld i H x H' → (∀ y H4, H4 D = some (.lst acc) → P (i + 1) (acc ++ [y]) (upd H4 D (.lst (acc ++ [y]))) → R y H4) → (∀ H4, H4 D = some (.lst acc) → P (i + 1) acc H4 → N H4) → LcTurn g tt te vs σ x H' R N)
    (hd : ∀ acc H, acc.length ≤ n → H D = some (.lst acc) → P n acc H → Qd H) : LcGoal J g tt te vs σ H1 D Qd := by
  refine ⟨fun i m H => m = n - i ∧ i ≤ n ∧ ∃ acc, acc.length ≤ i ∧ H D = some (.lst acc) ∧ P i acc H, ⟨n, by omega, by omega, [], by simp, upd_same, h0⟩, ?_⟩
  rintro i m H ⟨rfl, hi, acc, hl, hD, p⟩
  by_cases h : i < n
  · refine Or.inr ⟨hgo i acc H h hD p, fun H' => i + 1 ≤ n ∧ ∃ acc, acc.length ≤ i + 1 ∧ H' D = some (.lst acc) ∧ P (i + 1) acc H', fun H' q => ⟨n - (i + 1), by omega, rfl, q⟩, fun x H' y => ?_⟩
    refine hs i acc H x H' _ _ h hD p y (fun v H4 e q => ⟨acc, e, ?_, by omega, acc ++ [v], ?_, upd_same, q⟩) (fun H4 e q => ⟨by omega, acc, by omega, e, q⟩)
    · rw [sizeLine_eq]
      omega
    · rw [List.length_append]
      simp
      omega
  · have e : i = n := by omega
    subst e
    exact Or.inl ⟨hst acc H hD p, hd acc H hl hD p⟩
/-- over a range -/
theorem lcRI {P : Nat → List V → Hp → Prop} (hz : n < 16777216) (h0 : P 0 [] (upd H1 D (.lst [])))
    (hs : ∀ i acc H (R : V → Hp → Prop) (N : Hp → Prop), i < n → H D = some (.lst acc) → P i acc H → (∀ y H4, H4 D = some (.lst acc) → P (i + 1) (acc ++ [y]) (upd H4 D (.lst (acc ++ [y]))) → R y H4) → (∀ H4, H4 D = some (.lst acc) → P (i + 1) acc H4 → N H4) → LcTurn g tt te vs σ (.int (lo + i)) H R N)
    (hd : ∀ acc H, acc.length ≤ n → H D = some (.lst acc) → P n acc H → Qd H) : LcGoal (Itr lo n) g tt te vs σ H1 D Qd :=
  lcIt hz h0 (fun i acc H h _ _ => h) (fun acc H _ _ => Nat.le_refl _) (fun i acc H x H' R N h e p y r k => by
    obtain ⟨rfl, rfl⟩ := y
    exact hs i acc _ R N h e p r k) hd
/-- over a list that stays -/
theorem lcLI {P : Nat → List V → Hp → Prop} (hz : xs.length < 16777216) (h0 : P 0 [] (upd H1 D (.lst []))) (hq : ∀ i acc H, P i acc H → SqL K H a xs)
    (hs : ∀ i x acc H (R : V → Hp → Prop) (N : Hp → Prop), xs[i]? = some x → H D = some (.lst acc) → P i acc H → (∀ y H4, H4 D = some (.lst acc) → P (i + 1) (acc ++ [y]) (upd H4 D (.lst (acc ++ [y]))) → R y H4) → (∀ H4, H4 D = some (.lst acc) → P (i + 1) acc H4 → N H4) → LcTurn g tt te vs σ x H R N)
    (hd : ∀ acc H, acc.length ≤ xs.length → H D = some (.lst acc) → P xs.length acc H → Qd H) : LcGoal (Itl K a) g tt te vs σ H1 D Qd :=
  lcIt hz h0 (fun i acc H h _ p => ⟨xs, _, hq i acc H p, List.getElem?_eq_getElem h⟩) (fun acc H _ p => ⟨xs, hq _ acc H p, Nat.le_refl _⟩) (fun i acc H x H' R N h e p y r k => by
    obtain ⟨rfl, y2⟩ := y
    exact hs i x acc _ R N (y2 xs (hq i acc _ p)) e p r k) hd
/-- over a tuple that stays -/
theorem lcTI {P : Nat → List V → Hp → Prop} (hz : xs.length < 16777216) (h0 : P 0 [] (upd H1 D (.lst []))) (hq : ∀ i acc H, P i acc H → SqT K H a xs)
    (hs : ∀ i x acc H (R : V → Hp → Prop) (N : Hp → Prop), xs[i]? = some x → H D = some (.lst acc) → P i acc H → (∀ y H4, H4 D = some (.lst acc) → P (i + 1) (acc ++ [y]) (upd H4 D (.lst (acc ++ [y]))) → R y H4) → (∀ H4, H4 D = some (.lst acc) → P (i + 1) acc H4 → N H4) → LcTurn g tt te vs σ x H R N)
    (hd : ∀ acc H, acc.length ≤ xs.length → H D = some (.lst acc) → P xs.length acc H → Qd H) : LcGoal (Itt K a) g tt te vs σ H1 D Qd :=
  lcIt hz h0 (fun i acc H h _ p => ⟨xs, _, hq i acc H p, List.getElem?_eq_getElem h⟩) (fun acc H _ p => ⟨xs, hq _ acc H p, Nat.le_refl _⟩) (fun i acc H x H' R N h e p y r k => by
    obtain ⟨rfl, y2⟩ := y
    exact hs i x acc _ R N (y2 xs (hq i acc _ p)) e p r k) hd
/-- over two sequences side by side, with turns that only make objects -/
theorem lcZ {b1 b2 : Bool} {f : Nat → Option V} (hD : H1 D = none) (hz : xs.length < 16777216) (hl : xs.length = ys.length) (hx : SqB b1 K H1 a xs) (hy : SqB b2 K H1 b ys)
    (hs : ∀ i x y T H (R : V → Hp → Prop) (N : Hp → Prop), xs[i]? = some x → ys[i]? = some y → Same H1 H → H T = some (.tup [x, y]) → (∀ z H4, f i = some z → Same H H4 → R z H4) → (∀ H4, f i = none → Same H H4 → N H4) → LcTurn g tt te vs σ (.ref T) H R N)
    (hd : ∀ H, Same H1 H → H D = some (.lst (outs f xs.length)) → Qd H) : LcGoal (ItzB b1 b2 K a b) g tt te vs σ H1 D Qd := by
  have sq : ∀ {b : Bool} {c : Addr} {zs : List V} {H : Hp}, Same H1 H → SqB b K H1 c zs → SqB b K H c zs := fun {b c zs H} s h => by
    cases b
    · exact Same.seqT s h
    · exact s.seq h
  refine lcIt (P := fun i acc H => Same H1 H ∧ acc = outs f i) hz ⟨Same.old (Same.refl _) hD, rfl⟩ (fun i acc H h _ p => ⟨xs, ys, _, _, sq p.1 hx, sq p.1 hy, List.getElem?_eq_getElem h, List.getElem?_eq_getElem (by omega)⟩) (fun acc H _ p => ⟨xs, ys, sq p.1 hx, sq p.1 hy, Or.inl (Nat.le_refl _)⟩) (fun i acc H x H' R N h e p y r k => ?_) (fun acc H _ e p => hd H p.1 (p.2 ▸ e))
  obtain ⟨T, u, v, rfl, nT, rfl, y1, y2⟩ := y
  have s1 : Same H1 (upd H T (.tup [u, v])) := Same.new p.1 nT
  refine hs i u v T _ R N (y1 _ (sq p.1 hx)) (y2 _ (sq p.1 hy)) s1 upd_same (fun z H4 e2 s4 => ?_) (fun H4 e2 s4 => ?_)
  · refine r z H4 (s4 _ _ (get_new e nT)) ⟨Same.old (s1.trans s4) hD, ?_⟩
    rw [outs_succ, e2, p.2]
    rfl
  · refine k H4 (s4 _ _ (get_new e nT)) ⟨s1.trans s4, ?_⟩
    rw [outs_succ, e2, p.2]
    simp
end
end Ev

/-! ### keywords without defaults; classes and isinstance -/
namespace Ev
open PySem PySem.Spec PyProof.Rows L2
def sel {α : Type} (is : List Nat) (ws : List α) : List α := is.filterMap fun i => ws[i]?
theorem sel_vals {zs : List V} {ws : List Value} (r : Vals zs ws) : ∀ is : List Nat, Vals (sel is zs) (sel is ws)
  | [] => .nil
  | i :: is => by
    have ih := sel_vals r is
    unfold sel at ih ⊢
    rw [List.filterMap_cons, List.filterMap_cons]
    cases h : zs[i]? with
    | none =>
      have : ws[i]? = none := by
        rw [List.getElem?_eq_none_iff] at h ⊢
        rw [← r.length]
        exact h
      rw [this]
      exact ih
    | some v =>
      obtain ⟨u, hu, ru⟩ := r.get h
      rw [hu]
      exact .cons ru ih
theorem kbn_kw {K : PySem.W.Frag} {fd : FuncData} {ps : List Str} {n : Nat} {ks : List Str} (is : List Nat) (h : ∀ us ws : List Value, us.length = n → ws.length = ks.length → bindArgs fd ⟨us, ks.zip ws⟩ = pure (ps.zip (us ++ sel is ws))) :
    KBn K fd ps n ks (fun us ws => us ++ sel is ws) (fun vs zs => vs ++ sel is zs) :=
  ⟨fun s us ws _ l1 l2 => .of_eq (h us ws l1 l2), fun r1 r2 => r1.append (sel_vals r2 is)⟩
/-- what isinstance asks of the class of an instance -/
structure CI (K : PySem.W.Frag) (C : Addr) : Prop where
  cl : Cls K C
  ha : PySem.W.findIn K (.ref C) "__class__" = some (some (.builtin "object.__class__"))
  hn : PySem.W.specialIn K (.builtin "object.__class__") "__get__" = some (some (.builtin "getset_descriptor.__get__"))
  ht : PySem.W.takesIn K (.builtin "object.__class__") = some true
  hm : PySem.W.mroIn K C (.type "object") = some true
  it : ((PySem.W.clsIn K C).isSome && PySem.W.typeIn K (.ref C) == some (.type "type")) = true
theorem it_of {K : PySem.W.Frag} {C : Addr} (h1 : PySem.W.isClsIn K C = true) (h2 : PySem.W.typeIn K (.ref C) = some (.type "type")) : ((PySem.W.clsIn K C).isSome && PySem.W.typeIn K (.ref C) == some (.type "type")) = true := by
  rw [h2, show (PySem.W.clsIn K C).isSome = true from h1]
  rfl
theorem CI.ty {K : PySem.W.Frag} {C : Addr} {H : Hp} {a dx : Addr} {fs : List (Str × V)} (c : CI K C) (e : H a = some (.ins C dx fs)) : TyX K H (.ref a) (.ref C) := .base (.ins e c.cl c.ha c.hn c.ht c.hm)
def noRef : Value → Bool
  | .ref _ => false
  | _ => true
theorem sub_ty {K : PySem.W.Frag} {C : Addr} {T : String} (h : (fastBuiltinMro T).any (fun l => l.all noRef) = true) : PySem.W.subIn K (.type T) (.ref C) = some false := by
  show (fastBuiltinMro T).map (·.contains (.ref C)) = some false
  cases e : fastBuiltinMro T with
  | none =>
    rw [e] at h
    cases h
  | some l =>
    rw [e] at h
    have h2 : l.all noRef = true := h
    rw [Option.map_some]
    congr 1
    rw [Bool.eq_false_iff]
    intro z
    have := List.all_eq_true.mp h2 (.ref C) (by simpa using z)
    cases this
theorem nf_ty {K : PySem.W.Frag} {C : Addr} {T : String} (h : (fastBuiltinMro T).any (fun l => l.all noRef) = true) : PySem.W.notFirst K C (.type T) = true := by
  unfold PySem.W.notFirst
  rw [sub_ty h]
  simp
theorem nf_self {K : PySem.W.Frag} {C : Addr} : PySem.W.notFirst K C (.ref C) = true := by
  unfold PySem.W.notFirst
  simp
theorem nf_own {K : PySem.W.Frag} {C D : Addr} (h : PySem.W.mroIn K D (.ref C) = some false) : PySem.W.notFirst K C (.ref D) = true := by
  unfold PySem.W.notFirst
  rw [show PySem.W.subIn K (.ref D) (.ref C) = some false from h]
  simp
theorem kit_self {K : PySem.W.Frag} {C : Addr} : PySem.W.kitOne K (.ref C) (.ref C) = some true := by
  unfold PySem.W.kitOne
  simp
theorem kit_tyo {K : PySem.W.Frag} {C : Addr} {T : String} (c : CI K C) (h : (fastBuiltinMro T).any (fun l => l.all noRef) = true) : PySem.W.kitOne K (.type T) (.ref C) = some false := by
  unfold PySem.W.kitOne
  rw [if_neg (by simp)]
  unfold PySem.W.kitCls
  simp only
  rw [if_pos c.it]
  exact sub_ty h
theorem kit_own {K : PySem.W.Frag} {C D : Addr} {b : Bool} (c : CI K C) (hn : D ≠ C) (h : PySem.W.mroIn K D (.ref C) = some b) : PySem.W.kitOne K (.ref D) (.ref C) = some b := by
  unfold PySem.W.kitOne
  rw [if_neg (by simpa using hn)]
  unfold PySem.W.kitCls
  simp only
  rw [if_pos c.it]
  exact h
end Ev
namespace Ev
open PySem PySem.Spec PyProof.Rows L2
theorem rel_ref {a : Addr} : RelV (.ref a) (.ref a) := rfl
theorem kit_any2 {K : PySem.W.Frag} {t c1 c2 : Value} {b1 b2 : Bool} (h1 : PySem.W.kitOne K t c1 = some b1) (h2 : PySem.W.kitOne K t c2 = some b2) : PySem.W.kitAny K t [c1, c2] = some (b1 || b2) := by
  unfold PySem.W.kitAny
  rw [h1]
  cases b1
  · unfold PySem.W.kitAny
    simp only
    rw [h2]
    cases b2
    · rfl
    · rfl
  · rfl
end Ev

/-! ### ints of a bounded length, sums of products, data of ints -/
namespace Ev
open PySem L2
/-- not too long -/
def Lit (z : Int) : Prop := z.natAbs < 1606938044258990275541962092341162602522202993782792835301376
theorem log_le {n k : Nat} (h : n < 2 ^ k) (hk : 0 < k) : n.log2 < k := by
  by_cases h0 : n = 0
  · subst h0
    simpa using hk
  · exact (Nat.log2_lt h0).mpr h
theorem Lit.log {z : Int} (h : Lit z) : z.natAbs.log2 < 200 := log_le h (by decide)
theorem Lit.mul {a b : Int} (ha : Lit a) (hb : Lit b) : CMulW a b := by
  have h1 := ha.log
  have h2 := hb.log
  show a.natAbs.log2 + b.natAbs.log2 < 1000000
  omega
theorem outs_gen {α : Type} {zs : List α} (h : α → V) : outs (fun i => (zs[i]?).map h) zs.length = zs.map h := by
  have z : ∀ n, n ≤ zs.length → outs (fun i => (zs[i]?).map h) n = (zs.take n).map h := by
    intro n
    induction n with
    | zero => intro _; rfl
    | succ n ih =>
      intro hn
      rw [outs_succ, ih (by omega), List.take_add_one, List.map_append]
      congr 1
      rw [List.getElem?_eq_getElem (by omega)]
      rfl
  rw [z _ (Nat.le_refl _), List.take_length]
theorem outs_none (n : Nat) : outs (fun _ => none) n = [] := by
  induction n with
  | zero => rfl
  | succ n ih => rw [outs_succ, ih]; rfl
/-- the items of a list of ints -/
theorem map_int {ns : List Int} {i : Nat} {x : V} (h : (ns.map V.int)[i]? = some x) : ∃ z, ns[i]? = some z ∧ x = .int z ∧ z ∈ ns := by
  rw [List.getElem?_map] at h
  cases e : ns[i]? with
  | none =>
    rw [e] at h
    cases h
  | some z =>
    rw [e] at h
    exact ⟨z, rfl, (Option.some.inj h).symm, List.mem_of_getElem? e⟩
theorem dp_tints {K : PySem.W.Frag} {H : Hp} {a : Addr} {ns : List Int} (h : SqT K H a (ns.map V.int)) : Dp K H (.ref a) (.tuple (ns.map PyData.int)) := .tup h (dpa_ints K H ns)
theorem sh_tints (ns : List Int) : SeqAt.shaped (.tuple (ns.map PyData.int)) = true := by
  have h1 := can_ints ns
  have h2 := dep_ints ns
  have e : PyData.depth (.tuple (ns.map PyData.int)) ≤ 64 := by
    have q : PyData.depth (.tuple (ns.map PyData.int)) ≤ PyData.depthAll (ns.map PyData.int) + 1 := by
      first
        | exact Nat.le_refl _
        | (simp only [PyData.depth]; omega)
    omega
  show (PyData.canLay0 (.tuple (ns.map PyData.int)) && decide (PyData.depth (.tuple (ns.map PyData.int)) ≤ 64)) = true
  rw [decide_eq_true e, Bool.and_true]
  exact h1
theorem eq_tints {K : PySem.W.Frag} {H : Hp} {a b : Addr} {ns ms : List Int} {Q : VK} (ha : SqT K H a (ns.map V.int)) (hb : SqT K H b (ms.map V.int)) (q : Q (.bl (decide (ns = ms))) H) : rEqD K (.ref a) (.ref b) H Q := by
  refine ⟨_, _, dp_tints ha, dp_tints hb, sh_tints ns, sh_tints ms, ?_⟩
  have e : PyData.eqv (.tuple (ns.map PyData.int)) (.tuple (ms.map PyData.int)) = decide (ns = ms) := eqv_ints ns ms
  rw [e]
  exact q
theorem But.seqT {K : PySem.W.Frag} {H H' : Hp} {a p : Addr} {xs ys : List V} (e : But p H H') (hp : H p = some (.lst ys)) (h : SqT K H a xs) : SqT K H' a xs := by
  rcases h with (h | ⟨o, h⟩) | h
  · exact .inl (.inl (e _ _ h (ne_of h hp (by intro z; cases z))))
  · exact .inl (.inr ⟨o, e _ _ h (ne_of h hp (by intro z; cases z))⟩)
  · exact .inr h
theorem But.seqL {K : PySem.W.Frag} {H H' : Hp} {a p : Addr} {xs : List V} (e : But p H H') (hp : a ≠ p) (h : SqL K H a xs) : SqL K H' a xs := by
  rcases h with (h | ⟨o, h⟩) | h
  · exact .inl (.inl (e _ _ h hp))
  · exact .inl (.inr ⟨o, e _ _ h hp⟩)
  · exact .inr h
theorem Pen.lst {H : Hp} {p c : Addr} {n : Int} (h : Pen H p c n) : ∃ ys, H p = some (.lst ys) := let ⟨_, _, _, e, _⟩ := h; ⟨_, e⟩
theorem Pen.seqT {K : PySem.W.Frag} {H H' : Hp} {a p c : Addr} {n : Int} {xs : List V} (h : Pen H p c n) (e : But p H H') (s : SqT K H a xs) : SqT K H' a xs := let ⟨_, z⟩ := h.lst; e.seqT z s
theorem TyX.same {K : PySem.W.Frag} {H H' : Hp} {x : V} {t : Value} (h : TyX K H x t) (s : Same H H') : TyX K H' x t := by
  cases h with
  | base b =>
    cases b with
    | non => exact .base .non
    | bl y => exact .base (.bl y)
    | int i => exact .base (.int i)
    | str y => exact .base (.str y)
    | flt y => exact .base (.flt y)
    | lst e => exact .base (.lst (s _ _ e))
    | frz e => exact .base (.frz (s _ _ e))
    | tup e => exact .base (.tup (s _ _ e))
    | dK e => exact .base (.dK (s _ _ e))
    | dT e => exact .base (.dT (s _ _ e))
    | ins e a b c d f => exact .base (.ins (s _ _ e) a b c d f)
  | byt b => exact .byt b
  | set e => exact .set (s _ _ e)
  | kList e c => exact .kList e c
  | kTuple e c => exact .kTuple e c
  | kDict e c => exact .kDict e c
  | fTuple e => exact .fTuple (s _ _ e)
  | fDict e => exact .fDict (s _ _ e)
theorem sql_ty {K : PySem.W.Frag} {H : Hp} {a : Addr} {xs : List V} (h : SqL K H a xs) : TyX K H (.ref a) (.type "list") := by
  rcases h with (h | ⟨o, h⟩) | ⟨o, its, n, e, c, _⟩
  · exact .base (.lst h)
  · exact .base (.frz h)
  · exact .kList e c
theorem sqt_ty {K : PySem.W.Frag} {H : Hp} {a : Addr} {xs : List V} (h : SqT K H a xs) : TyX K H (.ref a) (.type "tuple") := by
  rcases h with (h | ⟨o, h⟩) | ⟨o, its, n, e, c, _⟩
  · exact .base (.tup h)
  · exact .fTuple h
  · exact .kTuple e c
/-- a value of a built-in type -/
def Bi (K : PySem.W.Frag) (H : Hp) (v : V) : Prop := ∃ T : String, TyX K H v (.type T) ∧ (fastBuiltinMro T).any (fun l => l.all noRef) = true
theorem Bi.same {K : PySem.W.Frag} {H H' : Hp} {v : V} (h : Bi K H v) (s : Same H H') : Bi K H' v := let ⟨T, a, b⟩ := h; ⟨T, TyX.same a s, b⟩
/-- sums of products -/
def dot : List Int → List Int → Int
  | a :: as, b :: bs => a * b + dot as bs
  | _, _ => 0
theorem dot_sum : ∀ as bs : List Int, (List.zipWith (· * ·) as bs).sum = dot as bs
  | [], _ => by simp [dot]
  | _ :: _, [] => by simp [dot]
  | a :: as, b :: bs => by
    rw [List.zipWith_cons_cons, List.sum_cons, dot_sum as bs]
    rfl
theorem dot_take : ∀ (as bs : List Int) (k : Nat), k < as.length → as.length = bs.length → ∃ a b, as[k]? = some a ∧ bs[k]? = some b ∧ dot (as.take (k + 1)) (bs.take (k + 1)) = dot (as.take k) (bs.take k) + a * b
  | [], _, _, h, _ => absurd h (by simp)
  | _ :: _, [], _, _, h => absurd h (by simp)
  | a :: as, b :: bs, 0, _, _ => ⟨a, b, rfl, rfl, by simp [dot]⟩
  | a :: as, b :: bs, k + 1, h, hl => by
    obtain ⟨x, y, h1, h2, h3⟩ := dot_take as bs k (by simpa using h) (by simpa using hl)
    refine ⟨x, y, h1, h2, ?_⟩
    show a * b + dot (as.take (k + 1)) (bs.take (k + 1)) = a * b + dot (as.take k) (bs.take k) + x * y
    rw [h3]
    omega
theorem dot_le : ∀ as bs : List Int, (∀ z ∈ as, Lit z) → (∀ z ∈ bs, Lit z) → (dot as bs).natAbs ≤ as.length * 2582249878086908589655919172003011874329705792829223512830659356540647622016841194629645353280137831435903171972747493376
  | [], _, _, _ => by simp [dot]
  | _ :: _, [], _, _ => by simp [dot]
  | a :: as, b :: bs, ha, hb => by
    have ih := dot_le as bs (fun z h => ha z (List.mem_cons_of_mem _ h)) (fun z h => hb z (List.mem_cons_of_mem _ h))
    have h1 : a.natAbs ≤ 1606938044258990275541962092341162602522202993782792835301376 := Nat.le_of_lt (ha a List.mem_cons_self)
    have h2 : b.natAbs ≤ 1606938044258990275541962092341162602522202993782792835301376 := Nat.le_of_lt (hb b List.mem_cons_self)
    have h3 : (a * b).natAbs ≤ 2582249878086908589655919172003011874329705792829223512830659356540647622016841194629645353280137831435903171972747493376 := by
      rw [Int.natAbs_mul]
      exact Nat.le_trans (Nat.mul_le_mul h1 h2) (by decide)
    have h4 := Int.natAbs_add_le (a * b) (dot as bs)
    show (a * b + dot as bs).natAbs ≤ (as.length + 1) * _
    omega
theorem dot_log {as bs : List Int} (h1 : ∀ z ∈ as, Lit z) (h2 : ∀ z ∈ bs, Lit z) (hl : as.length ≤ 5) : (dot as bs).natAbs.log2 < 500 := by
  refine log_le ?_ (by decide)
  have := dot_le as bs h1 h2
  omega
theorem shows_int {z : Int} (h : z.natAbs.log2 < 1920) : PyData.showable (.int z) = true := decide_eq_true h
end Ev
namespace Ev
open PySem L2
theorem outs_all (n : Nat) : outs (fun _ => some (.bl true)) n = (List.replicate n true).map V.bl := by
  rw [outs_map (fun _ => V.bl true), List.map_replicate]
  induction n with
  | zero => rfl
  | succ n ih => rw [List.range_succ, List.map_append, ih, List.replicate_succ']; rfl
theorem all_rep (n : Nat) : (List.replicate n true).all id = true := by simp
end Ev
namespace Ev
open PySem L2
/-- a tuple stays when an instance is written -/
theorem SqT.ins {K : PySem.W.Frag} {H : Hp} {a x C dx : Addr} {xs : List V} {fs : List (Str × V)} {o : HO} (h : SqT K H a xs) (hx : H x = some (.ins C dx fs)) : SqT K (upd H x o) a xs := by
  rcases h with (h | ⟨u, h⟩) | h
  · exact .inl (.inl (get_ne (ne_of h hx (by intro z; cases z)) h))
  · exact .inl (.inr ⟨u, get_ne (ne_of h hx (by intro z; cases z)) h⟩)
  · exact .inr h
end Ev
namespace Ev
theorem neSelf {α : Type} [DecidableEq α] (x : α) : (!decide (x = x)) = false := by simp
theorem eqSelf {α : Type} [DecidableEq α] (x : α) : decide (x = x) = true := by simp
end Ev
namespace Ev
open PySem L2
theorem ixN_of {n : Nat} {d : Int} (h0 : 0 ≤ d) (h1 : d < n) : ixN n d = some d.toNat := by
  unfold ixN
  rw [if_pos h0, if_pos h1]
/-- a statement, by what it leaves -/
theorem cutS {a b : TS} {D : Ends} {σ : L2.St} {H : Hp} (J : L2.St → Hp → Prop) (h1 : ∀ N : L2.St → Hp → Prop, (∀ σ H, J σ H → N σ H) → a { D with nx := N } σ H) (h2 : ∀ σ H, J σ H → b D σ H) : tSeq a b D σ H := h1 _ h2
theorem map_set (ns : List Int) (j : Nat) (z : Int) : (ns.map V.int).set j (.int z) = (ns.set j z).map V.int := by
  rw [List.map_set]
end Ev
namespace Ev
open PySem L2
theorem TyX.lset {K : PySem.W.Frag} {H : Hp} {x : V} {t : Value} {o : Addr} {xs ys : List V} (h : TyX K H x t) (ho : H o = some (.lst xs)) : TyX K (upd H o (.lst ys)) x t := by
  have st : ∀ {a : Addr} {u : HO}, H a = some u → (∀ zs, u ≠ .lst zs) → upd H o (.lst ys) a = some u := fun e n => get_ne (fun z => by
    subst z
    rw [ho] at e
    exact n xs (Option.some.inj e).symm) e
  cases h with
  | base b =>
    cases b with
    | non => exact .base .non
    | bl y => exact .base (.bl y)
    | int i => exact .base (.int i)
    | str y => exact .base (.str y)
    | flt y => exact .base (.flt y)
    | @lst a zs e =>
      by_cases q : a = o
      · subst q
        exact .base (.lst upd_same)
      · exact .base (.lst (get_ne q e))
    | frz e => exact .base (.frz (st e (by intro z q; cases q)))
    | tup e => exact .base (.tup (st e (by intro z q; cases q)))
    | dK e => exact .base (.dK (st e (by intro z q; cases q)))
    | dT e => exact .base (.dT (st e (by intro z q; cases q)))
    | ins e a b c d f => exact .base (.ins (st e (by intro z q; cases q)) a b c d f)
  | byt b => exact .byt b
  | set e => exact .set (st e (by intro z q; cases q))
  | kList e c => exact .kList e c
  | kTuple e c => exact .kTuple e c
  | kDict e c => exact .kDict e c
  | fTuple e => exact .fTuple (st e (by intro z q; cases q))
  | fDict e => exact .fDict (st e (by intro z q; cases q))
theorem Bi.lset {K : PySem.W.Frag} {H : Hp} {v : V} {o : Addr} {xs ys : List V} (h : Bi K H v) (ho : H o = some (.lst xs)) : Bi K (upd H o (.lst ys)) v := let ⟨T, a, b⟩ := h; ⟨T, TyX.lset a ho, b⟩
theorem SqT.lset {K : PySem.W.Frag} {H : Hp} {a o : Addr} {zs xs ys : List V} (h : SqT K H a zs) (ho : H o = some (.lst xs)) : SqT K (upd H o (.lst ys)) a zs := by
  rcases h with (h | ⟨u, h⟩) | h
  · exact .inl (.inl (get_ne (ne_of h ho (by intro z; cases z)) h))
  · exact .inl (.inr ⟨u, get_ne (ne_of h ho (by intro z; cases z)) h⟩)
  · exact .inr h
theorem SqL.lset {K : PySem.W.Frag} {H : Hp} {a o : Addr} {zs : List V} {u : HO} (h : SqL K H a zs) (ho : a ≠ o) : SqL K (upd H o u) a zs := by
  rcases h with (h | ⟨u, h⟩) | h
  · exact .inl (.inl (get_ne ho h))
  · exact .inl (.inr ⟨u, get_ne ho h⟩)
  · exact .inr h
end Ev
namespace Ev
open PySem L2
theorem nxE {N : L2.St → Hp → Prop} {r : VK} {bk ct : L2.St → Hp → Prop} {σ : L2.St} {H : Hp} (h : N σ H) : ({ nx := N, rt := r, bk := bk, ct := ct } : Ends).nx σ H := h
theorem gn {i : Nat} {v : V} {σ : L2.St} {H : Hp} {Q : L2.St → Hp → Prop} (h : Q (σ.set i (some v)) H) : gName i v σ H Q := h
end Ev
namespace Ev
open PySem L2
theorem cut_tail (y : Int) (ys : List Int) : cutV ((y :: ys).map V.int) (some 1) none = ys.map V.int := by
  simp [cutV, HT.sIx]
  exact List.take_of_length_le (by simp)
end Ev

/-! ### data that can be shown -/
namespace Ev
open PySem PySem.Spec PyProof.Rows L2
structure ShN (c k : Nat) (d : PyData) : Prop where
  sh : d.showable = true
  nd : d.hasDict = false
  dp : d.depth ≤ k
  ct : cost d ≤ c
theorem ShN.shows {c k : Nat} {d : PyData} (h : ShN c k d) (hc : c ≤ 16777216) (hk : k ≤ 64) : Shows d := ⟨h.sh, h.nd, Nat.le_trans h.dp hk, Nat.le_trans h.ct hc⟩
theorem ShN.mono {c k c' k' : Nat} {d : PyData} (h : ShN c k d) (hc : c ≤ c') (hk : k ≤ k') : ShN c' k' d := ⟨h.sh, h.nd, Nat.le_trans h.dp hk, Nat.le_trans h.ct hc⟩
theorem shn_int {z : Int} (h : z.natAbs.log2 < 1920) : ShN 1921 1 (.int z) := ⟨decide_eq_true h, rfl, by show PyData.depth (.int z) ≤ 1; first | exact Nat.zero_le _ | exact Nat.le_refl _, Nat.le_refl _⟩
theorem shn_bool (b : Bool) : ShN 1921 1 (.bool b) := ⟨rfl, rfl, by show PyData.depth (.bool b) ≤ 1; first | exact Nat.zero_le _ | exact Nat.le_refl _, by show 5 ≤ 1921; decide⟩
theorem shn_none : ShN 1921 1 .none := ⟨rfl, rfl, by show PyData.depth .none ≤ 1; first | exact Nat.zero_le _ | exact Nat.le_refl _, by show 4 ≤ 1921; decide⟩
theorem shn_str {s : Str} (h : (reprText s).length ≤ 1921) : ShN 1921 1 (.str s) := ⟨rfl, rfl, by show PyData.depth (.str s) ≤ 1; first | exact Nat.zero_le _ | exact Nat.le_refl _, h⟩
theorem shn_all {c k : Nat} : ∀ {ds : List PyData}, (∀ d ∈ ds, ShN c k d) → PyData.showableAll ds = true ∧ PyData.hasDictAll ds = false ∧ PyData.depthAll ds ≤ k ∧ costs ds ≤ ds.length * (c + 2)
  | [], _ => ⟨rfl, rfl, Nat.zero_le _, Nat.zero_le _⟩
  | d :: ds, h => by
    obtain ⟨a1, a2, a3, a4⟩ := shn_all fun e he => h e (List.mem_cons_of_mem _ he)
    have hd := h d List.mem_cons_self
    refine ⟨?_, ?_, ?_, ?_⟩
    · show (d.showable && PyData.showableAll ds) = true
      rw [hd.sh, a1]
      rfl
    · show (d.hasDict || PyData.hasDictAll ds) = false
      rw [hd.nd, a2]
      rfl
    · show max d.depth (PyData.depthAll ds) ≤ k
      exact Nat.max_le.mpr ⟨hd.dp, a3⟩
    · have := hd.ct
      show cost d + 2 + costs ds ≤ (ds.length + 1) * (c + 2)
      rw [Nat.add_mul]
      omega
theorem shn_list {c k n : Nat} {ds : List PyData} (h : ∀ d ∈ ds, ShN c k d) (hn : ds.length ≤ n) : ShN (n * (c + 2) + 2) (k + 1) (.list ds) := by
  obtain ⟨a1, a2, a3, a4⟩ := shn_all h
  refine ⟨a1, a2, ?_, ?_⟩
  · have q : PyData.depth (.list ds) ≤ PyData.depthAll ds + 1 := by
      first
        | exact Nat.le_refl _
        | (simp only [PyData.depth]; omega)
    omega
  · show costs ds + 2 ≤ _
    have := Nat.mul_le_mul_right (c + 2) hn
    omega
theorem shn_tuple {c k n : Nat} {ds : List PyData} (h : ∀ d ∈ ds, ShN c k d) (hn : ds.length ≤ n) : ShN (n * (c + 2) + 2) (k + 1) (.tuple ds) := by
  obtain ⟨a1, a2, a3, a4⟩ := shn_all h
  refine ⟨a1, a2, ?_, ?_⟩
  · have q : PyData.depth (.tuple ds) ≤ PyData.depthAll ds + 1 := by
      first
        | exact Nat.le_refl _
        | (simp only [PyData.depth]; omega)
    omega
  · show costs ds + 2 ≤ _
    have := Nat.mul_le_mul_right (c + 2) hn
    omega
theorem shn_nil {c k : Nat} : ∀ d ∈ ([] : List PyData), ShN c k d := fun _ h => by cases h
theorem shn_cons {c k : Nat} {d : PyData} {ds : List PyData} (h : ShN c k d) (t : ∀ e ∈ ds, ShN c k e) : ∀ e ∈ d :: ds, ShN c k e := fun e he => by
  rcases List.mem_cons.mp he with e1 | e1
  · subst e1
    exact h
  · exact t e e1
theorem shn_ints {ns : List Int} (h : ∀ z ∈ ns, z.natAbs.log2 < 1920) : ∀ e ∈ ns.map PyData.int, ShN 1921 1 e := fun e he => by
  obtain ⟨z, hz, rfl⟩ := List.mem_map.mp he
  exact shn_int (h z hz)
/-! a new object and what was -/
theorem mk_same {H H1 : Hp} {x dx : Addr} {o o2 : HO} (nx : H x = none) (nd : H dx = none) (b : But x (upd (upd H dx o) x o2) H1) : Same H H1 := fun a u e => by
  have h1 : a ≠ x := ne_of_none e nx
  exact b a u (get_ne h1 (get_new e nd)) h1
end Ev

/-! ### two-place operators by own methods: +, *, in place, reflected -/
namespace Ev
open PySem PySem.Spec PyProof.Rows L2
theorem back {x : V} {w : Value} {s : Shared} {Q : Value → Shared → Prop} (r : RelV x w) (h : Q w s) : PySem.W.CmpBack Q w s := by
  cases x <;> first | (obtain ⟨t, rfl⟩ := r; exact h) | (cases r; exact h)
theorem int_mul_own (a : Int) (t : Tok) (l : Addr) (o : Obj) :
    Meets (Builtin.«int.__mul__» ⟨[.int a t, .ref l], []⟩) (fun _ R s => s.heap.get? l = some o ∧ o.data = .plain ∧ R (.ok (.ret Value.notImplemented)) s) :=
  .of_wp fun prog w A R s h => by
    obtain ⟨c, d, da, sl⟩ := o
    obtain ⟨hp, g, d, tk, os⟩ := s
    obtain ⟨hl, hd, h⟩ := h
    cases hd
    wp_walk
    exact ⟨_, rfl, h⟩
section
variable {prog : Program} {w : World} {A : Around} {E : Value → Shared → Prop} {s : Shared} {K : PySem.W.Frag} {x C L f : Addr} {h₀ : Heap} {m : Str → Option Value} {ox : Obj} {od : Option Obj} {nm T : String}
open PySem.W in
/-- binaryOp1 of two of one class -/
theorem bin1_K {nm : String} {b : Value} {Q : Option Value → Shared → Prop} (F : Fr h₀ L s.heap m) (X₀ : K.In h₀) (I : InstAt s.heap x ox C od) (hb : Looks (model prog w) s.heap (typeOf b) (.ref C)) (hc : selfFirst K C = true)
    (hs : findIn K (.ref C) (PySem.dunder nm) = some (some (.ref f))) (hf : isFn K (.ref f) = true)
    (h : wpAny (model prog w) A (call (.ref f) [.ref x, b]) (PySem.W.CmpBack fun v s' => Q (some v) s') E s) : wpAny (model prog w) A (binaryOp1 nm (.ref x) b) Q E s := by
  have X := X₀.keeps F.keep
  obtain ⟨cd, rest, hcd, hm⟩ := ksp_first hc
  unfold binaryOp1
  refine wpAny_bind (I.type.here (wpAny_bind (hb.here (wpAny_bind ((fills_K X hcd hm hs).here ?_)))))
  simp only [beq_self_eq_true, if_true]
  refine wpAny_bind (wpAny_pure ?_)
  simp only [Bool.and_false, Bool.false_eq_true, if_false, Bool.false_and]
  refine wpAny_bind (wpAny_pure ?_)
  simp only [Bool.false_eq_true, if_false]
  refine wpAny_bind (m := tryMethod (.ref x) _ b) ?_
  unfold tryMethod
  refine wpAny_bind (special_fn X I hs (beq_iff_eq.mp hf) (wpAny_mono h (fun v s' hv => ?_) fun _ _ e => e))
  cases v <;> first | exact hv.elim | exact wpAny_pure (wpAny_pure hv)
open PySem.W in
/-- binaryOp1 of an own one and one of a built-in class -/
theorem bin1_T {nm : String} {b : Value} {fo ro rc : Option Value} {Q : Option Value → Shared → Prop} (F : Fr h₀ L s.heap m) (X₀ : K.In h₀) (I : InstAt s.heap x ox C od) (hb : typeOf b = pure (.type T)) (hc : selfFirst K C = true)
    (hs : findIn K (.ref C) (PySem.dunder nm) = some (some (.ref f))) (hf : isFn K (.ref f) = true) (hr : findIn K (.ref C) (dunderR nm) = some rc) (hp : rc = none ∨ ∃ g : Addr, rc = some (.ref g))
    (h1 : findIn K (.type T) (PySem.dunder nm) = some fo) (h2 : findIn K (.type T) (dunderR nm) = some ro) (hsub : subIn K (.type T) (.ref C) = some false)
    (h : wpAny (model prog w) A (call (.ref f) [.ref x, b]) (PySem.W.CmpBack fun v s' => Q (some v) s') E s) : wpAny (model prog w) A (binaryOp1 nm (.ref x) b) Q E s := by
  have X := X₀.keeps F.keep
  obtain ⟨cd, rest, hcd, hm⟩ := ksp_first hc
  have one := ksp_try X I hs hf h
  obtain ⟨hh, g, d, tt, os⟩ := s
  have L1 : Looks (model prog w) hh (typeOf (.ref x)) (.ref C) := I.type
  have L2 : Looks (model prog w) hh (typeOf b) (.type T) := Looks.of_pure hb
  have L3 : Looks (model prog w) hh (fillsNumberSlot (.ref C) nm) true := fills_K X hcd hm hs
  have L4 : Looks (model prog w) hh (fillsNumberSlot (.type T) nm) ((fo.isSome && !isSeqSlot fo) || (ro.isSome && !isSeqSlot ro)) := ksp_fillsT X h1 h2
  have L5 : Looks (model prog w) hh (isSubtype (.type T) (.ref C)) false := looks_subIn X hsub
  have L6 : Looks (model prog w) hh (numberSlotInPython (.ref C) nm) true := ksp_inPy X hs hr hp
  have L7 : Looks (model prog w) hh (numberSlotInPython (.type T) nm) false := Looks.of_pure rfl
  have L8 : Looks (model prog w) hh (typeLookup (.type T) (dunderR nm)) ro := looks_findIn X h2
  generalize ((fo.isSome && !isSeqSlot fo) || (ro.isSome && !isSeqSlot ro)) = right at L4
  have hne : (Value.ref C == Value.type T) = false := Bool.eq_false_iff.mpr fun q => by cases beq_iff_eq.mp q
  unfold binaryOp1
  refine wpAny_bind (L1.at (wpAny_bind (L2.at (wpAny_bind (L3.at ?_)))))
  simp only [hne, Bool.false_eq_true, if_false]
  cases right with
  | false =>
    ksp_lk
    refine wpAny_mono one (fun r s' hr' => ?_) fun _ _ e => e
    obtain ⟨v, rfl, hq⟩ := hr'
    ksp_lk
    exact hq
  | true =>
    ksp_lk
    refine wpAny_mono one (fun r s' hr' => ?_) fun _ _ e => e
    obtain ⟨v, rfl, hq⟩ := hr'
    ksp_lk
    exact hq
open PySem.W in
/-- no method in place -/
theorem noI_K {M : Model} {h : Heap} {nm : String} {add : Bool} {cd : ClassData} (X : K.In h) (hc : clsIn K C = some cd) (hm : cd.mro = [.ref C, .type "object"]) (h1 : findIn K (.ref C) (dunderI nm) = some none) (h2 : findIn K (.type "object") (dunderI nm) = some none) : Looks M h (fillsInplaceSlot (.ref C) nm add) false := by
  intro A Q E s k q
  have Lm : Looks M h (mroOf (.ref C)) cd.mro := (looks_clsIn X hc).andThen (f := fun cd => pure cd.mro) .now
  have Lm' := Lm.keeps k
  obtain ⟨hh, g, d, tt, os⟩ := s
  have X' : K.In hh := X.keeps k
  have L1 : Looks M hh (typeLookup (.ref C) (dunderI nm)) none := looks_findIn X' h1
  have L2 : Looks M hh (typeLookup (.type "object") (dunderI nm)) none := looks_findIn X' h2
  unfold fillsInplaceSlot
  refine wpAny_bind (Lm'.at ?_)
  rw [hm, List.anyM_cons]
  refine wpAny_bind (wpAny_bind (L1.at (wpAny_pure ?_)))
  simp only [Bool.false_eq_true, if_false]
  rw [List.anyM_cons]
  refine wpAny_bind (wpAny_bind (L2.at (wpAny_pure ?_)))
  simp only [Bool.false_eq_true, if_false]
  exact wpAny_pure q
open PySem.W in
theorem inpl_K {op : Operator} {b : Value} {cd : ClassData} {Q : Value → Shared → Prop} (F : Fr h₀ L s.heap m) (X₀ : K.In h₀) (I : InstAt s.heap x ox C od) (hc : clsIn K C = some cd) (hm : cd.mro = [.ref C, .type "object"]) (h1 : findIn K (.ref C) (dunderI op.info.2) = some none) (h2 : findIn K (.type "object") (dunderI op.info.2) = some none)
    (h : wpAny (model prog w) A (binaryOp1 op.info.2 (.ref x) b) (fun v s' => ∃ u, v = some u ∧ Q u s') E s) : wpAny (model prog w) A (inplaceOp op (.ref x) b) Q E s := by
  have X := X₀.keeps F.keep
  unfold inplaceOp
  refine wpAny_holding (wpAny_bind (I.type.here ?_))
  refine wpAny_bind ((noI_K X hc hm h1 h2).here ?_)
  simp only [Bool.false_eq_true, if_false]
  refine wpAny_bind (wpAny_mono h (fun r s' hr => ?_) fun _ _ e => e)
  obtain ⟨u, rfl, hq⟩ := hr
  exact wpAny_pure hq
end
end Ev

/-! .. over the layer -/
namespace Ev
open PySem PySem.Spec PyProof.Rows L2
section
variable {X : Cx} {k j : Nat} {C : Addr} {sp : Sp} {E : XK} {op : Operator} {m : Str}
/-- a class whose instances have own operators: its line of bases -/
structure BO (K : PySem.W.Frag) (C : Addr) : Prop where
  sf : PySem.W.selfFirst K C = true
  ii : PySem.W.mroIn K C (.type "int") = some false
structure NoIp (K : PySem.W.Frag) (C : Addr) (i : Str) : Prop where
  cd : ∃ cd, PySem.W.clsIn K C = some cd ∧ cd.mro = [.ref C, .type "object"]
  h1 : PySem.W.findIn K (.ref C) i = some none
  h2 : PySem.W.findIn K (.type "object") i = some none
/-- x op y of two of one class -/
def rOwn2 (C : Addr) (sp : Sp) (E : XK) : R2 := fun x y H Q => ∃ (a dx b dy : Addr) (fs gs : List (Str × V)), x = .ref a ∧ y = .ref b ∧ H a = some (.ins C dx fs) ∧ H b = some (.ins C dy gs) ∧ sp [.ref a, .ref b] H Q E
/-- x op n -/
def rOwnI (C : Addr) (sp : Sp) (E : XK) : R2 := fun x y H Q => ∃ (a dx : Addr) (fs : List (Str × V)) (n : Int), x = .ref a ∧ y = .int n ∧ H a = some (.ins C dx fs) ∧ sp [.ref a, .int n] H Q E
def rIOwn (C : Addr) (sp : Sp) (E : XK) : R2 := fun x y H Q => ∃ (a dx : Addr) (fs : List (Str × V)) (n : Int), x = .int n ∧ y = .ref a ∧ H a = some (.ins C dx fs) ∧ sp [.ref a, .int n] H Q E
theorem bin1_own {pins : List (Addr × Obj)} {σ : L2.St} {H : Hp} {s : Shared} {Q : VK} {x y : V} {v u : Value} (c : GM X.prog X.w X.K X.mg X.base k C m sp []) (B : BO X.K C) (hgd : X.A.guards = some []) (hr : Room j X.A) (hk : k ≤ j) (hx : Passes (L2.CX X.prog X.w) X E) (hm : m = PySem.dunder op.info.2)
    (I : Inv X pins σ H s) (rx : RelV x v) (ry : RelV y u) (h : rOwn2 C sp E x y H Q) : wpAny (model X.prog X.w) X.A (binaryOp1 op.info.2 v u) (fun r s' => ∃ w, r = some w ∧ EP X pins σ Q w s') X.xe s := by
  obtain ⟨a, dx, b, dy, fs, gs, rfl, rfl, ha, hb, q⟩ := h
  obtain ⟨f, fd, ps, ds, cl, M, F, bi, d⟩ := c.ex
  cases d
  cases rx
  cases ry
  subst hm
  obtain ⟨ox, od, J, _⟩ := inst_at I ha
  obtain ⟨oy, oe, J2, _⟩ := inst_at I hb
  obtain ⟨mm, hF⟩ := I.fr
  refine bin1_K hF I.ok.mod.kin J J2.type B.sf M.at_ M.fn ?_
  refine wpAny_mono (run_gA (vs := [.ref a, .ref b]) (us := [.ref a, .ref b]) (dvs := []) F hgd (hr.mono hk) rfl bi .nil hx I (.cons rfl (.cons rfl .nil)) q) (fun w s' hw => ?_) fun _ _ z => z
  obtain ⟨v', H', I', rv, q'⟩ := hw
  exact back rv ⟨_, rfl, v', H', I', rv, q'⟩
theorem bin1_ownI {pins : List (Addr × Obj)} {σ : L2.St} {H : Hp} {s : Shared} {Q : VK} {x y : V} {v u : Value} {fo ro rc : Option Value} (c : GM X.prog X.w X.K X.mg X.base k C m sp []) (B : BO X.K C) (hgd : X.A.guards = some []) (hr : Room j X.A) (hk : k ≤ j) (hx : Passes (L2.CX X.prog X.w) X E) (hm : m = PySem.dunder op.info.2)
    (hrc : PySem.W.findIn X.K (.ref C) (dunderR op.info.2) = some rc) (hp : rc = none ∨ ∃ g : Addr, rc = some (.ref g)) (h1 : PySem.W.findIn X.K (.type "int") (PySem.dunder op.info.2) = some fo) (h2 : PySem.W.findIn X.K (.type "int") (dunderR op.info.2) = some ro)
    (I : Inv X pins σ H s) (rx : RelV x v) (ry : RelV y u) (h : rOwnI C sp E x y H Q) : wpAny (model X.prog X.w) X.A (binaryOp1 op.info.2 v u) (fun r s' => ∃ w, r = some w ∧ EP X pins σ Q w s') X.xe s := by
  obtain ⟨a, dx, fs, n, rfl, rfl, ha, q⟩ := h
  obtain ⟨f, fd, ps, ds, cl, M, F, bi, d⟩ := c.ex
  cases d
  cases rx
  obtain ⟨t, rfl⟩ := ry
  subst hm
  obtain ⟨ox, od, J, _⟩ := inst_at I ha
  obtain ⟨mm, hF⟩ := I.fr
  refine bin1_T (T := "int") hF I.ok.mod.kin J rfl B.sf M.at_ M.fn hrc hp h1 h2 (sub_ty (by decide +kernel)) ?_
  refine wpAny_mono (run_gA (vs := [.ref a, .int n]) (us := [.ref a, .int n t]) (dvs := []) F hgd (hr.mono hk) rfl bi .nil hx I (.cons rfl (.cons ⟨_, rfl⟩ .nil)) q) (fun w s' hw => ?_) fun _ _ z => z
  obtain ⟨v', H', I', rv, q'⟩ := hw
  exact back rv ⟨_, rfl, v', H', I', rv, q'⟩
theorem bin_of {op : Operator} {a b : Value} {A : Around} {s : Shared} {M : Model} {E : Value → Shared → Prop} {Q : Value → Shared → Prop} (h : wpAny M A (binaryOp1 op.info.2 a b) (fun r s' => ∃ w, r = some w ∧ Q w s') E s) : wpAny M A (binaryOp op a b) Q E s := by
  unfold binaryOp
  refine wpAny_holding (wpAny_bind (wpAny_mono h (fun r s' hr => ?_) fun _ _ e => e))
  obtain ⟨u, rfl, hq⟩ := hr
  exact wpAny_pure hq
theorem op_binO (c : GM X.prog X.w X.K X.mg X.base k C m sp []) (B : BO X.K C) (hgd : X.A.guards = some []) (hr : Room j X.A) (hk : k ≤ j) (hx : Passes (L2.CX X.prog X.w) X E) (hm : m = PySem.dunder op.info.2 := by rfl) : OpR X (binaryOp op) (rOwn2 C sp E) :=
  fun pins s σ H x y v u Q I rx ry h => bin_of (bin1_own c B hgd hr hk hx hm I rx ry h)
theorem op_binOI {fo ro rc : Option Value} (c : GM X.prog X.w X.K X.mg X.base k C m sp []) (B : BO X.K C) (hrc : PySem.W.findIn X.K (.ref C) (dunderR op.info.2) = some rc) (hp : rc = none ∨ ∃ g : Addr, rc = some (.ref g)) (h1 : PySem.W.findIn X.K (.type "int") (PySem.dunder op.info.2) = some fo) (h2 : PySem.W.findIn X.K (.type "int") (dunderR op.info.2) = some ro)
    (hgd : X.A.guards = some []) (hr : Room j X.A) (hk : k ≤ j) (hx : Passes (L2.CX X.prog X.w) X E) (hm : m = PySem.dunder op.info.2 := by rfl) : OpR X (binaryOp op) (rOwnI C sp E) :=
  fun pins s σ H x y v u Q I rx ry h => bin_of (bin1_ownI c B hgd hr hk hx hm hrc hp h1 h2 I rx ry h)
theorem ip_binO (c : GM X.prog X.w X.K X.mg X.base k C m sp []) (B : BO X.K C) (N : NoIp X.K C (dunderI op.info.2)) (hgd : X.A.guards = some []) (hr : Room j X.A) (hk : k ≤ j) (hx : Passes (L2.CX X.prog X.w) X E) (hm : m = PySem.dunder op.info.2 := by rfl) : PIp X op (rOwn2 C sp E) := by
  intro pins s σ H x y v u Q I rx ry h
  have one := bin1_own c B hgd hr hk hx hm I rx ry h
  obtain ⟨a, dx, b, dy, fs, gs, rfl, rfl, ha, hb, q⟩ := h
  cases rx
  obtain ⟨ox, od, J, _⟩ := inst_at I ha
  obtain ⟨mm, hF⟩ := I.fr
  obtain ⟨cd, hcd, hmro⟩ := N.cd
  exact inpl_K hF I.ok.mod.kin J hcd hmro N.h1 N.h2 one
theorem ip_binOI {fo ro rc : Option Value} (c : GM X.prog X.w X.K X.mg X.base k C m sp []) (B : BO X.K C) (N : NoIp X.K C (dunderI op.info.2)) (hrc : PySem.W.findIn X.K (.ref C) (dunderR op.info.2) = some rc) (hp : rc = none ∨ ∃ g : Addr, rc = some (.ref g)) (h1 : PySem.W.findIn X.K (.type "int") (PySem.dunder op.info.2) = some fo) (h2 : PySem.W.findIn X.K (.type "int") (dunderR op.info.2) = some ro)
    (hgd : X.A.guards = some []) (hr : Room j X.A) (hk : k ≤ j) (hx : Passes (L2.CX X.prog X.w) X E) (hm : m = PySem.dunder op.info.2 := by rfl) : PIp X op (rOwnI C sp E) := by
  intro pins s σ H x y v u Q I rx ry h
  have one := bin1_ownI c B hgd hr hk hx hm hrc hp h1 h2 I rx ry h
  obtain ⟨a, dx, fs, n, rfl, rfl, ha, q⟩ := h
  cases rx
  obtain ⟨ox, od, J, _⟩ := inst_at I ha
  obtain ⟨mm, hF⟩ := I.fr
  obtain ⟨cd, hcd, hmro⟩ := N.cd
  exact inpl_K hF I.ok.mod.kin J hcd hmro N.h1 N.h2 one
/-- n * x by x's own __rmul__ -/
theorem op_rmulO {f2 : Addr} (c : GM X.prog X.w X.K X.mg X.base k C "__rmul__" sp []) (B : BO X.K C) (hmul : PySem.W.findIn X.K (.ref C) "__mul__" = some (some (.ref f2)))
    (hgd : X.A.guards = some []) (hr : Room j X.A) (hk : k ≤ j) (hx : Passes (L2.CX X.prog X.w) X E) : OpR X (binaryOp .Mult) (rIOwn C sp E) := by
  intro pins s σ H x y v u Q I rx ry h
  obtain ⟨a, dx, fs, n, rfl, rfl, ha, q⟩ := h
  obtain ⟨f, fd, ps, ds, cl, M, G, bi, d⟩ := c.ex
  cases d
  cases ry
  obtain ⟨t, rfl⟩ := rx
  obtain ⟨ox, od, J, hpl⟩ := inst_at I ha
  obtain ⟨mm, hF⟩ := I.fr
  have X0 := I.ok.mod.kin.keeps hF.keep
  obtain ⟨cd, rest, hcd, hm⟩ := PySem.W.ksp_first B.sf
  refine bin_of ?_
  have one : wpAny (model X.prog X.w) X.A (tryMethod (.ref a) "__rmul__" (.int n t)) (fun r s' => ∃ w, r = some w ∧ EP X pins σ Q w s') X.xe s := by
    refine PySem.W.ksp_try X0 J M.at_ M.fn ?_
    refine wpAny_mono (run_gA (vs := [.ref a, .int n]) (us := [.ref a, .int n t]) (dvs := []) G hgd (hr.mono hk) rfl bi .nil hx I (.cons rfl (.cons ⟨_, rfl⟩ .nil)) q) (fun w s' hw => ?_) fun _ _ z => z
    obtain ⟨v', H', I', rv, q'⟩ := hw
    exact back rv ⟨v', H', I', rv, q'⟩
  have L1 : PySem.W.Looks (model X.prog X.w) s.heap (typeOf (.ref a)) (.ref C) := J.type
  have L3 : PySem.W.Looks (model X.prog X.w) s.heap (fillsNumberSlot (.ref C) "mul") true := PySem.W.fills_K X0 hcd hm hmul
  have L5 : PySem.W.Looks (model X.prog X.w) s.heap (isSubtype (.ref C) (.type "int")) false := PySem.W.looks_mroIn X0 B.ii
  have hne : (Value.type "int" == Value.ref C) = false := Bool.eq_false_iff.mpr fun q => by cases beq_iff_eq.mp q
  show wpAny (model X.prog X.w) X.A (binaryOp1 "mul" (.int n t) (.ref a)) _ X.xe s
  unfold binaryOp1
  refine wpAny_bind (wpAny_of_eq (a := Value.type "int") rfl ?_)
  refine wpAny_bind (L1.here ?_)
  refine wpAny_bind (wpAny_of_eq (a := true) PySem.F.fills_int_mul ?_)
  simp only [hne, Bool.false_eq_true, if_false]
  refine wpAny_bind (L3.here ?_)
  simp only [Bool.and_self, if_true]
  refine wpAny_bind (L5.here ?_)
  simp only [Bool.false_eq_true, if_false]
  rw [if_pos (show (true && !false) = true from rfl)]
  refine wpAny_bind (wpAny_of_eq (a := false) rfl ?_)
  simp only [Bool.false_eq_true, if_false]
  have hox := J.at_
  refine wpAny_bind (m := tryMethod (.int n t) _ (.ref a)) ?_
  unfold tryMethod
  refine wpAny_bind (wpAny_callSpecial?_slot (name := PySem.dunder "mul") (typeIs_int s n t) PySem.F.slot_int_mul ?_)
  refine call_meets PySem.F.slot_int_mul (typeIs_int s n t) PySem.F.entry_int_mul (PySem.F.args_int_mul_2 _ _) (int_mul_own n t a ox) ⟨hox, hpl, ?_⟩
  refine wpAny_pure ?_
  rw [if_pos (show (true && !false) = true from rfl)]
  refine wpAny_bind (wpAny_mono one (fun r s' hr => ?_) fun _ _ e => e)
  obtain ⟨w, rfl, hq⟩ := hr
  exact wpAny_bind (wpAny_rule (wpAny_pure ⟨w, rfl, hq⟩))
end
end Ev
/-! ### str(x) by own __str__; a tuple times 1 -/
namespace Ev
open PySem PySem.Spec PyProof.Rows L2
section
variable {X : Cx} {k j : Nat} {C : Addr} {sp : Sp} {E : XK}
theorem call_strO (c : GM X.prog X.w X.K X.mg X.base k C "__str__" sp []) (hgd : X.A.guards = some []) (hr : Room j X.A) (hk : k + 2 ≤ j) (hx : Passes (L2.CX X.prog X.w) X E) :
    CallR X (.type "str") (fun xs H Q => ∃ x, xs = [x] ∧ rOwn1 C sp E (fun v => ∃ z : Str, v = .str z) x H Q) := by
  intro pins s σ H xs us Q I r h
  obtain ⟨x, rfl, a, dx, fs, rfl, ha, q⟩ := h
  obtain ⟨f, fd, ps, ds, cl, M, F, b, d⟩ := c.ex
  cases d
  cases r with
  | cons rx rn =>
    cases rn
    cases rx
    obtain ⟨ox, od, J, _⟩ := inst_at I ha
    obtain ⟨mm, hF⟩ := I.fr
    have hr2 : Room (k + 2) X.A := hr.mono hk
    refine PySem.W.kso_call (by have := hr2.un0; show X.A.units + 1 + 1 < cLine; omega) I.kIn J M.at_ M.fn ?_
    refine wpAny_mono (run_gA (vs := [.ref a]) (us := [.ref a]) (dvs := []) F hgd hr2.in1.in1 rfl b .nil hx I (.cons rfl .nil) q) (fun w s' hw => ?_) fun _ _ z => z
    obtain ⟨v', H', I', rv, ⟨z, ev⟩, q'⟩ := hw
    subst ev
    obtain ⟨t, rfl⟩ := rv
    exact ⟨.str z, H', I', ⟨_, rfl⟩, q'⟩
theorem tuple_mul1 (l : Addr) (items : Array Value) (n : Nat) (dd : Option Addr) (sl : Array (Option Value)) (u : Tok) :
    Meets (Builtin.«tuple.__mul__» ⟨[.ref l, .int 1 u], []⟩) (fun _ R s => s.heap.get? l = some { cls := .type "tuple", dict := dd, data := .seq items n, slots := sl } ∧ R (.ok (.ret (Value.ref l))) s) :=
  .of_wp fun prog w A R s h => by
    obtain ⟨hp, g, d, tk, os⟩ := s
    obtain ⟨hl, h⟩ := h
    have f1 := AutoSeq1.idx_int
    wp_walk using wpAny_loadPart' hl
    repeat (first
      | (refine wpAny_ite_false (decide_eq_false (by decide)) ?_; wp_walk using wpAny_loadPart' hl)
      | (refine wpAny_ite_true (decide_eq_true (by simp)) ?_; wp_walk using wpAny_loadPart' hl))
    exact ⟨_, rfl, h⟩
def rRepT1 (K : PySem.W.Frag) : R2 := fun x y H Q => ∃ l xs, x = .ref l ∧ y = .int 1 ∧ SqT K H l xs ∧ Q (.ref l) H
theorem op_repT1 : OpR X (binaryOp .Mult) (rRepT1 X.K) := by
  intro pins s σ H x y v u Q I rx ry h
  obtain ⟨l, xs, rfl, rfl, hT, q⟩ := h
  cases rx
  obtain ⟨t, rfl⟩ := ry
  obtain ⟨its, r, ⟨⟨cls, dd, data, sl⟩, ho, hc, n, hd⟩, hs⟩ := I.tuple hT
  simp only at hc hd
  subst hc hd
  refine wpAny_binaryOp_repeat_ref (T := "tuple") (U := "int") (by decide) ⟨_, ho, rfl⟩ (fun s' => typeIs_int s' 1 t) noFill_tuple_mul PySem.F.fills_int_mul PySem.F.slot_int_rmul repeat_tuple PySem.F.slot_int_index.lookup
    (call_meets PySem.F.slot_int_rmul (typeIs_int s 1 t) PySem.F.entry_int_rmul (PySem.F.args_int_rmul_2 _ _) (int_rmul_tuple 1 t l its.toArray n dd sl)
      ⟨ho, rfl, ⟨_, ho, rfl⟩, call_meets PySem.F.slot_tuple_mul ⟨_, ho, rfl⟩ PySem.F.entry_tuple_mul (PySem.F.args_tuple_mul_2 _ _) (tuple_mul1 l its.toArray n dd sl t) ⟨ho, ?_⟩⟩)
  exact ⟨.ref l, H, I, rfl, q⟩
/-- a tuple of one item, n times -/
def rRepN (K : PySem.W.Frag) : R2 := fun x y H Q => ∃ (l : Addr) (z : V) (n : Nat), x = .ref l ∧ y = .int n ∧ SqT K H l [z] ∧ 1 ≤ n ∧ n ≤ 1000 ∧ ∀ p H', Same H H' → SqT K H' p (List.replicate n z) → Q (.ref p) H'
theorem op_repN : OpR X (binaryOp .Mult) (rRepN X.K) := by
  intro pins s σ H x y v u Q I rx ry h
  obtain ⟨l, z, n, rfl, rfl, hT, h1, h2, q⟩ := h
  by_cases e : n = 1
  · subst e
    exact op_repT1 pins s σ H _ _ v u Q I rx ry ⟨l, [z], rfl, rfl, hT, q l H (Same.refl _) hT⟩
  · refine op_repT pins s σ H _ _ v u Q I rx ry ⟨l, n, [z], rfl, rfl, hT, by simp, by omega, by omega, by simp, fun p np => ?_⟩
    have e2 : (List.replicate (n : Int).toNat [z]).flatten = List.replicate n z := by
      rw [Int.toNat_natCast]
      clear h2 h1 e q ry
      induction n with
      | zero => rfl
      | succ n ih => rw [List.replicate_succ, List.flatten_cons, ih, List.replicate_succ]; rfl
    rw [e2]
    exact q p _ (Ev.Same.new (Same.refl _) np) (SqT.of upd_same)
end
end Ev

/-! ### rules with the written part told: for use within comprehensions -/
namespace Ev
open PySem PySem.Spec PyProof.Rows L2
section
variable {X : Cx} {K : PySem.W.Frag}
theorem ix_listK (hK : X.K = K := by rfl) : IxR X (rIxL K) := hK ▸ ix_list
theorem ix_tupK (hK : X.K = K := by rfl) : IxR X (rIxT K) := hK ▸ ix_tup
theorem sl_listK (hK : X.K = K := by rfl) : SlR X (rSlL K) := hK ▸ sl_list
theorem sl_tupK (hK : X.K = K := by rfl) : SlR X (rSlA K) := hK ▸ sl_tupA
theorem op_inK (hK : X.K = K := by rfl) : OpR X (compareOp .In) (rIn K false) := hK ▸ op_in_seq
theorem op_notInK (hK : X.K = K := by rfl) : OpR X (compareOp .NotIn) (rIn K true) := hK ▸ op_notIn_seq
theorem op_eqDK (hu : X.A.units + 64 < cLine) (hK : X.K = K := by rfl) : OpR X (compareOp .Eq) (rEqD K) := hK ▸ op_eqD hu
theorem op_neDK (hu : X.A.units + 64 < cLine) (hK : X.K = K := by rfl) : OpR X (compareOp .NotEq) (rNeD K) := hK ▸ op_neD hu
theorem op_catK (hK : X.K = K := by rfl) : OpR X (binaryOp .Add) (rCatA K) := hK ▸ op_catA
theorem op_repNK (hK : X.K = K := by rfl) : OpR X (binaryOp .Mult) (rRepN K) := hK ▸ op_repN
theorem call_lenK (hK : X.K = K := by rfl) : CallR X (.builtin "len") (fun xs H Q => ∃ p ys, xs = [.ref p] ∧ (SqL K H p ys ∨ SqT K H p ys) ∧ Q (.int ys.length) H) := hK ▸ call_len_seq
theorem call_listK (hK : X.K = K := by rfl) : CallR X (.type "list") (fun xs H Q => ∃ p ys, xs = [.ref p] ∧ (SqL K H p ys ∨ SqT K H p ys) ∧ ∀ l, H l = none → Q (.ref l) (upd H l (.lst ys))) := hK ▸ call_list_of
theorem call_tupleK (hK : X.K = K := by rfl) : CallR X (.type "tuple") (fun xs H Q => ∃ p ys, xs = [.ref p] ∧ ((SqL K H p ys ∧ ∀ l, H l = none → Q (.ref l) (upd H l (.tup ys))) ∨ (SqT K H p ys ∧ Q (.ref p) H))) := hK ▸ call_tuple_of
theorem call_isiK (hK : X.K = K := by rfl) : CallR X (.builtin "isinstance") (rIsi K) := hK ▸ call_isi
theorem call_isiTK (hK : X.K = K := by rfl) : CallR X (.builtin "isinstance") (rIsiT K) := hK ▸ call_isiT
theorem cr_sumK (hc : X.calm = true) (hK : X.K = K := by rfl) : CallR X (.builtin "sum") (rSum K) := hK ▸ cr_sum hc
theorem cr_maxK (hc : X.calm = true) (hK : X.K = K := by rfl) : CallR X (.builtin "max") (rMax K) := hK ▸ cr_max hc
theorem cr_minK (hc : X.calm = true) (hK : X.K = K := by rfl) : CallR X (.builtin "min") (rMin K) := hK ▸ cr_min hc
theorem cr_anyK (hc : X.calm = true) (hK : X.K = K := by rfl) : CallR X (.builtin "any") (rAny K) := hK ▸ cr_any hc
theorem cr_allK (hc : X.calm = true) (hK : X.K = K := by rfl) : CallR X (.builtin "all") (rAll K) := hK ▸ cr_all hc
theorem call_reprK (hgd : X.A.guards = some []) (hu : X.A.units + 64 < cLine) (hu2 : X.A.units + 200 < cLine) (hK : X.K = K := by rfl) : CallR X (.builtin "repr") (rRepr K) := hK ▸ call_repr hgd hu hu2
end
end Ev

namespace K04
open PySem L2
def top (i : Nat) : Stmt := PySem.Challenge.pw_evenrules_k04_tests_added_and_turned.main.body.getD i (.Pass ⟨0, 0, 0, 0⟩)
/-- what the top has left of names that the defs use -/
structure Tx (K : PySem.W.Frag) (mg : Str → Option Value) (C : Addr) : Prop where
  m_int : mg "int" = none
  m_bool : mg "bool" = none
  m_tuple : mg "tuple" = none
  m_list : mg "list" = none
  m_abs : mg "abs" = none
  m_len : mg "len" = none
  m_isinstance : mg "isinstance" = none
  m_all : mg "all" = none
  m_range : mg "range" = none
  m_repr : mg "repr" = none
  m_sum : mg "sum" = none
  m_zip : mg "zip" = none
  m_max : mg "max" = none
  m_str : mg "str" = none
  g_Test : mg "Test" = some (.ref C)
  ci_Test : Ev.CI K C
  n_Test_parts : NoAttr K C "parts"
  n_Test_bound : NoAttr K C "bound"
  ne_Test : Ev.NeO K C
  k_MOST_PARTS : ∃ t, mg "MOST_PARTS" = some (.int (5) t)
  bo_Test : Ev.BO K C
  niAdd_Test : Ev.NoIp K C "__iadd__"
  niMult_Test : Ev.NoIp K C "__imul__"
  mr_Test : ∃ g : Addr, PySem.W.findIn K (.ref C) "__rmul__" = some (some (.ref g))
  mm_Test : ∃ g : Addr, PySem.W.findIn K (.ref C) "__mul__" = some (some (.ref g))
  im_Test : ∃ f, PySem.W.findIn K (.type "int") "__mul__" = some f
  ir_Test : ∃ f, PySem.W.findIn K (.type "int") "__rmul__" = some f
  k_REACHES : ∃ t, mg "REACHES" = some (.str ">=" t)
end K04

namespace K04
open PySem L2
/-- the attributes of a test -/
def TS (t : Addr) (b : Int) : List (Str × V) := putF "bound" (.int b) (putF "parts" (.ref t) [])
theorem ts_parts {t : Addr} {b : Int} : (TS t b).lookup ("parts" : Str) = some (.ref t) := by
  simp only [TS, lookup_putF]
  rfl
theorem ts_bound {t : Addr} {b : Int} : (TS t b).lookup ("bound" : Str) = some (.int b) := by
  simp only [TS, lookup_putF]
  rfl
theorem ts_no {t : Addr} {b : Int} {m : Str} (h : (m == ("parts" : Str) || m == ("bound" : Str)) = false) : (TS t b).lookup m = none := by
  simp only [Bool.or_eq_false_iff, beq_eq_false_iff_ne, ne_eq] at h
  obtain ⟨h1, h2⟩ := h
  simp only [TS, lookup_putF, if_neg h1, if_neg h2]
  rfl
/-- a test stands at r -/
def Ts (K : PySem.W.Frag) (C : Addr) (H : Hp) (r : Addr) (ps : List Int) (b : Int) : Prop := ∃ dx t, H r = some (.ins C dx (TS t b)) ∧ SqT K H t (ps.map V.int)
theorem Ts.same {K : PySem.W.Frag} {C : Addr} {H H1 : Hp} {r : Addr} {ps : List Int} {b : Int} (h : Ts K C H r ps b) (s : Same H H1) : Ts K C H1 r ps b := let ⟨dx, t, e, q⟩ := h; ⟨dx, t, s _ _ e, Ev.Same.seqT s q⟩
theorem Ts.but {K : PySem.W.Frag} {C : Addr} {H H1 : Hp} {r p c : Addr} {ps : List Int} {b n : Int} (h : Ts K C H r ps b) (hp : Ev.Pen H p c n) (s : Ev.But p H H1) : Ts K C H1 r ps b := by
  obtain ⟨dx, t, e, q⟩ := h
  obtain ⟨ys, z⟩ := hp.lst
  exact ⟨dx, t, s _ _ e (ne_of e z (by intro y; cases y)), s.seqT z q⟩
theorem Ts.lset {K : PySem.W.Frag} {C : Addr} {H : Hp} {r o : Addr} {ps : List Int} {b : Int} {xs ys : List V} (h : Ts K C H r ps b) (ho : H o = some (.lst xs)) : Ts K C (upd H o (.lst ys)) r ps b := let ⟨dx, t, e, q⟩ := h; ⟨dx, t, Ev.get_ne (ne_of e ho (by intro z; cases z)) e, Ev.SqT.lset q ho⟩
/-- ints in a list or a tuple -/
def Sq (K : PySem.W.Frag) (H : Hp) (a : Addr) (ns : List Int) : Prop := SqL K H a (ns.map V.int) ∨ SqT K H a (ns.map V.int)
theorem Sq.same {K : PySem.W.Frag} {H H1 : Hp} {a : Addr} {ns : List Int} (h : Sq K H a ns) (s : Same H H1) : Sq K H1 a ns := h.elim (fun z => .inl (s.seq z)) (fun z => .inr (Ev.Same.seqT s z))
end K04

namespace K04
open PySem L2
/-- the greatest common divisor of a list, going on from g -/
def gf (g : Nat) (ps : List Int) : Nat := ps.foldl (fun g z => Nat.gcd g z.natAbs) g
def gcds (ps : List Int) : Nat := gf 0 ps
theorem gf_cons (g : Nat) (z : Int) (ps : List Int) : gf g (z :: ps) = gf (Nat.gcd g z.natAbs) ps := rfl
theorem gf_snoc (g : Nat) (z : Int) (ps : List Int) : gf g (ps ++ [z]) = Nat.gcd (gf g ps) z.natAbs := by
  unfold gf
  rw [List.foldl_append]
  rfl
theorem gcds_take {ps : List Int} {i : Nat} {z : Int} (h : ps[i]? = some z) : gcds (ps.take (i + 1)) = Nat.gcd (gcds (ps.take i)) z.natAbs := by
  unfold gcds
  rw [List.take_add_one, h]
  exact gf_snoc 0 z _
theorem gf_dvd0 : ∀ (ps : List Int) (g : Nat), gf g ps ∣ g
  | [], g => Nat.dvd_refl g
  | z :: ps, g => Nat.dvd_trans (gf_dvd0 ps (Nat.gcd g z.natAbs)) (Nat.gcd_dvd_left _ _)
theorem gf_dvd : ∀ (ps : List Int) (g : Nat), ∀ z ∈ ps, gf g ps ∣ z.natAbs
  | [], _, _, h => by cases h
  | y :: ps, g, z, h => by
    rcases List.mem_cons.mp h with e | e
    · subst e
      exact Nat.dvd_trans (gf_dvd0 ps _) (Nat.gcd_dvd_right _ _)
    · exact gf_dvd ps _ z e
theorem gf_le (B : Nat) : ∀ (ps : List Int) (g : Nat), g ≤ B → (∀ z ∈ ps, z.natAbs ≤ B) → gf g ps ≤ B
  | [], _, hg, _ => hg
  | z :: ps, g, hg, h => by
    refine gf_le B ps _ ?_ fun y hy => h y (List.mem_cons_of_mem _ hy)
    by_cases g0 : g = 0
    · subst g0
      show Nat.gcd 0 z.natAbs ≤ B
      rw [Nat.gcd_zero_left]
      exact h z List.mem_cons_self
    · exact Nat.le_trans (Nat.le_of_dvd (Nat.pos_of_ne_zero g0) (Nat.gcd_dvd_left _ _)) hg
theorem gcds_zero {ps : List Int} (h : gcds ps = 0) : ∀ z ∈ ps, z = 0 := fun z hz => by
  have := gf_dvd ps 0 z hz
  rw [show gf 0 ps = 0 from h] at this
  have := Nat.eq_zero_of_zero_dvd this
  omega
theorem gf_zeros : ∀ ps : List Int, (∀ z ∈ ps, z = 0) → gf 0 ps = 0
  | [], _ => rfl
  | z :: ps, h => by
    have e := h z List.mem_cons_self
    subst e
    exact gf_zeros ps fun y hy => h y (List.mem_cons_of_mem _ hy)
theorem dvdZ {z : Int} {g : Nat} (h : g ∣ z.natAbs) : (g : Int) ∣ z := Int.dvd_natAbs.mp (Int.natCast_dvd_natCast.mpr h)
theorem nat_div {z : Int} {g : Nat} (h : g ∣ z.natAbs) : (z / (g : Int)).natAbs = z.natAbs / g := by
  rw [Int.natAbs_ediv_of_dvd (dvdZ h), Int.natAbs_natCast]
theorem gf_map {g : Nat} (g0 : 0 < g) : ∀ (ps : List Int) (a : Nat), g ∣ a → (∀ z ∈ ps, g ∣ z.natAbs) → gf (a / g) (ps.map (· / (g : Int))) = gf a ps / g
  | [], _, _, _ => rfl
  | z :: ps, a, ha, h => by
    rw [List.map_cons, gf_cons, gf_cons, nat_div (h z List.mem_cons_self), Nat.gcd_div ha (h z List.mem_cons_self)]
    exact gf_map g0 ps _ (Nat.dvd_gcd ha (h z List.mem_cons_self)) fun y hy => h y (List.mem_cons_of_mem _ hy)
/-- what tight makes -/
def tp (ps : List Int) : List Int := if gcds ps = 0 then ps else ps.map (· / (gcds ps : Int))
def tb (ps : List Int) (b : Int) : Int := if gcds ps = 0 then b else -((-b) / (gcds ps : Int))
theorem tp_len (ps : List Int) : (tp ps).length = ps.length := by
  unfold tp
  split <;> simp
theorem tp_gcds {ps : List Int} (h : gcds ps ≠ 0) : gcds (tp ps) = 1 := by
  unfold tp
  rw [if_neg h]
  have := gf_map (Nat.pos_of_ne_zero h) ps 0 (Nat.dvd_zero _) (gf_dvd ps 0)
  rw [Nat.zero_div] at this
  unfold gcds at this ⊢
  rw [this]
  exact Nat.div_self (Nat.pos_of_ne_zero h)
theorem tp_tp (ps : List Int) : tp (tp ps) = tp ps := by
  by_cases h : gcds ps = 0
  · have e : tp ps = ps := by unfold tp; rw [if_pos h]
    rw [e, e]
  · have e := tp_gcds h
    generalize tp ps = qs at e
    unfold tp
    rw [if_neg (by omega), e]
    simp
theorem tb_tb (ps : List Int) (b : Int) : tb (tp ps) (tb ps b) = tb ps b := by
  by_cases h : gcds ps = 0
  · have e : tp ps = ps := by unfold tp; rw [if_pos h]
    have e2 : tb ps b = b := by unfold tb; rw [if_pos h]
    rw [e, e2, e2]
  · have e := tp_gcds h
    generalize tb ps b = c
    unfold tb
    rw [if_neg (by omega), e]
    simp
theorem mul_div {z : Int} {g : Nat} (h : g ∣ z.natAbs) : (g : Int) * (z / (g : Int)) = z := Int.mul_ediv_cancel' (dvdZ h)
theorem dot_div {g : Nat} : ∀ ps qs : List Int, (∀ z ∈ ps, g ∣ z.natAbs) → (g : Int) * Ev.dot (ps.map (· / (g : Int))) qs = Ev.dot ps qs
  | [], _, _ => by simp [Ev.dot]
  | _ :: _, [], _ => by simp [Ev.dot]
  | p :: ps, q :: qs, h => by
    show (g : Int) * (p / (g : Int) * q + Ev.dot (ps.map (· / (g : Int))) qs) = p * q + Ev.dot ps qs
    rw [Int.mul_add, dot_div ps qs fun y hy => h y (List.mem_cons_of_mem _ hy), ← Int.mul_assoc, mul_div (h p List.mem_cons_self)]
theorem dot_neg : ∀ ps qs : List Int, Ev.dot (ps.map (fun z => -z)) qs = - Ev.dot ps qs
  | [], _ => by simp [Ev.dot]
  | _ :: _, [] => by simp [Ev.dot]
  | p :: ps, q :: qs => by
    show -p * q + Ev.dot (ps.map (fun z => -z)) qs = -(p * q + Ev.dot ps qs)
    rw [dot_neg ps qs, Int.neg_mul]
    omega
theorem near_iff (ps qs : List Int) (e : Int) : tb ps e ≤ Ev.dot (tp ps) qs ↔ e ≤ Ev.dot ps qs := by
  by_cases h : gcds ps = 0
  · unfold tp tb
    rw [if_pos h, if_pos h]
  · have hd : (gcds ps : Int) * Ev.dot (ps.map (· / (gcds ps : Int))) qs = Ev.dot ps qs := dot_div ps qs (gf_dvd ps 0)
    have g0 : (0 : Int) < (gcds ps : Int) := by omega
    unfold tp tb
    rw [if_neg h, if_neg h, ← hd]
    generalize Ev.dot (ps.map (· / (gcds ps : Int))) qs = d
    rw [Int.mul_comm]
    constructor
    · intro q
      have q1 : -d ≤ (-e) / (gcds ps : Int) := by omega
      have q2 := (Int.le_ediv_iff_mul_le g0).mp q1
      rw [Int.neg_mul] at q2
      omega
    · intro q
      have q1 : -d ≤ (-e) / (gcds ps : Int) := by
        refine (Int.le_ediv_iff_mul_le g0).mpr ?_
        rw [Int.neg_mul]
        omega
      omega
theorem absN (n : Int) : (if n < 0 then -n else n) = (n.natAbs : Int) := by
  split <;> omega
theorem gcd_step {a b : Nat} : Nat.gcd b (a % b) = Nat.gcd a b := by
  rw [Nat.gcd_comm b, ← Nat.gcd_rec, Nat.gcd_comm]
theorem max1 (g : Nat) (h : g ≠ 0) : (if (g : Int) > 1 then (g : Int) else 1) = (g : Int) := by
  split <;> omega
theorem zeros_iff (ps : List Int) : decide (ps = List.replicate ps.length 0) = decide (gcds ps = 0) := by
  by_cases h : gcds ps = 0
  · rw [decide_eq_true h]
    exact decide_eq_true (List.eq_replicate_iff.mpr ⟨rfl, gcds_zero h⟩)
  · rw [decide_eq_false h]
    refine decide_eq_false fun e => h ?_
    exact gf_zeros ps fun z hz => (List.eq_replicate_iff.mp e).2 z hz
theorem cut_init (ps : List Int) (b : Int) : cutV ((ps ++ [b]).map V.int) none (some (((ps ++ [b]).map V.int).length - 1 : Int)) = ps.map V.int := by
  simp [cutV, HT.sIx]
  rw [if_neg (by omega), List.take_left' (by simp)]
end K04

set_option hygiene false
local macro_rules | `(tactic| walk_at "ev hl") => `(tactic| (repeat (first | assumption | exact upd_same | refine Ev.get_new ?_ (by assumption) | refine Ev.get_ne (by assumption) ?_ | refine Ev.get_but (by assumption) (by walk_at "ev ne") ?_ | refine Ev.get_same (by assumption) ?_)))
local macro_rules | `(tactic| walk_at "ev fr") => `(tactic| (first | assumption | exact Ev.free_upd (by assumption) | exact Ev.free_upd (Ev.free_upd (by assumption)) | exact Ev.free_upd (Ev.free_upd (Ev.free_upd (by assumption))) | exact Ev.free_upd (Ev.free_upd (Ev.free_upd (Ev.free_upd (by assumption)))) | exact Ev.free_upd (Ev.free_upd (Ev.free_upd (Ev.free_upd (Ev.free_upd (by assumption))))) | exact Ev.free_upd (Ev.free_upd (Ev.free_upd (Ev.free_upd (Ev.free_upd (Ev.free_upd (by assumption)))))) | exact Ev.free_upd (Ev.free_upd (Ev.free_upd (Ev.free_upd (Ev.free_upd (Ev.free_upd (Ev.free_upd (by assumption))))))) | exact Ev.free_upd (Ev.free_upd (Ev.free_upd (Ev.free_upd (Ev.free_upd (Ev.free_upd (Ev.free_upd (Ev.free_upd (by assumption)))))))) | exact Ev.free_upd (Ev.free_upd (Ev.free_upd (Ev.free_upd (Ev.free_upd (Ev.free_upd (Ev.free_upd (Ev.free_upd (Ev.free_upd (by assumption)))))))))))
local macro_rules | `(tactic| walk_at "ev pen") => `(tactic| (first | assumption | exact Ev.Pen.new (by assumption) (by assumption) | exact Ev.Pen.new (Ev.Pen.new (by assumption) (by assumption)) (by assumption) | exact Ev.Pen.new (Ev.Pen.new (Ev.Pen.new (by assumption) (by assumption)) (by assumption)) (by assumption) | exact Ev.Pen.new (Ev.Pen.new (Ev.Pen.new (Ev.Pen.new (by assumption) (by assumption)) (by assumption)) (by assumption)) (by assumption) | exact Ev.Pen.new (Ev.Pen.new (Ev.Pen.new (Ev.Pen.new (Ev.Pen.new (by assumption) (by assumption)) (by assumption)) (by assumption)) (by assumption)) (by assumption) | exact Ev.Pen.new (Ev.Pen.new (Ev.Pen.new (Ev.Pen.new (Ev.Pen.new (Ev.Pen.new (by assumption) (by assumption)) (by assumption)) (by assumption)) (by assumption)) (by assumption)) (by assumption) | exact Ev.Pen.new (Ev.Pen.new (Ev.Pen.new (Ev.Pen.new (Ev.Pen.new (Ev.Pen.new (Ev.Pen.new (by assumption) (by assumption)) (by assumption)) (by assumption)) (by assumption)) (by assumption)) (by assumption)) (by assumption) | exact Ev.Pen.new (Ev.Pen.new (Ev.Pen.new (Ev.Pen.new (Ev.Pen.new (Ev.Pen.new (Ev.Pen.new (Ev.Pen.new (by assumption) (by assumption)) (by assumption)) (by assumption)) (by assumption)) (by assumption)) (by assumption)) (by assumption)) (by assumption) | exact Ev.Pen.new (Ev.Pen.new (Ev.Pen.new (Ev.Pen.new (Ev.Pen.new (Ev.Pen.new (Ev.Pen.new (Ev.Pen.new (Ev.Pen.new (by assumption) (by assumption)) (by assumption)) (by assumption)) (by assumption)) (by assumption)) (by assumption)) (by assumption)) (by assumption)) (by assumption) | exact Ev.Pen.new (Ev.Pen.new (Ev.Pen.new (Ev.Pen.new (Ev.Pen.new (Ev.Pen.new (Ev.Pen.new (Ev.Pen.new (Ev.Pen.new (Ev.Pen.new (by assumption) (by assumption)) (by assumption)) (by assumption)) (by assumption)) (by assumption)) (by assumption)) (by assumption)) (by assumption)) (by assumption)) (by assumption) | exact Ev.Pen.new (Ev.Pen.new (Ev.Pen.new (Ev.Pen.new (Ev.Pen.new (Ev.Pen.new (Ev.Pen.new (Ev.Pen.new (Ev.Pen.new (Ev.Pen.new (Ev.Pen.new (by assumption) (by assumption)) (by assumption)) (by assumption)) (by assumption)) (by assumption)) (by assumption)) (by assumption)) (by assumption)) (by assumption)) (by assumption)) (by assumption) | exact Ev.Pen.new (Ev.Pen.new (Ev.Pen.new (Ev.Pen.new (Ev.Pen.new (Ev.Pen.new (Ev.Pen.new (Ev.Pen.new (Ev.Pen.new (Ev.Pen.new (Ev.Pen.new (Ev.Pen.new (by assumption) (by assumption)) (by assumption)) (by assumption)) (by assumption)) (by assumption)) (by assumption)) (by assumption)) (by assumption)) (by assumption)) (by assumption)) (by assumption)) (by assumption)))
local macro_rules | `(tactic| walk_at "ev ne") => `(tactic| (first | assumption | exact Ev.Pen.ne (by assumption) (by walk_at "ev fr")))
local macro_rules | `(tactic| walk_at "ev but") => `(tactic| (repeat (first | assumption | exact Ev.But.refl _ _ | refine Ev.But.new ?_ (by assumption) | refine Ev.But.trans ?_ (by assumption) | refine Ev.But.set ?_)))
local macro_rules | `(tactic| walk_at "ev sm") => `(tactic| (repeat (first | assumption | exact Same.refl _ | refine Ev.Same.new ?_ (by assumption) | refine Same.trans ?_ (by assumption))))
local macro_rules | `(tactic| walk_at "ev sz") => `(tactic| (rw [sizeLine_eq]; simp))
local macro_rules | `(tactic| walk_at "ev flen") => `(tactic| (show _ < 1000; refine Nat.lt_of_le_of_lt (?_ : _ ≤ 20) (by decide); repeat (first | exact Nat.zero_le _ | refine Ev.len_putF ?_)))
local macro_rules | `(tactic| walk_at "ev rd") => `(tactic| (repeat (first | refine ⟨_, rfl, ?_⟩ | refine ⟨_, _, rfl, rfl, ?_⟩ | refine Or.inl ⟨_, rfl, ?_⟩ | refine Or.inr ⟨_, rfl, ?_⟩ | refine ⟨_, _, _, _, rfl, rfl, SqL.of (by walk_at "ev hl"), (by rfl), ?_⟩ | refine ⟨_, _, _, _, rfl, rfl, SqT.of (by walk_at "ev hl"), (by rfl), ?_⟩ | refine ⟨_, _, rfl, Or.inl (SqL.of (by walk_at "ev hl")), ?_⟩ | refine ⟨_, _, rfl, Or.inr (SqT.of (by walk_at "ev hl")), ?_⟩ | refine ⟨_, _, _, _, rfl, rfl, (by walk_at "ev hl"), (by rfl), ?_⟩ | (refine ⟨Nat.zero_le _, fun _ hfr => ?_⟩; try (have := Ev.Pen.ne (by walk_at "ev pen") hfr)) | (refine ⟨(by walk_at "ev sz"), fun _ hfr => ?_⟩; try (have := Ev.Pen.ne (by walk_at "ev pen") hfr)) | refine ⟨(by show (0 : Int) < _; omega), ?_⟩ | refine ⟨(by show CMul _ _; unfold CMul; omega), ?_⟩ | refine ⟨(by show CPow _ _; unfold CPow; omega), ?_⟩ | refine ⟨(by show CDiv _ _; unfold CDiv; omega), ?_⟩ | refine ⟨⟨_, SqT.of (by walk_at "ev hl")⟩, ?_⟩ | refine ⟨⟨_, SqL.of (by walk_at "ev hl")⟩, ?_⟩ | refine ⟨rfl, ?_⟩ | refine iteT ?_ | refine iteF ?_ | refine ⟨_, _, _, _, _, rfl, .ty _, .base (.int _), kit_ty rfl, ?_⟩ | refine ⟨_, _, _, _, _, rfl, .ty _, .base (.tup (by walk_at "ev hl")), kit_ty rfl, ?_⟩ | refine ⟨_, _, _, _, _, rfl, .ty _, .base (.lst (by walk_at "ev hl")), kit_ty rfl, ?_⟩ | refine ⟨Or.inl ⟨rfl, _, SqL.of (by walk_at "ev hl")⟩, ?_⟩ | refine ⟨_, _, rfl, SqT.of (by walk_at "ev hl"), rfl, ?_⟩ | refine ⟨_, _, rfl, ?_⟩ | refine ⟨_, _, _, rfl, ?_⟩ | refine ⟨_, _, _, _, _, rfl, .own _, T.ci_Test.ty (by walk_at "ev hl"), Ev.kit_self, ?_⟩ | refine ⟨_, _, _, _, _, rfl, .own _, .base .non, Ev.kit_tyo T.ci_Test (by decide +kernel), ?_⟩ | refine ⟨_, _, _, _, _, rfl, .own _, .base (.int _), Ev.kit_tyo T.ci_Test (by decide +kernel), ?_⟩ | refine ⟨_, _, _, _, _, rfl, .own _, .base (.bl _), Ev.kit_tyo T.ci_Test (by decide +kernel), ?_⟩ | refine ⟨_, _, _, _, _, rfl, .own _, .base (.str _), Ev.kit_tyo T.ci_Test (by decide +kernel), ?_⟩ | refine ⟨_, _, _, _, _, rfl, .own _, .base (.lst (by walk_at "ev hl")), Ev.kit_tyo T.ci_Test (by decide +kernel), ?_⟩ | refine ⟨_, _, _, _, _, rfl, .own _, .base (.tup (by walk_at "ev hl")), Ev.kit_tyo T.ci_Test (by decide +kernel), ?_⟩ | refine ⟨_, _, _, _, _, rfl, .own _, .base (.dK (by walk_at "ev hl")), Ev.kit_tyo T.ci_Test (by decide +kernel), ?_⟩ | refine ⟨_, _, _, _, _, rfl, (by walk_at "ev hl"), T.ci_Test.cl, T.n_Test_parts, ts_parts, ?_⟩ | refine ⟨_, _, _, _, _, rfl, (by walk_at "ev hl"), T.ci_Test.cl, T.n_Test_bound, ts_bound, ?_⟩ | refine ⟨_, _, _, _, rfl, (by walk_at "ev hl"), T.ci_Test.cl, T.n_Test_parts, (by walk_at "ev flen"), ?_⟩ | refine ⟨_, _, _, _, rfl, (by walk_at "ev hl"), T.ci_Test.cl, T.n_Test_bound, (by walk_at "ev flen"), ?_⟩ | refine ⟨_, _, _, rfl, (by walk_at "ev hl"), ts_no (by decide +kernel), ?_⟩)))

namespace K04
open PySem L2

theorem sc_draw : FnScope ["_law_pen_here", "_law_top_so", "_law_digit", "_law_at", "_law_cell", "_law_great", "_law_mixed"] ["_law_pen_here", "_law_top_so"] (C8.fnScope (top 19)) := C8.fnScope_by (by decide +kernel)
def spDraw : Sp := fun vs H Q _ => ∃ (p c : Addr) (m n : Int), vs = [.ref p, .int m] ∧ Ev.Pen H p c n ∧ n ≤ 100000 ∧ 0 < m ∧ m ≤ 10000000000000000000000000000000000000000000000000000000000000000000000 ∧
  ∀ (d : Int) (H' : Hp), 0 ≤ d → d < m → Ev.But p H H' → Ev.Pen H' p c (n + 1) → Q (.int d) H'
section
variable {P : Program} {w : World} {K : PySem.W.Frag} {mg : Str → Option Value} {base : Heap} {C : Addr}
theorem ok_draw {f : Addr} {fd : FuncData} (F : Ev.Fn K "_law_draw" "_law_draw" (top 19) f fd) (T : Tx K mg C) : Ev.GOk P w K mg base (L2.CX P w) 1 f fd ["_law_pen_here", "_law_top_so"] spDraw := by
  refine Ev.gfn0 F sc_draw (fun vs H Q E h => ?_) (fun cdv A outer s H vs Q E hgd hr h => ?_)
  · obtain ⟨p, c, m, n, rfl, ⟨t, g, ns, hp, hc, t0, t1, g0, hcp, hl⟩, hn, m0, m1, k⟩ := h
    rfl
  · obtain ⟨p, c, m, n, rfl, ⟨t, g, ns, hp, hc, t0, t1, g0, hcp, hl⟩, hn, m0, m1, k⟩ := h
    have hu : _ + 64 < cLine := hr.units
    obtain ⟨_, hk_MOST_PARTS⟩ := T.k_MOST_PARTS
    have e10_12 : (10 : Int) ^ Int.toNat 12 = 1000000000000 := by decide
    have e10_20 : (10 : Int) ^ Int.toNat 20 = 100000000000000000000 := by decide
    have e10_25 : (10 : Int) ^ Int.toNat 25 = 10000000000000000000000000 := by decide
    have e10_30 : (10 : Int) ^ Int.toNat 30 = 1000000000000000000000000000000 := by decide
    have e10_40 : (10 : Int) ^ Int.toNat 40 = 10000000000000000000000000000000000000000 := by decide
    obtain ⟨_, hk_REACHES⟩ := T.k_REACHES
    obtain ⟨_, mrO⟩ := T.mr_Test
    obtain ⟨_, mmO⟩ := T.mm_Test
    obtain ⟨_, imO⟩ := T.im_Test
    obtain ⟨_, irO⟩ := T.ir_Test
    refine ⟨_, (pss_cons (ps_if (pt_cmpR op_gt (pe_ix ix_list (pv 0) pe_int (fun _ _ => rfl)) pe_int (nomark _))
  (pss_cons (ps_set (i := 2) sc_draw.nd rfl (.inl rfl) (pe_op op_mod (pe_callTy call_int1 (by rfl) T.m_int (by decide +kernel) (pa_cons (pe_ix ix_list (pv 0) pe_int (fun _ _ => rfl)) pa_nil)) (pv 1)))
  (pss_cons (ps_asg (pe_op op_fdivW (pe_callTy call_int1 (by rfl) T.m_int (by decide +kernel) (pa_cons (pe_ix ix_list (pv 0) pe_int (fun _ _ => rfl)) pa_nil)) (pv 1)) (pg_sub (pv 0) pe_int set_list))
  (pss_one (ps_ret (pv 2)))))
  pss_nil)
  (pss_cons (ps_set (i := 3) sc_draw.nd rfl (.inl rfl) (pe_ix ix_list (pv 0) pe_int (fun _ _ => rfl)))
  (pss_cons (ps_asg (pe_op op_add (pv 3) pe_int) (pg_sub (pv 0) pe_int set_list))
  (pss_cons (ps_set (i := 4) sc_draw.nd rfl (.inl rfl) (pe_op op_add (pe_op op_mul pe_int (pv 3)) pe_int))
  (pss_cons (ps_if (pt_cmpR (op_neD hu) (pe_ix ix_list (pv 0) pe_int (fun _ _ => rfl)) (pe_lst pa_nil) (nomark _))
  (pss_one (ps_set (i := 4) sc_draw.nd rfl (.inl rfl) (pe_ix ix_list (pe_ix ix_list (pv 0) pe_int (fun _ _ => rfl)) (pe_op op_mod (pe_callTy call_int1 (by rfl) T.m_int (by decide +kernel) (pa_cons (pv 3) pa_nil)) (pe_callB call_len_seq (by rfl) T.m_len (by decide +kernel) (pa_cons (pe_ix ix_list (pv 0) pe_int (fun _ _ => rfl)) pa_nil))) (fun _ _ => rfl))))
  pss_nil)
  (pss_cons (ps_if (pw_and (pt_cmpR op_lt (pv 3) (pe_callB call_len_seq (by rfl) T.m_len (by decide +kernel) (pa_cons (pe_ix ix_list (pv 0) pe_int (fun _ _ => rfl)) pa_nil)) (nomark _)) (pw_and1 (pt_cmpR op_ge (pe_callB call_abs (by rfl) T.m_abs (by decide +kernel) (pa_cons (pv 4) pa_nil)) (pe_op op_pow pe_int pe_int) (nomark _)))).pt
  (pss_cons (ps_set (i := 5) sc_draw.nd rfl (.inl rfl) (pe_op op_add (pe_op op_mul pe_int (pe_op op_sub (pe_callB call_abs (by rfl) T.m_abs (by decide +kernel) (pa_cons (pv 4) pa_nil)) (pe_op op_pow pe_int pe_int))) (pe_callTy call_int1 (by rfl) T.m_int (by decide +kernel) (pa_cons (pe_cmpR op_lt (pv 4) pe_int (nomark _)) pa_nil))))
  (pss_cons (ps_asg (pe_op op_fdivW (pe_callTy call_int1 (by rfl) T.m_int (by decide +kernel) (pa_cons (pv 5) pa_nil)) (pv 1)) (pg_sub (pv 0) pe_int set_list))
  (pss_one (ps_ret (pe_op op_mod (pe_callTy call_int1 (by rfl) T.m_int (by decide +kernel) (pa_cons (pv 5) pa_nil)) (pv 1))))))
  pss_nil)
  (pss_cons (ps_set (i := 6) sc_draw.nd rfl (.inl rfl) (pe_op op_mod (pe_callTy call_int1 (by rfl) T.m_int (by decide +kernel) (pa_cons (pe_op op_pow (pe_op op_add (pe_op op_add (pe_op op_mod (pe_callTy call_int1 (by rfl) T.m_int (by decide +kernel) (pa_cons (pv 4) pa_nil)) pe_int) (pe_op op_mul pe_int (pv 3))) pe_int) pe_int) pa_nil)) pe_int))
  (pss_cons (ps_set (i := 6) sc_draw.nd rfl (.inl rfl) (pe_op op_mod (pe_callTy call_int1 (by rfl) T.m_int (by decide +kernel) (pa_cons (pe_op op_pow (pe_op op_add (pe_op op_add (pe_op op_mul (pv 6) (pe_op op_add (pe_op op_mul pe_int (pv 3)) pe_int)) (pe_op op_mul (pe_op op_mul pe_int (pv 3)) (pv 3))) pe_int) pe_int) pa_nil)) pe_int))
  (pss_one (ps_ret (pe_op op_mod (pe_callTy call_int1 (by rfl) T.m_int (by decide +kernel) (pa_cons (pe_op op_fdiv (pv 6) pe_int) pa_nil)) (pv 1)))))))))))), ?_⟩
    have hw : ∀ z, CDivW z m := fun z => wide_div (b := 256) m0 (by omega) (by decide) (by decide)
    walk_at "ev rd"
    refine ite2 (fun hg => ?_) (fun hg => ?_)
    · walk_at "ev rd"
      refine ⟨hw _, ?_⟩
      walk_at "ev rd"
      exact k (g % m) _ (Int.emod_nonneg _ (by omega)) (Int.emod_lt_of_pos _ m0) (Ev.But.refl p H).set ⟨t, g / m, ns, upd_same, Ev.get_ne hcp hc, t0, by omega, Int.ediv_nonneg g0 (by omega), hcp, hl⟩
    · walk_at "ev rd"
      refine Ev.ne_ints (ns := ns) (ms := []) (SqL.of (by walk_at "ev hl")) (SqL.of (by walk_at "ev hl")) ?_
      walk_at "ev rd"
      have hlen : ((ns.map V.int).length : Int) = (ns.length : Int) := by rw [List.length_map]
      refine ite2 (fun h0 => ?_) (fun h0 => ?_)
      · have hne : 0 < ns.length := by
          cases ns with
          | nil => simp at h0
          | cons _ _ => simp
        walk_at "ev rd"
        obtain ⟨z, hz, hat⟩ := Ev.at_int (ns := ns) (i := t % ((ns.map V.int).length : Int)) (Int.emod_nonneg _ (by omega)) (by have := Int.emod_lt_of_pos t (show (0 : Int) < ((ns.map V.int).length : Int) by omega); omega)
        refine ⟨_, _, _, _, rfl, rfl, SqL.of (by walk_at "ev hl"), hat, ?_⟩
        walk_at "ev rd"
        refine ite2 (fun h1 => ?_) (fun h1 => ?_)
        · walk_at "ev rd"
          refine ite2 (fun h2 => ?_) (fun h2 => ?_)
          · walk_at "ev rd"
            refine ⟨hw _, ?_⟩
            walk_at "ev rd"
            exact k _ _ (Int.emod_nonneg _ (by omega)) (Int.emod_lt_of_pos _ m0) ((Ev.But.refl p H).set.new (by assumption)).set ⟨t + 1, _, ns, upd_same, (by walk_at "ev hl"), by omega, by omega, Int.ediv_nonneg (Ev.great_nn (of_decide_eq_true h2)) (by omega), hcp, hl⟩
          · walk_at "ev rd"
            refine ⟨Ev.pow3 (by omega) (by omega) t0 (by omega) (by decide) (by decide) (by decide) (by decide) (by decide) (by decide), ?_⟩
            walk_at "ev rd"
            exact k _ _ (Int.emod_nonneg _ (by omega)) (Int.emod_lt_of_pos _ m0) ((Ev.But.refl p H).set.new (by assumption)) ⟨t + 1, g, ns, (by walk_at "ev hl"), (by walk_at "ev hl"), by omega, by omega, g0, hcp, hl⟩
        · refine iteF ?_
          walk_at "ev rd"
          refine ⟨Ev.pow3 (by omega) (by omega) t0 (by omega) (by decide) (by decide) (by decide) (by decide) (by decide) (by decide), ?_⟩
          walk_at "ev rd"
          exact k _ _ (Int.emod_nonneg _ (by omega)) (Int.emod_lt_of_pos _ m0) ((Ev.But.refl p H).set.new (by assumption)) ⟨t + 1, g, ns, (by walk_at "ev hl"), (by walk_at "ev hl"), by omega, by omega, g0, hcp, hl⟩
      · walk_at "ev rd"
        refine ite2 (fun h1 => ?_) (fun h1 => ?_)
        · walk_at "ev rd"
          refine ite2 (fun h2 => ?_) (fun h2 => ?_)
          · walk_at "ev rd"
            refine ⟨hw _, ?_⟩
            walk_at "ev rd"
            exact k _ _ (Int.emod_nonneg _ (by omega)) (Int.emod_lt_of_pos _ m0) ((Ev.But.refl p H).set.new (by assumption)).set ⟨t + 1, _, ns, upd_same, (by walk_at "ev hl"), by omega, by omega, Int.ediv_nonneg (Ev.great_nn (of_decide_eq_true h2)) (by omega), hcp, hl⟩
          · walk_at "ev rd"
            refine ⟨Ev.pow3 (by omega) (by omega) t0 (by omega) (by decide) (by decide) (by decide) (by decide) (by decide) (by decide), ?_⟩
            walk_at "ev rd"
            exact k _ _ (Int.emod_nonneg _ (by omega)) (Int.emod_lt_of_pos _ m0) ((Ev.But.refl p H).set.new (by assumption)) ⟨t + 1, g, ns, (by walk_at "ev hl"), (by walk_at "ev hl"), by omega, by omega, g0, hcp, hl⟩
        · refine iteF ?_
          walk_at "ev rd"
          refine ⟨Ev.pow3 (by omega) (by omega) t0 (by omega) (by decide) (by decide) (by decide) (by decide) (by decide) (by decide), ?_⟩
          walk_at "ev rd"
          exact k _ _ (Int.emod_nonneg _ (by omega)) (Int.emod_lt_of_pos _ m0) ((Ev.But.refl p H).set.new (by assumption)) ⟨t + 1, g, ns, (by walk_at "ev hl"), (by walk_at "ev hl"), by omega, by omega, g0, hcp, hl⟩
end
end K04

namespace K04
open PySem L2

theorem sc_pen : FnScope ["_law_script"] ["_law_script"] (C8.fnScope (top 18)) := C8.fnScope_by (by decide +kernel)
def spPen (K : PySem.W.Frag) : Sp := fun vs H Q _ => ∃ (a : Addr) (ns : List Int), vs = [.ref a] ∧ SqL K H a (ns.map V.int) ∧ ns.length ≤ 63 ∧
  ∀ (p c : Addr) (H' : Hp), Same H H' → H p = none → Ev.Pen H' p c 0 → Q (.ref p) H'
section
variable {P : Program} {w : World} {K : PySem.W.Frag} {mg : Str → Option Value} {base : Heap} {C : Addr}
theorem ok_pen {f : Addr} {fd : FuncData} (F : Ev.Fn K "_law_pen" "_law_pen" (top 18) f fd) (T : Tx K mg C) : Ev.GOk P w K mg base (L2.CX P w) 1 f fd ["_law_script"] (spPen K) := by
  refine Ev.gfn0 F sc_pen (fun vs H Q E h => ?_) (fun cdv A outer s H vs Q E hgd hr h => ?_)
  · obtain ⟨a, ns, rfl, hS, hl, k⟩ := h
    rfl
  · obtain ⟨a, ns, rfl, hS, hl, k⟩ := h
    have hu : _ + 64 < cLine := hr.units
    obtain ⟨_, hk_MOST_PARTS⟩ := T.k_MOST_PARTS
    have e10_12 : (10 : Int) ^ Int.toNat 12 = 1000000000000 := by decide
    have e10_20 : (10 : Int) ^ Int.toNat 20 = 100000000000000000000 := by decide
    have e10_25 : (10 : Int) ^ Int.toNat 25 = 10000000000000000000000000 := by decide
    have e10_30 : (10 : Int) ^ Int.toNat 30 = 1000000000000000000000000000000 := by decide
    have e10_40 : (10 : Int) ^ Int.toNat 40 = 10000000000000000000000000000000000000000 := by decide
    obtain ⟨_, hk_REACHES⟩ := T.k_REACHES
    obtain ⟨_, mrO⟩ := T.mr_Test
    obtain ⟨_, mmO⟩ := T.mm_Test
    obtain ⟨_, imO⟩ := T.im_Test
    obtain ⟨_, irO⟩ := T.ir_Test
    refine ⟨_, (pss_one (ps_ret (pe_lst (pa_cons (pe_callTy call_list_of (by rfl) T.m_list (by decide +kernel) (pa_cons (pe_slice sl_list (pv 0) po_none (po_some pe_int)) pa_nil)) (pa_cons pe_int (pa_cons pe_int pa_nil)))))), ?_⟩
    obtain ⟨ms, e, hm, _⟩ := Ev.cut_ints ns none (some 63)
    walk_at "ev rd"
    refine ⟨_, _, rfl, hS, fun c nc => ?_⟩
    rw [e]
    refine ⟨_, _, rfl, Or.inl (SqL.of (by walk_at "ev hl")), fun l nl => ⟨(by walk_at "ev sz"), fun p np => ?_⟩⟩
    refine k p l _ (fun b o h => by walk_at "ev hl") ?_ ⟨0, 0, ms, upd_same, (by walk_at "ev hl"), by decide, by decide, by decide, ?_, by omega⟩
    · cases z : H p with
      | none => rfl
      | some o =>
        rw [Ev.get_new (Ev.get_new z nc) nl] at np
        cases np
    · intro z
      subst z
      rw [upd_same] at np
      cases np
end
end K04

namespace K04
open PySem L2

theorem sc_pick : FnScope ["_law_pen_here", "_law_some"] ["_law_pen_here", "_law_some"] (C8.fnScope (top 20)) := C8.fnScope_by (by decide +kernel)
def spPick : Sp := fun vs H Q _ => ∃ (p c l : Addr) (xs : List V) (n : Int), vs = [.ref p, .ref l] ∧ Ev.Pen H p c n ∧ n ≤ 90000 ∧ H l = some (.lst xs) ∧ l ≠ p ∧ (0 < xs.length ∧ xs.length ≤ 1000) ∧
  ∀ (v : V) (H' : Hp), v ∈ xs → Ev.But p H H' → Ev.Pen H' p c (n + 1) → Q v H'
section
variable {P : Program} {w : World} {K : PySem.W.Frag} {mg : Str → Option Value} {base : Heap} {C : Addr}
theorem ok_pick {f : Addr} {fd : FuncData} (F : Ev.Fn K "_law_pick" "_law_pick" (top 20) f fd) (T : Tx K mg C) (c_draw : Ev.GC P w K mg base 1 "_law_draw" spDraw []) : Ev.GOk P w K mg base (L2.CX P w) 2 f fd ["_law_pen_here", "_law_some"] spPick := by
  refine Ev.gfn0 F sc_pick (fun vs H Q E h => ?_) (fun cdv A outer s H vs Q E hgd hr h => ?_)
  · obtain ⟨p, c, l, xs, n, rfl, hp, hn, hx, hlp, hlen, k⟩ := h
    rfl
  · obtain ⟨p, c, l, xs, n, rfl, hp, hn, hx, hlp, hlen, k⟩ := h
    have hu : _ + 64 < cLine := hr.units
    obtain ⟨_, hk_MOST_PARTS⟩ := T.k_MOST_PARTS
    have e10_12 : (10 : Int) ^ Int.toNat 12 = 1000000000000 := by decide
    have e10_20 : (10 : Int) ^ Int.toNat 20 = 100000000000000000000 := by decide
    have e10_25 : (10 : Int) ^ Int.toNat 25 = 10000000000000000000000000 := by decide
    have e10_30 : (10 : Int) ^ Int.toNat 30 = 1000000000000000000000000000000 := by decide
    have e10_40 : (10 : Int) ^ Int.toNat 40 = 10000000000000000000000000000000000000000 := by decide
    obtain ⟨_, hk_REACHES⟩ := T.k_REACHES
    obtain ⟨_, mrO⟩ := T.mr_Test
    obtain ⟨_, mmO⟩ := T.mm_Test
    obtain ⟨_, imO⟩ := T.im_Test
    obtain ⟨_, irO⟩ := T.ir_Test
    refine ⟨_, (pss_one (ps_ret (pe_ix ix_list (pv 1) (Ev.pe_c c_draw hgd hr (by decide) (by rfl) (pa_cons (pv 0) (pa_cons (pe_callB call_len_seq (by rfl) T.m_len (by decide +kernel) (pa_cons (pv 1) pa_nil)) pa_nil))) (fun _ _ => rfl)))), ?_⟩
    walk_at "ev rd"
    refine ⟨_, _, _, _, rfl, (by walk_at "ev pen"), (by omega), (by omega), (by omega), fun d H1 d0 d1 b1 p1 => ?_⟩
    have hd : d.toNat < xs.length := by omega
    refine ⟨_, _, _, _, rfl, rfl, SqL.of (b1 _ _ hx hlp), at_of (j := d.toNat) (by omega) (List.getElem?_eq_getElem hd), ?_⟩
    exact k _ _ (List.getElem_mem hd) b1 p1
end
end K04

namespace K04
open PySem L2

theorem sc_small : FnScope ["_law_pen_here", "_law_most_so"] ["_law_pen_here", "_law_most_so"] (C8.fnScope (top 21)) := C8.fnScope_by (by decide +kernel)
def spSmall : Sp := fun vs H Q _ => ∃ (p c : Addr) (m n : Int), vs = [.ref p, .int m] ∧ Ev.Pen H p c n ∧ n ≤ 90000 ∧ 0 ≤ m ∧ m ≤ 10000000000000 ∧
  ∀ (d : Int) (H' : Hp), -m ≤ d → d ≤ m → Ev.But p H H' → Ev.Pen H' p c (n + 1) → Q (.int d) H'
section
variable {P : Program} {w : World} {K : PySem.W.Frag} {mg : Str → Option Value} {base : Heap} {C : Addr}
theorem ok_small {f : Addr} {fd : FuncData} (F : Ev.Fn K "_law_small" "_law_small" (top 21) f fd) (T : Tx K mg C) (c_draw : Ev.GC P w K mg base 1 "_law_draw" spDraw []) : Ev.GOk P w K mg base (L2.CX P w) 2 f fd ["_law_pen_here", "_law_most_so"] spSmall := by
  refine Ev.gfn0 F sc_small (fun vs H Q E h => ?_) (fun cdv A outer s H vs Q E hgd hr h => ?_)
  · obtain ⟨p, c, m, n, rfl, hp, hn, m0, m1, k⟩ := h
    rfl
  · obtain ⟨p, c, m, n, rfl, hp, hn, m0, m1, k⟩ := h
    have hu : _ + 64 < cLine := hr.units
    obtain ⟨_, hk_MOST_PARTS⟩ := T.k_MOST_PARTS
    have e10_12 : (10 : Int) ^ Int.toNat 12 = 1000000000000 := by decide
    have e10_20 : (10 : Int) ^ Int.toNat 20 = 100000000000000000000 := by decide
    have e10_25 : (10 : Int) ^ Int.toNat 25 = 10000000000000000000000000 := by decide
    have e10_30 : (10 : Int) ^ Int.toNat 30 = 1000000000000000000000000000000 := by decide
    have e10_40 : (10 : Int) ^ Int.toNat 40 = 10000000000000000000000000000000000000000 := by decide
    obtain ⟨_, hk_REACHES⟩ := T.k_REACHES
    obtain ⟨_, mrO⟩ := T.mr_Test
    obtain ⟨_, mmO⟩ := T.mm_Test
    obtain ⟨_, imO⟩ := T.im_Test
    obtain ⟨_, irO⟩ := T.ir_Test
    refine ⟨_, (pss_one (ps_ret (pe_op op_sub (Ev.pe_c c_draw hgd hr (by decide) (by rfl) (pa_cons (pv 0) (pa_cons (pe_op op_add (pe_op op_mul pe_int (pv 1)) pe_int) pa_nil))) (pv 1)))), ?_⟩
    walk_at "ev rd"
    refine ⟨_, _, _, _, rfl, (by walk_at "ev pen"), (by omega), (by omega), (by omega), fun d H1 d0 d1 b1 p1 => ?_⟩
    walk_at "ev rd"
    exact k _ _ (by omega) (by omega) b1 p1
end
end K04

namespace K04
open PySem L2

theorem sc_number : FnScope ["_law_pen_here", "_law_near", "_law_far"] ["_law_pen_here"] (C8.fnScope (top 22)) := C8.fnScope_by (by decide +kernel)
def spNumber : Sp := fun vs H Q _ => ∃ (p c : Addr) (n : Int), vs = [.ref p] ∧ Ev.Pen H p c n ∧ n ≤ 80000 ∧
  ∀ (z : Int) (H' : Hp), z.natAbs < 1000000000000000000000000000000000000000000000 → Ev.But p H H' → Ev.Pen H' p c (n + 3) → Q (.int z) H'
section
variable {P : Program} {w : World} {K : PySem.W.Frag} {mg : Str → Option Value} {base : Heap} {C : Addr}
theorem ok_number {f : Addr} {fd : FuncData} (F : Ev.Fn K "_law_number" "_law_number" (top 22) f fd) (T : Tx K mg C) (c_small : Ev.GC P w K mg base 2 "_law_small" spSmall []) (c_pick : Ev.GC P w K mg base 2 "_law_pick" spPick []) : Ev.GOk P w K mg base (L2.CX P w) 3 f fd ["_law_pen_here"] spNumber := by
  refine Ev.gfn0 F sc_number (fun vs H Q E h => ?_) (fun cdv A outer s H vs Q E hgd hr h => ?_)
  · obtain ⟨p, c, n, rfl, hp, hn, k⟩ := h
    rfl
  · obtain ⟨p, c, n, rfl, hp, hn, k⟩ := h
    have hu : _ + 64 < cLine := hr.units
    obtain ⟨_, hk_MOST_PARTS⟩ := T.k_MOST_PARTS
    have e10_12 : (10 : Int) ^ Int.toNat 12 = 1000000000000 := by decide
    have e10_20 : (10 : Int) ^ Int.toNat 20 = 100000000000000000000 := by decide
    have e10_25 : (10 : Int) ^ Int.toNat 25 = 10000000000000000000000000 := by decide
    have e10_30 : (10 : Int) ^ Int.toNat 30 = 1000000000000000000000000000000 := by decide
    have e10_40 : (10 : Int) ^ Int.toNat 40 = 10000000000000000000000000000000000000000 := by decide
    obtain ⟨_, hk_REACHES⟩ := T.k_REACHES
    obtain ⟨_, mrO⟩ := T.mr_Test
    obtain ⟨_, mmO⟩ := T.mm_Test
    obtain ⟨_, imO⟩ := T.im_Test
    obtain ⟨_, irO⟩ := T.ir_Test
    refine ⟨_, (pss_cons (ps_set (i := 1) sc_number.nd rfl (.inl rfl) (Ev.pe_c c_small hgd hr (by decide) (by rfl) (pa_cons (pv 0) (pa_cons pe_int pa_nil))))
  (pss_cons (ps_set (i := 2) sc_number.nd rfl (.inl rfl) (Ev.pe_c c_small hgd hr (by decide) (by rfl) (pa_cons (pv 0) (pa_cons (pe_op op_pow pe_int pe_int) pa_nil))))
  (pss_one (ps_ret (Ev.pe_c c_pick hgd hr (by decide) (by rfl) (pa_cons (pv 0) (pa_cons (pe_lst (pa_cons (pv 1) (pa_cons (pv 1) (pa_cons pe_int (pa_cons pe_int (pa_cons (pe_un un_neg pe_int) (pa_cons (pv 2) (pa_cons (pe_op op_add (pe_op op_pow pe_int pe_int) (pv 1)) (pa_cons (pe_op op_sub (pv 1) (pe_op op_pow pe_int pe_int)) pa_nil))))))))) pa_nil))))))), ?_⟩
    walk_at "ev rd"
    refine ⟨_, _, _, _, rfl, (by walk_at "ev pen"), by omega, by omega, by omega, fun d1 H1 d10 d11 b1 p1 => ?_⟩
    walk_at "ev rd"
    refine ⟨_, _, _, _, rfl, (by walk_at "ev pen"), by omega, by omega, by omega, fun d2 H2 d20 d21 b2 p2 => ?_⟩
    rw [e10_12] at d20 d21
    walk_at "ev rd"
    rename_i l
    refine ⟨_, _, _, _, _, rfl, (by walk_at "ev pen"), by omega, (by walk_at "ev hl"), (by walk_at "ev ne"), ⟨by simp, by simp⟩, fun v H3 hv b3 p3 => ?_⟩
    have hv' : ∃ z : Int, v = .int z ∧ z.natAbs < 1000000000000000000000000000000000000000000000 := by
      simp only [e10_40, e10_25] at hv
      simp only [List.mem_cons, List.not_mem_nil, or_false] at hv
      rcases hv with rfl | rfl | rfl | rfl | rfl | rfl | rfl | rfl <;> refine ⟨_, rfl, ?_⟩ <;> omega
    obtain ⟨z, rfl, hz⟩ := hv'
    exact k z _ hz (((b1.trans b2).new (by assumption)).trans b3) (p3.mono (by omega))
end
end K04

namespace K04
open PySem L2

theorem sc_common : FnScope ["one", "other"] ["one", "other"] (C8.fnScope (top 12)) := C8.fnScope_by (by decide +kernel)
def spCommon : Sp := fun vs H Q _ => ∃ a b : Int, vs = [.int a, .int b] ∧ Q (.int (Nat.gcd a.natAbs b.natAbs : Nat)) H
section
variable {P : Program} {w : World} {K : PySem.W.Frag} {mg : Str → Option Value} {base : Heap} {C : Addr}
theorem ok_common {f : Addr} {fd : FuncData} (F : Ev.Fn K "common" "common" (top 12) f fd) (T : Tx K mg C) : Ev.GOk P w K mg base (L2.CX P w) 1 f fd ["one", "other"] spCommon := by
  refine Ev.gfn0 F sc_common (fun vs H Q E h => ?_) (fun cdv A outer s H vs Q E hgd hr h => ?_)
  · obtain ⟨a, b, rfl, k⟩ := h
    rfl
  · obtain ⟨a, b, rfl, k⟩ := h
    have hu : _ + 64 < cLine := hr.units
    obtain ⟨_, hk_MOST_PARTS⟩ := T.k_MOST_PARTS
    have e10_12 : (10 : Int) ^ Int.toNat 12 = 1000000000000 := by decide
    have e10_20 : (10 : Int) ^ Int.toNat 20 = 100000000000000000000 := by decide
    have e10_25 : (10 : Int) ^ Int.toNat 25 = 10000000000000000000000000 := by decide
    have e10_30 : (10 : Int) ^ Int.toNat 30 = 1000000000000000000000000000000 := by decide
    have e10_40 : (10 : Int) ^ Int.toNat 40 = 10000000000000000000000000000000000000000 := by decide
    obtain ⟨_, hk_REACHES⟩ := T.k_REACHES
    obtain ⟨_, mrO⟩ := T.mr_Test
    obtain ⟨_, mmO⟩ := T.mm_Test
    obtain ⟨_, imO⟩ := T.im_Test
    obtain ⟨_, irO⟩ := T.ir_Test
    refine ⟨_, (pss_cons (ps_par (i := 0) (j := 1) rfl sc_common.nd rfl rfl (by decide) rfl rfl (pa_cons (pe_callB call_abs (by rfl) T.m_abs (by decide +kernel) (pa_cons (pv 0) pa_nil)) (pa_cons (pe_callB call_abs (by rfl) T.m_abs (by decide +kernel) (pa_cons (pv 1) pa_nil)) pa_nil)) (by rfl))
  (pss_cons (ps_while PassesOwn.never (pt_cmpR op_gt (pv 1) pe_int (nomark _))
  (pss_one (ps_par (i := 0) (j := 1) rfl sc_common.nd rfl rfl (by decide) rfl rfl (pa_cons (pv 1) (pa_cons (pe_op op_mod (pv 0) (pv 1)) pa_nil)) (by rfl))))
  (pss_one (ps_ret (pv 0))))), ?_⟩
    walk_at "ev rd"
    rw [absN, absN]
    generalize hG : Nat.gcd a.natAbs b.natAbs = G at k
    generalize a.natAbs = x at hG
    generalize b.natAbs = y at hG
    refine while_by (fun σ H' => ∃ x y : Nat, σ = [some (.int x), some (.int y)] ∧ Nat.gcd x y = G ∧ H' = H) (fun σ _ => match σ with | _ :: some (.int z) :: _ => z.toNat | _ => 0) ⟨x, y, rfl, hG, rfl⟩ ?_ ?_
    · rintro σ H' ⟨x, y, rfl, hg, rfl⟩
      walk_at "ev rd"
      refine ite2 (fun h => ?_) (fun h => ?_)
      · have h' := of_decide_eq_true h
        walk_at "ev rd"
        refine ⟨⟨y, x % y, rfl, gcd_step.trans hg, rfl⟩, ?_⟩
        show (((x % y : Nat) : Int)).toNat < ((y : Int)).toNat
        have := Nat.mod_lt x (show 0 < y by omega)
        omega
      · have h' : ¬ ((y : Int) > 0) := by simpa using h
        have y0 : y = 0 := by omega
        subst y0
        rw [Nat.gcd_zero_right] at hg
        subst hg
        walk_at "ev rd"
        exact k
    · intro σ H' Q Q' hq hc
      obtain ⟨v, e, i, j, e1, e2, b, e3, q⟩ := hc
      exact ⟨v, e, i, j, e1, e2, b, e3, hq _ _ q⟩
end
end K04

namespace K04
open PySem L2

theorem sc_lcommon : FnScope ["_law_one", "_law_other", "_law_rest"] ["_law_one", "_law_other"] (C8.fnScope (top 23)) := C8.fnScope_by (by decide +kernel)
def spLcommon : Sp := fun vs H Q _ => ∃ a b : Int, vs = [.int a, .int b] ∧ Q (.int (Nat.gcd a.natAbs b.natAbs : Nat)) H
section
variable {P : Program} {w : World} {K : PySem.W.Frag} {mg : Str → Option Value} {base : Heap} {C : Addr}
theorem ok_lcommon {f : Addr} {fd : FuncData} (F : Ev.Fn K "_law_common" "_law_common" (top 23) f fd) (T : Tx K mg C) : Ev.GOk P w K mg base (L2.CX P w) 1 f fd ["_law_one", "_law_other"] spLcommon := by
  refine Ev.gfn0 F sc_lcommon (fun vs H Q E h => ?_) (fun cdv A outer s H vs Q E hgd hr h => ?_)
  · obtain ⟨a, b, rfl, k⟩ := h
    rfl
  · obtain ⟨a, b, rfl, k⟩ := h
    have hu : _ + 64 < cLine := hr.units
    obtain ⟨_, hk_MOST_PARTS⟩ := T.k_MOST_PARTS
    have e10_12 : (10 : Int) ^ Int.toNat 12 = 1000000000000 := by decide
    have e10_20 : (10 : Int) ^ Int.toNat 20 = 100000000000000000000 := by decide
    have e10_25 : (10 : Int) ^ Int.toNat 25 = 10000000000000000000000000 := by decide
    have e10_30 : (10 : Int) ^ Int.toNat 30 = 1000000000000000000000000000000 := by decide
    have e10_40 : (10 : Int) ^ Int.toNat 40 = 10000000000000000000000000000000000000000 := by decide
    obtain ⟨_, hk_REACHES⟩ := T.k_REACHES
    obtain ⟨_, mrO⟩ := T.mr_Test
    obtain ⟨_, mmO⟩ := T.mm_Test
    obtain ⟨_, imO⟩ := T.im_Test
    obtain ⟨_, irO⟩ := T.ir_Test
    refine ⟨_, (pss_cons (ps_par (i := 0) (j := 1) rfl sc_lcommon.nd rfl rfl (by decide) rfl rfl (pa_cons (pe_callB call_abs (by rfl) T.m_abs (by decide +kernel) (pa_cons (pv 0) pa_nil)) (pa_cons (pe_callB call_abs (by rfl) T.m_abs (by decide +kernel) (pa_cons (pv 1) pa_nil)) pa_nil)) (by rfl))
  (pss_cons (ps_while PassesOwn.never (pt_cmpR op_gt (pv 1) pe_int (nomark _))
  (pss_cons (ps_set (i := 2) sc_lcommon.nd rfl (.inl rfl) (pe_op op_mod (pe_callTy call_int1 (by rfl) T.m_int (by decide +kernel) (pa_cons (pv 0) pa_nil)) (pv 1)))
  (pss_one (ps_par (i := 0) (j := 1) rfl sc_lcommon.nd rfl rfl (by decide) rfl rfl (pa_cons (pv 1) (pa_cons (pv 2) pa_nil)) (by rfl)))))
  (pss_one (ps_ret (pv 0))))), ?_⟩
    walk_at "ev rd"
    rw [absN, absN]
    generalize hG : Nat.gcd a.natAbs b.natAbs = G at k
    generalize a.natAbs = x at hG
    generalize b.natAbs = y at hG
    refine while_by (fun σ H' => ∃ (x y : Nat) (v : Option V), σ = [some (.int x), some (.int y), v] ∧ Nat.gcd x y = G ∧ H' = H) (fun σ _ => match σ with | _ :: some (.int z) :: _ => z.toNat | _ => 0) ⟨x, y, _, rfl, hG, rfl⟩ ?_ ?_
    · rintro σ H' ⟨x, y, v, rfl, hg, rfl⟩
      walk_at "ev rd"
      refine ite2 (fun h => ?_) (fun h => ?_)
      · have h' := of_decide_eq_true h
        walk_at "ev rd"
        refine ⟨⟨y, x % y, _, rfl, gcd_step.trans hg, rfl⟩, ?_⟩
        show (((x % y : Nat) : Int)).toNat < ((y : Int)).toNat
        have := Nat.mod_lt x (show 0 < y by omega)
        omega
      · have h' : ¬ ((y : Int) > 0) := by simpa using h
        have y0 : y = 0 := by omega
        subst y0
        rw [Nat.gcd_zero_right] at hg
        subst hg
        walk_at "ev rd"
        exact k
    · intro σ H' Q Q' hq hc
      obtain ⟨v, e, i, j, e1, e2, b, e3, q⟩ := hc
      exact ⟨v, e, i, j, e1, e2, b, e3, hq _ _ q⟩
end
end K04

namespace K04
open PySem L2

theorem sc_isint : FnScope ["value"] ["value"] (C8.fnScope (top 7)) := C8.fnScope_by (by decide +kernel)
def spIsInt : Sp := fun vs H Q _ => ∃ i : Int, vs = [.int i] ∧ Q (.bl true) H
section
variable {P : Program} {w : World} {K : PySem.W.Frag} {mg : Str → Option Value} {base : Heap} {C : Addr}
theorem ok_isint {f : Addr} {fd : FuncData} (F : Ev.Fn K "is_integer" "is_integer" (top 7) f fd) (T : Tx K mg C) : Ev.GOk P w K mg base (L2.CX P w) 1 f fd ["value"] spIsInt := by
  refine Ev.gfn0 F sc_isint (fun vs H Q E h => ?_) (fun cdv A outer s H vs Q E hgd hr h => ?_)
  · obtain ⟨i, rfl, k⟩ := h
    rfl
  · obtain ⟨i, rfl, k⟩ := h
    have hu : _ + 64 < cLine := hr.units
    obtain ⟨_, hk_MOST_PARTS⟩ := T.k_MOST_PARTS
    have e10_12 : (10 : Int) ^ Int.toNat 12 = 1000000000000 := by decide
    have e10_20 : (10 : Int) ^ Int.toNat 20 = 100000000000000000000 := by decide
    have e10_25 : (10 : Int) ^ Int.toNat 25 = 10000000000000000000000000 := by decide
    have e10_30 : (10 : Int) ^ Int.toNat 30 = 1000000000000000000000000000000 := by decide
    have e10_40 : (10 : Int) ^ Int.toNat 40 = 10000000000000000000000000000000000000000 := by decide
    obtain ⟨_, hk_REACHES⟩ := T.k_REACHES
    obtain ⟨_, mrO⟩ := T.mr_Test
    obtain ⟨_, mmO⟩ := T.mm_Test
    obtain ⟨_, imO⟩ := T.im_Test
    obtain ⟨_, irO⟩ := T.ir_Test
    refine ⟨_, (pss_one (ps_ret (pe_and (pe_callB call_isi (by rfl) T.m_isinstance (by decide +kernel) (pa_cons (pv 0) (pa_cons (pe_bltn (v := .ty "int") (u := .type "int") (by rfl) T.m_int (by decide +kernel) rfl) pa_nil))) (pe_one (pe_not (pe_callB call_isi (by rfl) T.m_isinstance (by decide +kernel) (pa_cons (pv 0) (pa_cons (pe_bltn (v := .ty "bool") (u := .type "bool") (by rfl) T.m_bool (by decide +kernel) rfl) pa_nil)))))))), ?_⟩
    walk_at "ev rd"
    exact k
end
end K04

namespace K04
open PySem L2

theorem sc_init : FnScope ["self", "parts", "bound", "part"] ["self", "parts", "bound"] (C8.fnScope (inClass (top 16) 0)) := C8.fnScope_by (by decide +kernel)
def spInit (K : PySem.W.Frag) (C : Addr) : Sp := fun vs H Q _ => ∃ (x dx q : Addr) (ps : List Int) (b : Int), vs = [.ref x, .ref q, .int b] ∧ H x = some (.ins C dx []) ∧ Sq K H q ps ∧ (1 ≤ ps.length ∧ ps.length ≤ 5) ∧
  ∀ H', Ev.But x H H' → Ts K C H' x ps b → Q .non H'
section
variable {P : Program} {w : World} {K : PySem.W.Frag} {mg : Str → Option Value} {base : Heap} {C : Addr}
theorem ok_init {f : Addr} {fd : FuncData} (F : Ev.Fn K "__init__" "Test.__init__" (inClass (top 16) 0) f fd) (T : Tx K mg C) (c_isint : Ev.GC P w K mg base 1 "is_integer" spIsInt []) : Ev.GOk P w K mg base (L2.CX P w) 2 f fd ["self", "parts", "bound"] (spInit K C) := by
  refine Ev.gfn0 F sc_init (fun vs H Q E h => ?_) (fun cdv A outer s H vs Q E hgd hr h => ?_)
  · obtain ⟨x, dx, q, ps, b, rfl, hx, hq, hl, k⟩ := h
    rfl
  · obtain ⟨x, dx, q, ps, b, rfl, hx, hq, hl, k⟩ := h
    have hu : _ + 64 < cLine := hr.units
    obtain ⟨_, hk_MOST_PARTS⟩ := T.k_MOST_PARTS
    have e10_12 : (10 : Int) ^ Int.toNat 12 = 1000000000000 := by decide
    have e10_20 : (10 : Int) ^ Int.toNat 20 = 100000000000000000000 := by decide
    have e10_25 : (10 : Int) ^ Int.toNat 25 = 10000000000000000000000000 := by decide
    have e10_30 : (10 : Int) ^ Int.toNat 30 = 1000000000000000000000000000000 := by decide
    have e10_40 : (10 : Int) ^ Int.toNat 40 = 10000000000000000000000000000000000000000 := by decide
    obtain ⟨_, hk_REACHES⟩ := T.k_REACHES
    obtain ⟨_, mrO⟩ := T.mr_Test
    obtain ⟨_, mmO⟩ := T.mm_Test
    obtain ⟨_, imO⟩ := T.im_Test
    obtain ⟨_, irO⟩ := T.ir_Test
    rcases hq with hq | hq
    · refine ⟨_, (pss_cons (ps_if (pw_or (pt_not (pt_val (pe_callB call_isiT (by rfl) T.m_isinstance (by decide +kernel) (pa_cons (pv 1) (pa_cons (pe_tup (pa_cons (pe_bltn (v := .ty "list") (u := .type "list") (by rfl) T.m_list (by decide +kernel) rfl) (pa_cons (pe_bltn (v := .ty "tuple") (u := .type "tuple") (by rfl) T.m_tuple (by decide +kernel) rfl) pa_nil))) pa_nil))))) (pw_or1 (pt_not (pt_chain op_le op_le pe_int (pe_callB call_len_seq (by rfl) T.m_len (by decide +kernel) (pa_cons (pv 1) pa_nil)) (pe_glob (by rfl) hk_MOST_PARTS Ev.rel_int))))).pt
  pss_never
  pss_nil)
  (pss_cons (ps_if (pt_not (pt_val (pe_callB (cr_all rfl) (by rfl) T.m_all (by decide +kernel) (pa_cons (pe_lc (own := [("part", 3)]) rfl sc_init.nd (pi_list (pv 1)) (blkOk_by (N := ["self", "parts", "bound", "part"]) (sc := (C8.fnScope (inClass (top 16) 0))) (by decide +kernel)) (fun _ _ _ _ _ => (pg_name (i := 3) sc_init.nd rfl (.inl rfl))) (fun _ _ _ _ _ => pts_nil) (fun _ _ _ _ _ => (Ev.pe_c c_isint hgd hr (by decide) (by rfl) (pa_cons (pv 3) pa_nil)))) pa_nil))))
  pss_never
  pss_nil)
  (pss_cons (ps_if (pt_not (pt_val (Ev.pe_c c_isint hgd hr (by decide) (by rfl) (pa_cons (pv 2) pa_nil))))
  pss_never
  pss_nil)
  (pss_cons (ps_fld (pv 0) (pe_callTy call_tuple_of (by rfl) T.m_tuple (by decide +kernel) (pa_cons (pv 1) pa_nil)) rfl)
  (pss_one (ps_fld (pv 0) (pv 2) rfl)))))), ?_⟩
      have hq1 := fun H1 (s : Same H H1) => Same.seq s hq
      walk_at "ev rd"
      refine ⟨_, _, _, _, _, _, rfl, (by walk_at "ev hl"), .cons (.ty _) (.cons (.ty _) .nil), Ev.sql_ty (hq1 _ (by intro b o h; walk_at "ev hl")), Ev.kit_any2 (kit_ty rfl) (kit_ty rfl), ?_⟩
      walk_at "ev rd"
      refine ⟨_, _, rfl, Or.inl (hq1 _ (by intro b o h; walk_at "ev hl")), ?_⟩
      walk_at "ev rd"
      rw [List.length_map]
      rw [decide_eq_true (show (1 : Int) ≤ (ps.length : Int) by omega)]
      walk_at "ev rd"
      rw [decide_eq_true (show (ps.length : Int) ≤ 5 by omega)]
      walk_at "ev rd"
      refine ⟨⟨_, hq1 _ (by intro b o h; walk_at "ev hl")⟩, fun D hD => Ev.lcL (f := fun _ => some (.bl true)) (hq1 _ (by intro b o h; walk_at "ev hl")) hD (by simp; omega) (fun i z H1 R N hi hS hR hN => ?_) (fun H1 hS h1 => ?_)⟩
      · obtain ⟨n, _, rfl, _⟩ := Ev.map_int hi
        refine ⟨rfl, ?_⟩
        walk_at "ev rd"
        exact hR _ _ rfl (Same.refl _)
      · rw [Ev.outs_all] at h1
        have s1 : Same H H1 := fun b o h => hS _ _ (by walk_at "ev hl")
        have hx1 := s1 _ _ hx
        refine ⟨D, _, rfl, SqL.of h1, ?_⟩
        rw [Ev.all_rep]
        walk_at "ev rd"
        refine ⟨_, _, rfl, Or.inl ⟨hq1 _ s1, fun l nl => ?_⟩⟩
        walk_at "ev rd"
        exact k _ ((((Ev.Same.but s1 x).new nl).set).set) ⟨dx, l, upd_same, SqT.of (by rw [upd_ne (ne_of_none hx1 nl).symm, upd_ne (ne_of_none hx1 nl).symm, upd_same])⟩
    · refine ⟨_, (pss_cons (ps_if (pw_or (pt_not (pt_val (pe_callB call_isiT (by rfl) T.m_isinstance (by decide +kernel) (pa_cons (pv 1) (pa_cons (pe_tup (pa_cons (pe_bltn (v := .ty "list") (u := .type "list") (by rfl) T.m_list (by decide +kernel) rfl) (pa_cons (pe_bltn (v := .ty "tuple") (u := .type "tuple") (by rfl) T.m_tuple (by decide +kernel) rfl) pa_nil))) pa_nil))))) (pw_or1 (pt_not (pt_chain op_le op_le pe_int (pe_callB call_len_seq (by rfl) T.m_len (by decide +kernel) (pa_cons (pv 1) pa_nil)) (pe_glob (by rfl) hk_MOST_PARTS Ev.rel_int))))).pt
  pss_never
  pss_nil)
  (pss_cons (ps_if (pt_not (pt_val (pe_callB (cr_all rfl) (by rfl) T.m_all (by decide +kernel) (pa_cons (pe_lc (own := [("part", 3)]) rfl sc_init.nd (pi_tup (pv 1)) (blkOk_by (N := ["self", "parts", "bound", "part"]) (sc := (C8.fnScope (inClass (top 16) 0))) (by decide +kernel)) (fun _ _ _ _ _ => (pg_name (i := 3) sc_init.nd rfl (.inl rfl))) (fun _ _ _ _ _ => pts_nil) (fun _ _ _ _ _ => (Ev.pe_c c_isint hgd hr (by decide) (by rfl) (pa_cons (pv 3) pa_nil)))) pa_nil))))
  pss_never
  pss_nil)
  (pss_cons (ps_if (pt_not (pt_val (Ev.pe_c c_isint hgd hr (by decide) (by rfl) (pa_cons (pv 2) pa_nil))))
  pss_never
  pss_nil)
  (pss_cons (ps_fld (pv 0) (pe_callTy call_tuple_of (by rfl) T.m_tuple (by decide +kernel) (pa_cons (pv 1) pa_nil)) rfl)
  (pss_one (ps_fld (pv 0) (pv 2) rfl)))))), ?_⟩
      have hq1 := fun H1 (s : Same H H1) => Ev.Same.seqT s hq
      walk_at "ev rd"
      refine ⟨_, _, _, _, _, _, rfl, (by walk_at "ev hl"), .cons (.ty _) (.cons (.ty _) .nil), Ev.sqt_ty (hq1 _ (by intro b o h; walk_at "ev hl")), Ev.kit_any2 (kit_ty rfl) (kit_ty rfl), ?_⟩
      walk_at "ev rd"
      refine ⟨_, _, rfl, Or.inr (hq1 _ (by intro b o h; walk_at "ev hl")), ?_⟩
      walk_at "ev rd"
      rw [List.length_map]
      rw [decide_eq_true (show (1 : Int) ≤ (ps.length : Int) by omega)]
      walk_at "ev rd"
      rw [decide_eq_true (show (ps.length : Int) ≤ 5 by omega)]
      walk_at "ev rd"
      refine ⟨⟨_, hq1 _ (by intro b o h; walk_at "ev hl")⟩, fun D hD => Ev.lcT (f := fun _ => some (.bl true)) (hq1 _ (by intro b o h; walk_at "ev hl")) hD (by simp; omega) (fun i z H1 R N hi hS hR hN => ?_) (fun H1 hS h1 => ?_)⟩
      · obtain ⟨n, _, rfl, _⟩ := Ev.map_int hi
        refine ⟨rfl, ?_⟩
        walk_at "ev rd"
        exact hR _ _ rfl (Same.refl _)
      · rw [Ev.outs_all] at h1
        have s1 : Same H H1 := fun b o h => hS _ _ (by walk_at "ev hl")
        have hx1 := s1 _ _ hx
        refine ⟨D, _, rfl, SqL.of h1, ?_⟩
        rw [Ev.all_rep]
        walk_at "ev rd"
        refine ⟨_, _, rfl, Or.inr ⟨hq1 _ s1, ?_⟩⟩
        walk_at "ev rd"
        exact k _ (((Ev.Same.but s1 x).set).set) ⟨dx, q, upd_same, Ev.SqT.ins (Ev.SqT.ins (hq1 _ s1) hx1) upd_same⟩
end
end K04

namespace K04
open PySem L2

theorem sc_amount : FnScope ["self", "numbers", "number", "part"] ["self", "numbers"] (C8.fnScope (inClass (top 16) 2)) := C8.fnScope_by (by decide +kernel)
def spAmount (K : PySem.W.Frag) (C : Addr) : Sp := fun vs H Q _ => ∃ (x q : Addr) (ps qs : List Int) (b : Int), vs = [.ref x, .ref q] ∧ Ts K C H x ps b ∧ Sq K H q qs ∧ ((∀ z ∈ ps, Ev.Lit z) ∧ (∀ z ∈ qs, Ev.Lit z) ∧ ps.length = qs.length ∧ ps.length ≤ 5) ∧
  ∀ H', Same H H' → Q (.int (Ev.dot ps qs)) H'
section
variable {P : Program} {w : World} {K : PySem.W.Frag} {mg : Str → Option Value} {base : Heap} {C : Addr}
theorem ok_amount {f : Addr} {fd : FuncData} (F : Ev.Fn K "amount" "Test.amount" (inClass (top 16) 2) f fd) (T : Tx K mg C) (c_isint : Ev.GC P w K mg base 1 "is_integer" spIsInt []) : Ev.GOk P w K mg base (L2.CX P w) 2 f fd ["self", "numbers"] (spAmount K C) := by
  refine Ev.gfn0 F sc_amount (fun vs H Q E h => ?_) (fun cdv A outer s H vs Q E hgd hr h => ?_)
  · obtain ⟨x, q, ps, qs, b, rfl, ⟨dx, t, hx, ht⟩, hq, ⟨lp, lq, hl, h5⟩, k⟩ := h
    rfl
  · obtain ⟨x, q, ps, qs, b, rfl, ⟨dx, t, hx, ht⟩, hq, ⟨lp, lq, hl, h5⟩, k⟩ := h
    have hu : _ + 64 < cLine := hr.units
    obtain ⟨_, hk_MOST_PARTS⟩ := T.k_MOST_PARTS
    have e10_12 : (10 : Int) ^ Int.toNat 12 = 1000000000000 := by decide
    have e10_20 : (10 : Int) ^ Int.toNat 20 = 100000000000000000000 := by decide
    have e10_25 : (10 : Int) ^ Int.toNat 25 = 10000000000000000000000000 := by decide
    have e10_30 : (10 : Int) ^ Int.toNat 30 = 1000000000000000000000000000000 := by decide
    have e10_40 : (10 : Int) ^ Int.toNat 40 = 10000000000000000000000000000000000000000 := by decide
    obtain ⟨_, hk_REACHES⟩ := T.k_REACHES
    obtain ⟨_, mrO⟩ := T.mr_Test
    obtain ⟨_, mmO⟩ := T.mm_Test
    obtain ⟨_, imO⟩ := T.im_Test
    obtain ⟨_, irO⟩ := T.ir_Test
    rcases hq with hq | hq
    · refine ⟨_, (pss_cons (ps_if (pw_or (pt_not (pt_val (pe_callB call_isiT (by rfl) T.m_isinstance (by decide +kernel) (pa_cons (pv 1) (pa_cons (pe_tup (pa_cons (pe_bltn (v := .ty "list") (u := .type "list") (by rfl) T.m_list (by decide +kernel) rfl) (pa_cons (pe_bltn (v := .ty "tuple") (u := .type "tuple") (by rfl) T.m_tuple (by decide +kernel) rfl) pa_nil))) pa_nil))))) (pw_or1 (pt_cmpR op_ne (pe_callB call_len_seq (by rfl) T.m_len (by decide +kernel) (pa_cons (pv 1) pa_nil)) (pe_callB call_len_seq (by rfl) T.m_len (by decide +kernel) (pa_cons (pe_fld (pv 0) rfl) pa_nil)) (nomark _)))).pt
  pss_never
  pss_nil)
  (pss_cons (ps_if (pt_not (pt_val (pe_callB (cr_all rfl) (by rfl) T.m_all (by decide +kernel) (pa_cons (pe_lc (own := [("number", 2)]) rfl sc_amount.nd (pi_list (pv 1)) (blkOk_by (N := ["self", "numbers", "number", "part"]) (sc := (C8.fnScope (inClass (top 16) 2))) (by decide +kernel)) (fun _ _ _ _ _ => (pg_name (i := 2) sc_amount.nd rfl (.inl rfl))) (fun _ _ _ _ _ => pts_nil) (fun _ _ _ _ _ => (Ev.pe_c c_isint hgd hr (by decide) (by rfl) (pa_cons (pv 2) pa_nil)))) pa_nil))))
  pss_never
  pss_nil)
  (pss_one (ps_ret (pe_callB (cr_sum rfl) (by rfl) T.m_sum (by decide +kernel) (pa_cons (pe_lc (own := [("part", 3), ("number", 2)]) (g := gTup K 2 (gCons (gName 3) (gCons (gName 2) gNil))) rfl sc_amount.nd (Ev.pi_zipB false true (by rfl) T.m_zip (pa_cons (pe_fld (pv 0) rfl) (pa_cons (pv 1) pa_nil))) (blkOk_by (N := ["self", "numbers", "number", "part"]) (sc := (C8.fnScope (inClass (top 16) 2))) (by decide +kernel)) (fun _ _ _ _ _ => (by exact (pg_tup rfl (pgs_cons (pg_name (i := 3) sc_amount.nd rfl (.inl rfl)) (pgs_cons (pg_name (i := 2) sc_amount.nd rfl (.inl rfl)) pgs_nil))))) (fun _ _ _ _ _ => pts_nil) (fun _ _ _ _ _ => (pe_op op_mulW (pv 3) (pv 2)))) pa_nil)))))), ?_⟩
      have hq1 := fun H1 (s : Same H H1) => Same.seq s hq
      have ht1 := fun H1 (s : Same H H1) => Ev.Same.seqT s ht
      walk_at "ev rd"
      refine ⟨_, _, _, _, _, _, rfl, (by walk_at "ev hl"), .cons (.ty _) (.cons (.ty _) .nil), Ev.sql_ty (hq1 _ (by intro b o h; walk_at "ev hl")), Ev.kit_any2 (kit_ty rfl) (kit_ty rfl), ?_⟩
      walk_at "ev rd"
      refine ⟨_, _, rfl, Or.inl (hq1 _ (by intro b o h; walk_at "ev hl")), ?_⟩
      walk_at "ev rd"
      refine ⟨_, _, rfl, Or.inr (ht1 _ (by intro b o h; walk_at "ev hl")), ?_⟩
      walk_at "ev rd"
      rw [List.length_map, List.length_map]
      rw [hl, Ev.neSelf]
      walk_at "ev rd"
      refine ⟨⟨_, hq1 _ (by intro b o h; walk_at "ev hl")⟩, fun D hD => Ev.lcL (f := fun _ => some (.bl true)) (hq1 _ (by intro b o h; walk_at "ev hl")) hD (by simp; omega) (fun i z H1 R N hi hS hR hN => ?_) (fun H1 hS h1 => ?_)⟩
      · obtain ⟨n, _, rfl, _⟩ := Ev.map_int hi
        refine ⟨rfl, ?_⟩
        walk_at "ev rd"
        exact hR _ _ rfl (Same.refl _)
      · rw [Ev.outs_all] at h1
        have s1 : Same H H1 := fun b o h => hS _ _ (by walk_at "ev hl")
        have hx1 := s1 _ _ hx
        refine ⟨D, _, rfl, SqL.of h1, ?_⟩
        rw [Ev.all_rep]
        walk_at "ev rd"
        refine ⟨_, _, _, _, rfl, ht1 _ s1, hq1 _ s1, fun D2 hD2 => Ev.lcZ (f := fun i => ((List.zipWith (· * ·) ps qs)[i]?).map V.int) hD2 (by simp; omega) (by simp [hl]) (ht1 _ s1) (hq1 _ s1) (fun i z z2 T2 H2 R N hi hi2 hS2 hT hR hN => ?_) (fun H2 hS2 h2 => ?_)⟩
        · obtain ⟨u, e1, rfl, m1⟩ := Ev.map_int hi
          obtain ⟨v, e2, rfl, m2⟩ := Ev.map_int hi2
          refine ⟨_, _, rfl, SqT.of hT, rfl, ?_⟩
          refine ⟨_, _, rfl, _, _, rfl, rfl, rfl, ?_⟩
          walk_at "ev rd"
          refine ⟨Ev.Lit.mul (lp _ m1) (lq _ m2), ?_⟩
          exact hR _ _ (by rw [List.getElem?_zipWith, e1, e2]; rfl) (Same.refl _)
        · have e3 : (List.map V.int ps).length = (List.zipWith (· * ·) ps qs).length := by simp [hl]
          rw [e3, Ev.outs_gen] at h2
          refine ⟨D2, _, rfl, SqL.of h2, ?_⟩
          rw [Ev.dot_sum]
          exact k _ (s1.trans hS2)
    · refine ⟨_, (pss_cons (ps_if (pw_or (pt_not (pt_val (pe_callB call_isiT (by rfl) T.m_isinstance (by decide +kernel) (pa_cons (pv 1) (pa_cons (pe_tup (pa_cons (pe_bltn (v := .ty "list") (u := .type "list") (by rfl) T.m_list (by decide +kernel) rfl) (pa_cons (pe_bltn (v := .ty "tuple") (u := .type "tuple") (by rfl) T.m_tuple (by decide +kernel) rfl) pa_nil))) pa_nil))))) (pw_or1 (pt_cmpR op_ne (pe_callB call_len_seq (by rfl) T.m_len (by decide +kernel) (pa_cons (pv 1) pa_nil)) (pe_callB call_len_seq (by rfl) T.m_len (by decide +kernel) (pa_cons (pe_fld (pv 0) rfl) pa_nil)) (nomark _)))).pt
  pss_never
  pss_nil)
  (pss_cons (ps_if (pt_not (pt_val (pe_callB (cr_all rfl) (by rfl) T.m_all (by decide +kernel) (pa_cons (pe_lc (own := [("number", 2)]) rfl sc_amount.nd (pi_tup (pv 1)) (blkOk_by (N := ["self", "numbers", "number", "part"]) (sc := (C8.fnScope (inClass (top 16) 2))) (by decide +kernel)) (fun _ _ _ _ _ => (pg_name (i := 2) sc_amount.nd rfl (.inl rfl))) (fun _ _ _ _ _ => pts_nil) (fun _ _ _ _ _ => (Ev.pe_c c_isint hgd hr (by decide) (by rfl) (pa_cons (pv 2) pa_nil)))) pa_nil))))
  pss_never
  pss_nil)
  (pss_one (ps_ret (pe_callB (cr_sum rfl) (by rfl) T.m_sum (by decide +kernel) (pa_cons (pe_lc (own := [("part", 3), ("number", 2)]) (g := gTup K 2 (gCons (gName 3) (gCons (gName 2) gNil))) rfl sc_amount.nd (Ev.pi_zipB false false (by rfl) T.m_zip (pa_cons (pe_fld (pv 0) rfl) (pa_cons (pv 1) pa_nil))) (blkOk_by (N := ["self", "numbers", "number", "part"]) (sc := (C8.fnScope (inClass (top 16) 2))) (by decide +kernel)) (fun _ _ _ _ _ => (by exact (pg_tup rfl (pgs_cons (pg_name (i := 3) sc_amount.nd rfl (.inl rfl)) (pgs_cons (pg_name (i := 2) sc_amount.nd rfl (.inl rfl)) pgs_nil))))) (fun _ _ _ _ _ => pts_nil) (fun _ _ _ _ _ => (pe_op op_mulW (pv 3) (pv 2)))) pa_nil)))))), ?_⟩
      have hq1 := fun H1 (s : Same H H1) => Ev.Same.seqT s hq
      have ht1 := fun H1 (s : Same H H1) => Ev.Same.seqT s ht
      walk_at "ev rd"
      refine ⟨_, _, _, _, _, _, rfl, (by walk_at "ev hl"), .cons (.ty _) (.cons (.ty _) .nil), Ev.sqt_ty (hq1 _ (by intro b o h; walk_at "ev hl")), Ev.kit_any2 (kit_ty rfl) (kit_ty rfl), ?_⟩
      walk_at "ev rd"
      refine ⟨_, _, rfl, Or.inr (hq1 _ (by intro b o h; walk_at "ev hl")), ?_⟩
      walk_at "ev rd"
      refine ⟨_, _, rfl, Or.inr (ht1 _ (by intro b o h; walk_at "ev hl")), ?_⟩
      walk_at "ev rd"
      rw [List.length_map, List.length_map]
      rw [hl, Ev.neSelf]
      walk_at "ev rd"
      refine ⟨⟨_, hq1 _ (by intro b o h; walk_at "ev hl")⟩, fun D hD => Ev.lcT (f := fun _ => some (.bl true)) (hq1 _ (by intro b o h; walk_at "ev hl")) hD (by simp; omega) (fun i z H1 R N hi hS hR hN => ?_) (fun H1 hS h1 => ?_)⟩
      · obtain ⟨n, _, rfl, _⟩ := Ev.map_int hi
        refine ⟨rfl, ?_⟩
        walk_at "ev rd"
        exact hR _ _ rfl (Same.refl _)
      · rw [Ev.outs_all] at h1
        have s1 : Same H H1 := fun b o h => hS _ _ (by walk_at "ev hl")
        have hx1 := s1 _ _ hx
        refine ⟨D, _, rfl, SqL.of h1, ?_⟩
        rw [Ev.all_rep]
        walk_at "ev rd"
        refine ⟨_, _, _, _, rfl, ht1 _ s1, hq1 _ s1, fun D2 hD2 => Ev.lcZ (f := fun i => ((List.zipWith (· * ·) ps qs)[i]?).map V.int) hD2 (by simp; omega) (by simp [hl]) (ht1 _ s1) (hq1 _ s1) (fun i z z2 T2 H2 R N hi hi2 hS2 hT hR hN => ?_) (fun H2 hS2 h2 => ?_)⟩
        · obtain ⟨u, e1, rfl, m1⟩ := Ev.map_int hi
          obtain ⟨v, e2, rfl, m2⟩ := Ev.map_int hi2
          refine ⟨_, _, rfl, SqT.of hT, rfl, ?_⟩
          refine ⟨_, _, rfl, _, _, rfl, rfl, rfl, ?_⟩
          walk_at "ev rd"
          refine ⟨Ev.Lit.mul (lp _ m1) (lq _ m2), ?_⟩
          exact hR _ _ (by rw [List.getElem?_zipWith, e1, e2]; rfl) (Same.refl _)
        · have e3 : (List.map V.int ps).length = (List.zipWith (· * ·) ps qs).length := by simp [hl]
          rw [e3, Ev.outs_gen] at h2
          refine ⟨D2, _, rfl, SqL.of h2, ?_⟩
          rw [Ev.dot_sum]
          exact k _ (s1.trans hS2)
end
end K04

namespace K04
open PySem L2

theorem sc_tcall : FnScope ["self", "numbers"] ["self", "numbers"] (C8.fnScope (inClass (top 16) 4)) := C8.fnScope_by (by decide +kernel)
def spTcall (K : PySem.W.Frag) (C : Addr) : Sp := fun vs H Q _ => ∃ (x q : Addr) (ps qs : List Int) (b : Int), vs = [.ref x, .ref q] ∧ Ts K C H x ps b ∧ Sq K H q qs ∧ ((∀ z ∈ ps, Ev.Lit z) ∧ (∀ z ∈ qs, Ev.Lit z) ∧ ps.length = qs.length ∧ ps.length ≤ 5) ∧
  ∀ H', Same H H' → Q (.bl (decide (b ≤ Ev.dot ps qs))) H'
section
variable {P : Program} {w : World} {K : PySem.W.Frag} {mg : Str → Option Value} {base : Heap} {C : Addr}
theorem ok_tcall {f : Addr} {fd : FuncData} (F : Ev.Fn K "__call__" "Test.__call__" (inClass (top 16) 4) f fd) (T : Tx K mg C) (c_amount : Ev.GM P w K mg base 2 C "amount" (spAmount K C) []) : Ev.GOk P w K mg base (L2.CX P w) 3 f fd ["self", "numbers"] (spTcall K C) := by
  refine Ev.gfn0 F sc_tcall (fun vs H Q E h => ?_) (fun cdv A outer s H vs Q E hgd hr h => ?_)
  · obtain ⟨x, q, ps, qs, b, rfl, ⟨dx, t, hx, ht⟩, hq, ha, k⟩ := h
    rfl
  · obtain ⟨x, q, ps, qs, b, rfl, ⟨dx, t, hx, ht⟩, hq, ha, k⟩ := h
    have hu : _ + 64 < cLine := hr.units
    obtain ⟨_, hk_MOST_PARTS⟩ := T.k_MOST_PARTS
    have e10_12 : (10 : Int) ^ Int.toNat 12 = 1000000000000 := by decide
    have e10_20 : (10 : Int) ^ Int.toNat 20 = 100000000000000000000 := by decide
    have e10_25 : (10 : Int) ^ Int.toNat 25 = 10000000000000000000000000 := by decide
    have e10_30 : (10 : Int) ^ Int.toNat 30 = 1000000000000000000000000000000 := by decide
    have e10_40 : (10 : Int) ^ Int.toNat 40 = 10000000000000000000000000000000000000000 := by decide
    obtain ⟨_, hk_REACHES⟩ := T.k_REACHES
    obtain ⟨_, mrO⟩ := T.mr_Test
    obtain ⟨_, mmO⟩ := T.mm_Test
    obtain ⟨_, imO⟩ := T.im_Test
    obtain ⟨_, irO⟩ := T.ir_Test
    refine ⟨_, (pss_one (ps_ret (pe_cmpR op_ge (Ev.pe_m c_amount hgd hr (by decide) (pv 0) (pa_cons (pv 1) pa_nil)) (pe_fld (pv 0) rfl) (nomark _)))), ?_⟩
    walk_at "ev rd"
    refine ⟨x, q, ps, qs, b, rfl, ⟨dx, t, hx, ht⟩, hq, ha, fun H1 s1 => ?_⟩
    have hx1 := s1 _ _ hx
    walk_at "ev rd"
    exact k _ s1
end
end K04

namespace K04
open PySem L2

theorem sc_tlen : FnScope ["self"] ["self"] (C8.fnScope (inClass (top 16) 5)) := C8.fnScope_by (by decide +kernel)
def spTlen (K : PySem.W.Frag) (C : Addr) : Sp := fun vs H Q _ => ∃ (x : Addr) (ps : List Int) (b : Int), vs = [.ref x] ∧ Ts K C H x ps b ∧ Q (.int ps.length) H
section
variable {P : Program} {w : World} {K : PySem.W.Frag} {mg : Str → Option Value} {base : Heap} {C : Addr}
theorem ok_tlen {f : Addr} {fd : FuncData} (F : Ev.Fn K "__len__" "Test.__len__" (inClass (top 16) 5) f fd) (T : Tx K mg C) : Ev.GOk P w K mg base (L2.CX P w) 1 f fd ["self"] (spTlen K C) := by
  refine Ev.gfn0 F sc_tlen (fun vs H Q E h => ?_) (fun cdv A outer s H vs Q E hgd hr h => ?_)
  · obtain ⟨x, ps, b, rfl, ⟨dx, t, hx, ht⟩, k⟩ := h
    rfl
  · obtain ⟨x, ps, b, rfl, ⟨dx, t, hx, ht⟩, k⟩ := h
    have hu : _ + 64 < cLine := hr.units
    obtain ⟨_, hk_MOST_PARTS⟩ := T.k_MOST_PARTS
    have e10_12 : (10 : Int) ^ Int.toNat 12 = 1000000000000 := by decide
    have e10_20 : (10 : Int) ^ Int.toNat 20 = 100000000000000000000 := by decide
    have e10_25 : (10 : Int) ^ Int.toNat 25 = 10000000000000000000000000 := by decide
    have e10_30 : (10 : Int) ^ Int.toNat 30 = 1000000000000000000000000000000 := by decide
    have e10_40 : (10 : Int) ^ Int.toNat 40 = 10000000000000000000000000000000000000000 := by decide
    obtain ⟨_, hk_REACHES⟩ := T.k_REACHES
    obtain ⟨_, mrO⟩ := T.mr_Test
    obtain ⟨_, mmO⟩ := T.mm_Test
    obtain ⟨_, imO⟩ := T.im_Test
    obtain ⟨_, irO⟩ := T.ir_Test
    refine ⟨_, (pss_one (ps_ret (pe_callB call_len_seq (by rfl) T.m_len (by decide +kernel) (pa_cons (pe_fld (pv 0) rfl) pa_nil)))), ?_⟩
    walk_at "ev rd"
    refine ⟨_, _, rfl, Or.inr ht, ?_⟩
    rw [List.length_map]
    exact k
end
end K04

namespace K04
open PySem L2

theorem sc_teq : FnScope ["self", "other"] ["self", "other"] (C8.fnScope (inClass (top 16) 11)) := C8.fnScope_by (by decide +kernel)
def spTeq (K : PySem.W.Frag) (C : Addr) : Sp := fun vs H Q _ => ∃ (x : Addr) (y : V) (ps : List Int) (b : Int), vs = [.ref x, y] ∧ Ts K C H x ps b ∧
  ((∃ (z : Addr) (qs : List Int) (c : Int), y = .ref z ∧ Ts K C H z qs c ∧ Q (.bl (decide (ps = qs) && decide (b = c))) H) ∨ (Ev.Bi K H y ∧ Q (.bl false) H))
section
variable {P : Program} {w : World} {K : PySem.W.Frag} {mg : Str → Option Value} {base : Heap} {C : Addr}
theorem ok_teq {f : Addr} {fd : FuncData} (F : Ev.Fn K "__eq__" "Test.__eq__" (inClass (top 16) 11) f fd) (T : Tx K mg C) : Ev.GOk P w K mg base (L2.CX P w) 1 f fd ["self", "other"] (spTeq K C) := by
  refine Ev.gfn0 F sc_teq (fun vs H Q E h => ?_) (fun cdv A outer s H vs Q E hgd hr h => ?_)
  · obtain ⟨x, y, ps, b, rfl, ⟨dx, t, hx, ht⟩, hy⟩ := h
    rfl
  · obtain ⟨x, y, ps, b, rfl, ⟨dx, t, hx, ht⟩, hy⟩ := h
    have hu : _ + 64 < cLine := hr.units
    obtain ⟨_, hk_MOST_PARTS⟩ := T.k_MOST_PARTS
    have e10_12 : (10 : Int) ^ Int.toNat 12 = 1000000000000 := by decide
    have e10_20 : (10 : Int) ^ Int.toNat 20 = 100000000000000000000 := by decide
    have e10_25 : (10 : Int) ^ Int.toNat 25 = 10000000000000000000000000 := by decide
    have e10_30 : (10 : Int) ^ Int.toNat 30 = 1000000000000000000000000000000 := by decide
    have e10_40 : (10 : Int) ^ Int.toNat 40 = 10000000000000000000000000000000000000000 := by decide
    obtain ⟨_, hk_REACHES⟩ := T.k_REACHES
    obtain ⟨_, mrO⟩ := T.mr_Test
    obtain ⟨_, mmO⟩ := T.mm_Test
    obtain ⟨_, imO⟩ := T.im_Test
    obtain ⟨_, irO⟩ := T.ir_Test
    rcases hy with ⟨z, qs, c, rfl, ⟨dx2, t2, hx2, ht2⟩, k⟩ | ⟨⟨ty, hty, hmro⟩, k⟩
    · refine ⟨_, (pss_one (ps_ret (pe_and (pe_callB call_isi (by rfl) T.m_isinstance (by decide +kernel) (pa_cons (pv 1) (pa_cons (pe_glob (by rfl) T.g_Test Ev.rel_ref) pa_nil))) (pe_and (pe_cmpR (op_eqD hu) (pe_fld (pv 0) rfl) (pe_fld (pv 1) rfl) (nomark _)) (pe_one (pe_cmpR op_eq (pe_fld (pv 0) rfl) (pe_fld (pv 1) rfl) (nomark _))))))), ?_⟩
      walk_at "ev rd"
      refine Ev.eq_tints ht ht2 ?_
      walk_at "ev rd"
      refine ite2 (fun h => ?_) (fun h => ?_)
      · walk_at "ev rd"
        rw [h] at k
        simpa [rEq] using k
      · have h' : decide (ps = qs) = false := by simpa using h
        rw [h'] at k
        simpa using k
    · refine ⟨_, (pss_one (ps_ret (pe_and (pe_callB call_isi (by rfl) T.m_isinstance (by decide +kernel) (pa_cons (pv 1) (pa_cons (pe_glob (by rfl) T.g_Test Ev.rel_ref) pa_nil))) (pe_and (pe_cmpR (op_eqD hu) (pe_fld (pv 0) rfl) (pe_fld (pv 1) rfl) (nomark _)) (pe_one (pe_cmpR op_eq (pe_fld (pv 0) rfl) (pe_fld (pv 1) rfl) (nomark _))))))), ?_⟩
      walk_at "ev rd"
      refine ⟨_, _, _, _, _, rfl, .own _, hty, Ev.kit_tyo T.ci_Test hmro, ?_⟩
      walk_at "ev rd"
      exact k
end
end K04

namespace K04
open PySem L2
theorem Sq.up {K : PySem.W.Frag} {H : Hp} {x dx a : Addr} {o o2 : HO} {ns : List Int} (h : Sq K H a ns) (nx : H x = none) (nd : H dx = none) : Sq K (upd (upd H dx o) x o2) a ns := h.same fun b u e => Ev.get_ne (ne_of_none e nx) (Ev.get_new e nd)
theorem mk {K : PySem.W.Frag} {C q : Addr} {H : Hp} {ps : List Int} {b : Int} {R : Addr → Hp → Prop} {E : XK} (hq : Sq K H q ps) (hl : 1 ≤ ps.length ∧ ps.length ≤ 5) (k : ∀ r H1, Same H H1 → H r = none → Ts K C H1 r ps b → R r H1) :
    ∀ x dx, H x = none → H dx = none → dx ≠ x → spInit K C [.ref x, .ref q, .int b] (upd (upd H dx (.own x)) x (.ins C dx [])) (fun v H2 => v = .non ∧ R x H2) E := by
  intro x dx nx nd _
  exact ⟨x, dx, q, ps, b, rfl, upd_same, hq.up nx nd, hl, fun H1 b1 t1 => ⟨rfl, k x H1 (Ev.mk_same nx nd b1) nx t1⟩⟩
end K04

namespace K04
open PySem L2
section
variable {K : PySem.W.Frag} {C : Addr} {H : Hp} {x y : Addr} {ps qs : List Int} {b c : Int} {Q : VK} {E : XK}
theorem ne_test (ci : Ev.CI K C) (tx : Ts K C H x ps b) (ty : Ts K C H y qs c) (e1 : ps = qs) (e2 : b = c) (q : Q (.bl false) H) : Ev.rOwnC K C (spTeq K C) E not (.ref x) (.ref y) H Q := by
  subst e1 e2
  obtain ⟨dx, t, hx, _⟩ := id tx
  obtain ⟨dy, u, hy, _⟩ := id ty
  refine ⟨x, dx, _, _, rfl, hx, ci.ty hy, Ev.nf_self, x, .ref y, ps, b, rfl, tx, .inl ⟨y, ps, b, rfl, ty, _, rfl, ?_⟩⟩
  rw [Ev.eqSelf, Ev.eqSelf]
  exact q
theorem eq_test (ci : Ev.CI K C) (tx : Ts K C H x ps b) (ty : Ts K C H y qs c) (e1 : ps = qs) (e2 : b = c) (q : Q (.bl true) H) : Ev.rOwnC K C (spTeq K C) E id (.ref x) (.ref y) H Q := by
  subst e1 e2
  obtain ⟨dx, t, hx, _⟩ := id tx
  obtain ⟨dy, u, hy, _⟩ := id ty
  refine ⟨x, dx, _, _, rfl, hx, ci.ty hy, Ev.nf_self, x, .ref y, ps, b, rfl, tx, .inl ⟨y, ps, b, rfl, ty, _, rfl, ?_⟩⟩
  rw [Ev.eqSelf, Ev.eqSelf]
  exact q
end
end K04

namespace K04
open PySem L2

theorem sc_needt : FnScope ["number"] ["number"] (C8.fnScope (top 15)) := C8.fnScope_by (by decide +kernel)
def spNeedt : Sp := fun vs H Q _ => ∃ n : Int, vs = [.int n] ∧ 0 ≤ n ∧ Q .non H
section
variable {P : Program} {w : World} {K : PySem.W.Frag} {mg : Str → Option Value} {base : Heap} {C : Addr}
theorem ok_needt {f : Addr} {fd : FuncData} (F : Ev.Fn K "need_times" "need_times" (top 15) f fd) (T : Tx K mg C) (c_isint : Ev.GC P w K mg base 1 "is_integer" spIsInt []) : Ev.GOk P w K mg base (L2.CX P w) 2 f fd ["number"] spNeedt := by
  refine Ev.gfn0 F sc_needt (fun vs H Q E h => ?_) (fun cdv A outer s H vs Q E hgd hr h => ?_)
  · obtain ⟨n, rfl, n0, k⟩ := h
    rfl
  · obtain ⟨n, rfl, n0, k⟩ := h
    have hu : _ + 64 < cLine := hr.units
    obtain ⟨_, hk_MOST_PARTS⟩ := T.k_MOST_PARTS
    have e10_12 : (10 : Int) ^ Int.toNat 12 = 1000000000000 := by decide
    have e10_20 : (10 : Int) ^ Int.toNat 20 = 100000000000000000000 := by decide
    have e10_25 : (10 : Int) ^ Int.toNat 25 = 10000000000000000000000000 := by decide
    have e10_30 : (10 : Int) ^ Int.toNat 30 = 1000000000000000000000000000000 := by decide
    have e10_40 : (10 : Int) ^ Int.toNat 40 = 10000000000000000000000000000000000000000 := by decide
    obtain ⟨_, hk_REACHES⟩ := T.k_REACHES
    obtain ⟨_, mrO⟩ := T.mr_Test
    obtain ⟨_, mmO⟩ := T.mm_Test
    obtain ⟨_, imO⟩ := T.im_Test
    obtain ⟨_, irO⟩ := T.ir_Test
    refine ⟨_, (pss_one (ps_if (pw_or (pt_not (pt_val (Ev.pe_c c_isint hgd hr (by decide) (by rfl) (pa_cons (pv 0) pa_nil)))) (pw_or1 (pt_cmpR op_lt (pv 0) pe_int (nomark _)))).pt
  pss_never
  pss_nil)), ?_⟩
    walk_at "ev rd"
    rw [decide_eq_false (show ¬ n < 0 by omega)]
    walk_at "ev rd"
    exact k
end
end K04

namespace K04
open PySem L2

theorem sc_commons : FnScope ["numbers", "found", "number"] ["numbers"] (C8.fnScope (top 13)) := C8.fnScope_by (by decide +kernel)
def spCommons (K : PySem.W.Frag) : Sp := fun vs H Q _ => ∃ (t : Addr) (ps : List Int), vs = [.ref t] ∧ SqT K H t (ps.map V.int) ∧ Q (.int (gcds ps)) H
section
variable {P : Program} {w : World} {K : PySem.W.Frag} {mg : Str → Option Value} {base : Heap} {C : Addr}
theorem ok_commons {f : Addr} {fd : FuncData} (F : Ev.Fn K "common_of" "common_of" (top 13) f fd) (T : Tx K mg C) (c_common : Ev.GC P w K mg base 1 "common" spCommon []) : Ev.GOk P w K mg base (L2.CX P w) 2 f fd ["numbers"] (spCommons K) := by
  refine Ev.gfn0 F sc_commons (fun vs H Q E h => ?_) (fun cdv A outer s H vs Q E hgd hr h => ?_)
  · obtain ⟨t, ps, rfl, ht, k⟩ := h
    rfl
  · obtain ⟨t, ps, rfl, ht, k⟩ := h
    have hu : _ + 64 < cLine := hr.units
    obtain ⟨_, hk_MOST_PARTS⟩ := T.k_MOST_PARTS
    have e10_12 : (10 : Int) ^ Int.toNat 12 = 1000000000000 := by decide
    have e10_20 : (10 : Int) ^ Int.toNat 20 = 100000000000000000000 := by decide
    have e10_25 : (10 : Int) ^ Int.toNat 25 = 10000000000000000000000000 := by decide
    have e10_30 : (10 : Int) ^ Int.toNat 30 = 1000000000000000000000000000000 := by decide
    have e10_40 : (10 : Int) ^ Int.toNat 40 = 10000000000000000000000000000000000000000 := by decide
    obtain ⟨_, hk_REACHES⟩ := T.k_REACHES
    obtain ⟨_, mrO⟩ := T.mr_Test
    obtain ⟨_, mmO⟩ := T.mm_Test
    obtain ⟨_, imO⟩ := T.im_Test
    obtain ⟨_, irO⟩ := T.ir_Test
    refine ⟨_, (pss_cons (ps_set (i := 1) sc_commons.nd rfl (.inl rfl) pe_int)
  (pss_cons (ps_for PassesOwn.never rfl (pi_tup (pv 0)) (pg_name (i := 2) sc_commons.nd rfl (.inl rfl))
  (pss_one (ps_set (i := 1) sc_commons.nd rfl (.inl rfl) (Ev.pe_c c_common hgd hr (by decide) (by rfl) (pa_cons (pv 1) (pa_cons (pv 2) pa_nil))))))
  (pss_one (ps_ret (pv 1))))), ?_⟩
    walk_at "ev rd"
    refine ⟨⟨_, ht⟩, for_tup (xs := ps.map V.int) (fun i σ H' => ∃ v, σ = [some (.ref t), some (.int (gcds (ps.take i))), v] ∧ H' = H) ⟨_, rfl, rfl⟩ (fun i σ H' _ ⟨_, _, e⟩ => e ▸ ht) ?_ ?_⟩
    · rintro i x σ H' hi ⟨v, rfl, rfl⟩
      obtain ⟨z, hz, rfl, _⟩ := Ev.map_int hi
      walk_at "ev rd"
      exact ⟨_, by rw [gcds_take hz]; rfl, rfl⟩
    · rintro σ H' ⟨v, rfl, rfl⟩
      have e : List.take (ps.map V.int).length ps = ps := by rw [List.length_map, List.take_length]
      walk_at "ev rd"
      rw [e]
      exact k
end
end K04

namespace K04
open PySem L2

theorem sc_tight : FnScope ["self", "by", "part"] ["self"] (C8.fnScope (inClass (top 16) 3)) := C8.fnScope_by (by decide +kernel)
def spTight (K : PySem.W.Frag) (C : Addr) : Sp := fun vs H Q _ => ∃ (x : Addr) (ps : List Int) (b : Int), vs = [.ref x] ∧ Ts K C H x ps b ∧ (1 ≤ ps.length ∧ ps.length ≤ 5) ∧ (∀ z ∈ ps, Ev.Lit z) ∧
  ∀ r H', Same H H' → Ts K C H' r (tp ps) (tb ps b) → Q (.ref r) H'
section
variable {P : Program} {w : World} {K : PySem.W.Frag} {mg : Str → Option Value} {base : Heap} {C : Addr}
theorem ok_tight {f : Addr} {fd : FuncData} (F : Ev.Fn K "tight" "Test.tight" (inClass (top 16) 3) f fd) (T : Tx K mg C) (c_commons : Ev.GC P w K mg base 2 "common_of" (spCommons K) []) (c_make : Ev.GN P w K mg base 2 "Test" C (spInit K C) 2 [] (fun vs _ => vs)) : Ev.GOk P w K mg base (L2.CX P w) 4 f fd ["self"] (spTight K C) := by
  refine Ev.gfn0 F sc_tight (fun vs H Q E h => ?_) (fun cdv A outer s H vs Q E hgd hr h => ?_)
  · obtain ⟨x, ps, b, rfl, ⟨dx, t, hx, ht⟩, h5, lp, k⟩ := h
    rfl
  · obtain ⟨x, ps, b, rfl, ⟨dx, t, hx, ht⟩, h5, lp, k⟩ := h
    have hu : _ + 64 < cLine := hr.units
    obtain ⟨_, hk_MOST_PARTS⟩ := T.k_MOST_PARTS
    have e10_12 : (10 : Int) ^ Int.toNat 12 = 1000000000000 := by decide
    have e10_20 : (10 : Int) ^ Int.toNat 20 = 100000000000000000000 := by decide
    have e10_25 : (10 : Int) ^ Int.toNat 25 = 10000000000000000000000000 := by decide
    have e10_30 : (10 : Int) ^ Int.toNat 30 = 1000000000000000000000000000000 := by decide
    have e10_40 : (10 : Int) ^ Int.toNat 40 = 10000000000000000000000000000000000000000 := by decide
    obtain ⟨_, hk_REACHES⟩ := T.k_REACHES
    obtain ⟨_, mrO⟩ := T.mr_Test
    obtain ⟨_, mmO⟩ := T.mm_Test
    obtain ⟨_, imO⟩ := T.im_Test
    obtain ⟨_, irO⟩ := T.ir_Test
    refine ⟨_, (pss_cons (ps_set (i := 1) sc_tight.nd rfl (.inr rfl) (pe_callB (call_max2 rfl) (by rfl) T.m_max (by decide +kernel) (pa_cons pe_int (pa_cons (Ev.pe_c c_commons hgd hr (by decide) (by rfl) (pa_cons (pe_fld (pv 0) rfl) pa_nil)) pa_nil))))
  (pss_cons (ps_if (pt_cmpR (op_eqD hu) (pe_fld (pv 0) rfl) (pe_op Ev.op_repN (pe_tup (pa_cons pe_int pa_nil)) (pe_callB call_len_seq (by rfl) T.m_len (by decide +kernel) (pa_cons (pe_fld (pv 0) rfl) pa_nil))) (nomark _))
  (pss_one (ps_ret (Ev.pe_n c_make hgd hr (by decide) (by rfl) (pa_cons (pe_fld (pv 0) rfl) (pa_cons (pe_fld (pv 0) rfl) pa_nil)) pk_nil)))
  pss_nil)
  (pss_one (ps_ret (Ev.pe_n c_make hgd hr (by decide) (by rfl) (pa_cons (pe_lc (own := [("part", 2)]) rfl sc_tight.nd (pi_tup (pe_fld (pv 0) rfl)) (blkOk_by (N := ["self", "by", "part"]) (sc := (C8.fnScope (inClass (top 16) 3))) (by decide +kernel)) (fun _ _ _ _ _ => (pg_name (i := 2) sc_tight.nd rfl (.inl rfl))) (fun _ _ _ _ _ => pts_nil) (fun _ _ _ _ _ => (pe_op op_fdivW (pv 2) (pv 1)))) (pa_cons (pe_un un_neg (pe_op op_fdivW (pe_un un_neg (pe_fld (pv 0) rfl)) (pv 1))) pa_nil)) pk_nil))))), ?_⟩
    have ht1 := fun H1 (s : Same H H1) => Ev.Same.seqT s ht
    have hle : gcds ps ≤ 1606938044258990275541962092341162602522202993782792835301376 := gf_le _ ps 0 (Nat.zero_le _) fun z h => Nat.le_of_lt (lp z h)
    walk_at "ev rd"
    refine ⟨t, ps, rfl, ht, ?_⟩
    walk_at "ev rd"
    refine ⟨_, _, rfl, Or.inr (ht1 _ (by intro b o h; walk_at "ev hl")), ?_⟩
    rw [List.length_map]
    refine ⟨_, _, ps.length, rfl, rfl, SqT.of (by walk_at "ev hl"), by omega, by omega, fun p H2 s2 hp => ?_⟩
    have e0 : List.replicate ps.length (V.int 0) = (List.replicate ps.length 0).map V.int := by simp
    rw [e0] at hp
    have sH : Same H H2 := fun b o h => s2 _ _ (by walk_at "ev hl")
    have hx2 := sH _ _ hx
    refine Ev.eq_tints (ht1 _ sH) hp ?_
    rw [zeros_iff]
    walk_at "ev rd"
    refine ite2 (fun h => ?_) (fun h => ?_)
    · have h' : gcds ps = 0 := of_decide_eq_true h
      walk_at "ev rd"
      refine mk (Or.inr (ht1 _ sH)) h5 fun r H3 s3 n3 t3 => ?_
      refine k r _ (sH.trans s3) ?_
      unfold tp tb
      rw [if_pos h', if_pos h']
      exact t3
    · have h' : gcds ps ≠ 0 := by simpa using h
      rw [max1 _ h']
      walk_at "ev rd"
      refine ⟨⟨_, ht1 _ sH⟩, fun D hD => Ev.lcT (f := fun i => ((ps.map (· / (gcds ps : Int)))[i]?).map V.int) (ht1 _ sH) hD (by simp; omega) (fun i z H1 R N hi hS hR hN => ?_) (fun H1 hS h1 => ?_)⟩
      · obtain ⟨n, e, rfl, m1⟩ := Ev.map_int hi
        refine ⟨rfl, ?_⟩
        walk_at "ev rd"
        refine ⟨wide_div (b := 256) (by omega) (by omega) (by decide) (by decide), ?_⟩
        exact hR _ _ (by rw [List.getElem?_map, e]; rfl) (Same.refl _)
      · rw [show (List.map V.int ps).length = (ps.map (· / (gcds ps : Int))).length by simp, Ev.outs_gen] at h1
        have s1 : Same H H1 := sH.trans hS
        have hx1 := s1 _ _ hx
        walk_at "ev rd"
        refine ⟨wide_div (b := 256) (by omega) (by omega) (by decide) (by decide), ?_⟩
        walk_at "ev rd"
        refine mk (ps := ps.map (· / (gcds ps : Int))) (Or.inl (SqL.of h1)) (by simpa using h5) fun r H3 s3 n3 t3 => ?_
        refine k r _ (s1.trans s3) ?_
        unfold tp tb
        rw [if_neg h', if_neg h']
        exact t3
end
end K04

namespace K04
open PySem L2

theorem sc_tadd : FnScope ["self", "other", "one", "more"] ["self", "other"] (C8.fnScope (inClass (top 16) 6)) := C8.fnScope_by (by decide +kernel)
def spTadd (K : PySem.W.Frag) (C : Addr) : Sp := fun vs H Q _ => ∃ (x y : Addr) (ps qs : List Int) (b c : Int), vs = [.ref x, .ref y] ∧ Ts K C H x ps b ∧ Ts K C H y qs c ∧ ps.length = qs.length ∧ (1 ≤ ps.length ∧ ps.length ≤ 5) ∧
  ∀ r H', Same H H' → Ts K C H' r (List.zipWith (· + ·) ps qs) (b + c) → Q (.ref r) H'
section
variable {P : Program} {w : World} {K : PySem.W.Frag} {mg : Str → Option Value} {base : Heap} {C : Addr}
theorem ok_tadd {f : Addr} {fd : FuncData} (F : Ev.Fn K "__add__" "Test.__add__" (inClass (top 16) 6) f fd) (T : Tx K mg C) (c_make : Ev.GN P w K mg base 2 "Test" C (spInit K C) 2 [] (fun vs _ => vs)) : Ev.GOk P w K mg base (L2.CX P w) 4 f fd ["self", "other"] (spTadd K C) := by
  refine Ev.gfn0 F sc_tadd (fun vs H Q E h => ?_) (fun cdv A outer s H vs Q E hgd hr h => ?_)
  · obtain ⟨x, y, ps, qs, b, c, rfl, ⟨dx, t, hx, ht⟩, ⟨dy, u, hy, hu2⟩, hl, h5, k⟩ := h
    rfl
  · obtain ⟨x, y, ps, qs, b, c, rfl, ⟨dx, t, hx, ht⟩, ⟨dy, u, hy, hu2⟩, hl, h5, k⟩ := h
    have hu : _ + 64 < cLine := hr.units
    obtain ⟨_, hk_MOST_PARTS⟩ := T.k_MOST_PARTS
    have e10_12 : (10 : Int) ^ Int.toNat 12 = 1000000000000 := by decide
    have e10_20 : (10 : Int) ^ Int.toNat 20 = 100000000000000000000 := by decide
    have e10_25 : (10 : Int) ^ Int.toNat 25 = 10000000000000000000000000 := by decide
    have e10_30 : (10 : Int) ^ Int.toNat 30 = 1000000000000000000000000000000 := by decide
    have e10_40 : (10 : Int) ^ Int.toNat 40 = 10000000000000000000000000000000000000000 := by decide
    obtain ⟨_, hk_REACHES⟩ := T.k_REACHES
    obtain ⟨_, mrO⟩ := T.mr_Test
    obtain ⟨_, mmO⟩ := T.mm_Test
    obtain ⟨_, imO⟩ := T.im_Test
    obtain ⟨_, irO⟩ := T.ir_Test
    refine ⟨_, (pss_cons (ps_if (pw_or (pt_not (pt_val (pe_callB call_isi (by rfl) T.m_isinstance (by decide +kernel) (pa_cons (pv 1) (pa_cons (pe_glob (by rfl) T.g_Test Ev.rel_ref) pa_nil))))) (pw_or1 (pt_cmpR op_ne (pe_callB call_len_seq (by rfl) T.m_len (by decide +kernel) (pa_cons (pe_fld (pv 1) rfl) pa_nil)) (pe_callB call_len_seq (by rfl) T.m_len (by decide +kernel) (pa_cons (pe_fld (pv 0) rfl) pa_nil)) (nomark _)))).pt
  pss_never
  pss_nil)
  (pss_one (ps_ret (Ev.pe_n c_make hgd hr (by decide) (by rfl) (pa_cons (pe_lc (own := [("one", 2), ("more", 3)]) (g := gTup K 2 (gCons (gName 2) (gCons (gName 3) gNil))) rfl sc_tadd.nd (Ev.pi_zipB false false (by rfl) T.m_zip (pa_cons (pe_fld (pv 0) rfl) (pa_cons (pe_fld (pv 1) rfl) pa_nil))) (blkOk_by (N := ["self", "other", "one", "more"]) (sc := (C8.fnScope (inClass (top 16) 6))) (by decide +kernel)) (fun _ _ _ _ _ => (by exact (pg_tup rfl (pgs_cons (pg_name (i := 2) sc_tadd.nd rfl (.inl rfl)) (pgs_cons (pg_name (i := 3) sc_tadd.nd rfl (.inl rfl)) pgs_nil))))) (fun _ _ _ _ _ => pts_nil) (fun _ _ _ _ _ => (pe_op op_add (pv 2) (pv 3)))) (pa_cons (pe_op op_add (pe_fld (pv 0) rfl) (pe_fld (pv 1) rfl)) pa_nil)) pk_nil)))), ?_⟩
    walk_at "ev rd"
    refine ⟨_, _, rfl, Or.inr hu2, ?_⟩
    walk_at "ev rd"
    refine ⟨_, _, rfl, Or.inr ht, ?_⟩
    walk_at "ev rd"
    rw [List.length_map, List.length_map, hl, Ev.neSelf]
    walk_at "ev rd"
    refine ⟨_, _, _, _, rfl, ht, hu2, fun D2 hD2 => Ev.lcZ (f := fun i => ((List.zipWith (· + ·) ps qs)[i]?).map V.int) hD2 (by simp; omega) (by simp [hl]) ht hu2 (fun i z z2 T2 H2 R N hi hi2 hS2 hT hR hN => ?_) (fun H2 hS2 h2 => ?_)⟩
    · obtain ⟨u1, e1, rfl, m1⟩ := Ev.map_int hi
      obtain ⟨v1, e2, rfl, m2⟩ := Ev.map_int hi2
      refine ⟨_, _, rfl, SqT.of hT, rfl, ?_⟩
      refine ⟨_, _, rfl, _, _, rfl, rfl, rfl, ?_⟩
      walk_at "ev rd"
      exact hR _ _ (by rw [List.getElem?_zipWith, e1, e2]; rfl) (Same.refl _)
    · have e3 : (List.map V.int ps).length = (List.zipWith (· + ·) ps qs).length := by simp [hl]
      rw [e3, Ev.outs_gen] at h2
      have hx2 := hS2 _ _ hx
      have hy2 := hS2 _ _ hy
      walk_at "ev rd"
      refine mk (ps := List.zipWith (· + ·) ps qs) (Or.inl (SqL.of h2)) (by simp; omega) fun r H3 s3 n3 t3 => ?_
      exact k r _ (hS2.trans s3) t3
end
end K04

namespace K04
open PySem L2

theorem sc_tmul : FnScope ["self", "number", "part"] ["self", "number"] (C8.fnScope (inClass (top 16) 7)) := C8.fnScope_by (by decide +kernel)
def spTmul (K : PySem.W.Frag) (C : Addr) : Sp := fun vs H Q _ => ∃ (x : Addr) (ps : List Int) (b m : Int), vs = [.ref x, .int m] ∧ Ts K C H x ps b ∧ (1 ≤ ps.length ∧ ps.length ≤ 5) ∧ (∀ z ∈ ps, Ev.Lit z) ∧ Ev.Lit b ∧ Ev.Lit m ∧ 0 ≤ m ∧
  ∀ r H', Same H H' → Ts K C H' r (ps.map (m * ·)) (m * b) → Q (.ref r) H'
section
variable {P : Program} {w : World} {K : PySem.W.Frag} {mg : Str → Option Value} {base : Heap} {C : Addr}
theorem ok_tmul {f : Addr} {fd : FuncData} (F : Ev.Fn K "__mul__" "Test.__mul__" (inClass (top 16) 7) f fd) (T : Tx K mg C) (c_needt : Ev.GC P w K mg base 2 "need_times" spNeedt []) (c_make : Ev.GN P w K mg base 2 "Test" C (spInit K C) 2 [] (fun vs _ => vs)) : Ev.GOk P w K mg base (L2.CX P w) 4 f fd ["self", "number"] (spTmul K C) := by
  refine Ev.gfn0 F sc_tmul (fun vs H Q E h => ?_) (fun cdv A outer s H vs Q E hgd hr h => ?_)
  · obtain ⟨x, ps, b, m, rfl, ⟨dx, t, hx, ht⟩, h5, lp, lb, lm, m0, k⟩ := h
    rfl
  · obtain ⟨x, ps, b, m, rfl, ⟨dx, t, hx, ht⟩, h5, lp, lb, lm, m0, k⟩ := h
    have hu : _ + 64 < cLine := hr.units
    obtain ⟨_, hk_MOST_PARTS⟩ := T.k_MOST_PARTS
    have e10_12 : (10 : Int) ^ Int.toNat 12 = 1000000000000 := by decide
    have e10_20 : (10 : Int) ^ Int.toNat 20 = 100000000000000000000 := by decide
    have e10_25 : (10 : Int) ^ Int.toNat 25 = 10000000000000000000000000 := by decide
    have e10_30 : (10 : Int) ^ Int.toNat 30 = 1000000000000000000000000000000 := by decide
    have e10_40 : (10 : Int) ^ Int.toNat 40 = 10000000000000000000000000000000000000000 := by decide
    obtain ⟨_, hk_REACHES⟩ := T.k_REACHES
    obtain ⟨_, mrO⟩ := T.mr_Test
    obtain ⟨_, mmO⟩ := T.mm_Test
    obtain ⟨_, imO⟩ := T.im_Test
    obtain ⟨_, irO⟩ := T.ir_Test
    refine ⟨_, (pss_cons (ps_expr (Ev.pe_c c_needt hgd hr (by decide) (by rfl) (pa_cons (pv 1) pa_nil)))
  (pss_one (ps_ret (Ev.pe_n c_make hgd hr (by decide) (by rfl) (pa_cons (pe_lc (own := [("part", 2)]) rfl sc_tmul.nd (pi_tup (pe_fld (pv 0) rfl)) (blkOk_by (N := ["self", "number", "part"]) (sc := (C8.fnScope (inClass (top 16) 7))) (by decide +kernel)) (fun _ _ _ _ _ => (pg_name (i := 2) sc_tmul.nd rfl (.inl rfl))) (fun _ _ _ _ _ => pts_nil) (fun _ _ _ _ _ => (pe_op op_mulW (pv 1) (pv 2)))) (pa_cons (pe_op op_mulW (pv 1) (pe_fld (pv 0) rfl)) pa_nil)) pk_nil)))), ?_⟩
    have ht1 := fun H1 (s : Same H H1) => Ev.Same.seqT s ht
    walk_at "ev rd"
    refine ⟨m0, ?_⟩
    walk_at "ev rd"
    refine ⟨⟨_, ht1 _ (by intro b o h; walk_at "ev hl")⟩, fun D hD => Ev.lcT (f := fun i => ((ps.map (m * ·))[i]?).map V.int) (ht1 _ (by intro b o h; walk_at "ev hl")) hD (by simp; omega) (fun i z H1 R N hi hS hR hN => ?_) (fun H1 hS h1 => ?_)⟩
    · obtain ⟨n, e, rfl, m1⟩ := Ev.map_int hi
      refine ⟨rfl, ?_⟩
      walk_at "ev rd"
      refine ⟨Ev.Lit.mul lm (lp _ m1), ?_⟩
      exact hR _ _ (by rw [List.getElem?_map, e]; rfl) (Same.refl _)
    · rw [show (List.map V.int ps).length = (ps.map (m * ·)).length by simp, Ev.outs_gen] at h1
      have s1 : Same H H1 := fun b o h => hS _ _ (by walk_at "ev hl")
      have hx1 := s1 _ _ hx
      walk_at "ev rd"
      refine ⟨Ev.Lit.mul lm lb, ?_⟩
      walk_at "ev rd"
      refine mk (ps := ps.map (m * ·)) (Or.inl (SqL.of h1)) (by simpa using h5) fun r H3 s3 n3 t3 => ?_
      exact k r _ (s1.trans s3) t3
end
end K04

namespace K04
open PySem L2

theorem sc_trmul : FnScope ["self", "number", "part"] ["self", "number"] (C8.fnScope (inClass (top 16) 8)) := C8.fnScope_by (by decide +kernel)
def spTrmul (K : PySem.W.Frag) (C : Addr) : Sp := fun vs H Q _ => ∃ (x : Addr) (ps : List Int) (b m : Int), vs = [.ref x, .int m] ∧ Ts K C H x ps b ∧ (1 ≤ ps.length ∧ ps.length ≤ 5) ∧ (∀ z ∈ ps, Ev.Lit z) ∧ Ev.Lit b ∧ Ev.Lit m ∧ 0 ≤ m ∧
  ∀ r H', Same H H' → Ts K C H' r (ps.map (m * ·)) (m * b) → Q (.ref r) H'
section
variable {P : Program} {w : World} {K : PySem.W.Frag} {mg : Str → Option Value} {base : Heap} {C : Addr}
theorem ok_trmul {f : Addr} {fd : FuncData} (F : Ev.Fn K "__rmul__" "Test.__rmul__" (inClass (top 16) 8) f fd) (T : Tx K mg C) (c_needt : Ev.GC P w K mg base 2 "need_times" spNeedt []) (c_make : Ev.GN P w K mg base 2 "Test" C (spInit K C) 2 [] (fun vs _ => vs)) : Ev.GOk P w K mg base (L2.CX P w) 4 f fd ["self", "number"] (spTrmul K C) := by
  refine Ev.gfn0 F sc_trmul (fun vs H Q E h => ?_) (fun cdv A outer s H vs Q E hgd hr h => ?_)
  · obtain ⟨x, ps, b, m, rfl, ⟨dx, t, hx, ht⟩, h5, lp, lb, lm, m0, k⟩ := h
    rfl
  · obtain ⟨x, ps, b, m, rfl, ⟨dx, t, hx, ht⟩, h5, lp, lb, lm, m0, k⟩ := h
    have hu : _ + 64 < cLine := hr.units
    obtain ⟨_, hk_MOST_PARTS⟩ := T.k_MOST_PARTS
    have e10_12 : (10 : Int) ^ Int.toNat 12 = 1000000000000 := by decide
    have e10_20 : (10 : Int) ^ Int.toNat 20 = 100000000000000000000 := by decide
    have e10_25 : (10 : Int) ^ Int.toNat 25 = 10000000000000000000000000 := by decide
    have e10_30 : (10 : Int) ^ Int.toNat 30 = 1000000000000000000000000000000 := by decide
    have e10_40 : (10 : Int) ^ Int.toNat 40 = 10000000000000000000000000000000000000000 := by decide
    obtain ⟨_, hk_REACHES⟩ := T.k_REACHES
    obtain ⟨_, mrO⟩ := T.mr_Test
    obtain ⟨_, mmO⟩ := T.mm_Test
    obtain ⟨_, imO⟩ := T.im_Test
    obtain ⟨_, irO⟩ := T.ir_Test
    refine ⟨_, (pss_cons (ps_expr (Ev.pe_c c_needt hgd hr (by decide) (by rfl) (pa_cons (pv 1) pa_nil)))
  (pss_one (ps_ret (Ev.pe_n c_make hgd hr (by decide) (by rfl) (pa_cons (pe_lc (own := [("part", 2)]) rfl sc_trmul.nd (pi_tup (pe_fld (pv 0) rfl)) (blkOk_by (N := ["self", "number", "part"]) (sc := (C8.fnScope (inClass (top 16) 8))) (by decide +kernel)) (fun _ _ _ _ _ => (pg_name (i := 2) sc_trmul.nd rfl (.inl rfl))) (fun _ _ _ _ _ => pts_nil) (fun _ _ _ _ _ => (pe_op op_mulW (pv 1) (pv 2)))) (pa_cons (pe_op op_mulW (pv 1) (pe_fld (pv 0) rfl)) pa_nil)) pk_nil)))), ?_⟩
    have ht1 := fun H1 (s : Same H H1) => Ev.Same.seqT s ht
    walk_at "ev rd"
    refine ⟨m0, ?_⟩
    walk_at "ev rd"
    refine ⟨⟨_, ht1 _ (by intro b o h; walk_at "ev hl")⟩, fun D hD => Ev.lcT (f := fun i => ((ps.map (m * ·))[i]?).map V.int) (ht1 _ (by intro b o h; walk_at "ev hl")) hD (by simp; omega) (fun i z H1 R N hi hS hR hN => ?_) (fun H1 hS h1 => ?_)⟩
    · obtain ⟨n, e, rfl, m1⟩ := Ev.map_int hi
      refine ⟨rfl, ?_⟩
      walk_at "ev rd"
      refine ⟨Ev.Lit.mul lm (lp _ m1), ?_⟩
      exact hR _ _ (by rw [List.getElem?_map, e]; rfl) (Same.refl _)
    · rw [show (List.map V.int ps).length = (ps.map (m * ·)).length by simp, Ev.outs_gen] at h1
      have s1 : Same H H1 := fun b o h => hS _ _ (by walk_at "ev hl")
      have hx1 := s1 _ _ hx
      walk_at "ev rd"
      refine ⟨Ev.Lit.mul lm lb, ?_⟩
      walk_at "ev rd"
      refine mk (ps := ps.map (m * ·)) (Or.inl (SqL.of h1)) (by simpa using h5) fun r H3 s3 n3 t3 => ?_
      exact k r _ (s1.trans s3) t3
end
end K04

namespace K04
open PySem L2

theorem sc_tneg : FnScope ["self", "part"] ["self"] (C8.fnScope (inClass (top 16) 9)) := C8.fnScope_by (by decide +kernel)
def spTneg (K : PySem.W.Frag) (C : Addr) : Sp := fun vs H Q _ => ∃ (x : Addr) (ps : List Int) (b : Int), vs = [.ref x] ∧ Ts K C H x ps b ∧ (1 ≤ ps.length ∧ ps.length ≤ 5) ∧
  ∀ r H', Same H H' → Ts K C H' r (ps.map (fun z => -z)) (-b) → Q (.ref r) H'
section
variable {P : Program} {w : World} {K : PySem.W.Frag} {mg : Str → Option Value} {base : Heap} {C : Addr}
theorem ok_tneg {f : Addr} {fd : FuncData} (F : Ev.Fn K "__neg__" "Test.__neg__" (inClass (top 16) 9) f fd) (T : Tx K mg C) (c_make : Ev.GN P w K mg base 2 "Test" C (spInit K C) 2 [] (fun vs _ => vs)) : Ev.GOk P w K mg base (L2.CX P w) 4 f fd ["self"] (spTneg K C) := by
  refine Ev.gfn0 F sc_tneg (fun vs H Q E h => ?_) (fun cdv A outer s H vs Q E hgd hr h => ?_)
  · obtain ⟨x, ps, b, rfl, ⟨dx, t, hx, ht⟩, h5, k⟩ := h
    rfl
  · obtain ⟨x, ps, b, rfl, ⟨dx, t, hx, ht⟩, h5, k⟩ := h
    have hu : _ + 64 < cLine := hr.units
    obtain ⟨_, hk_MOST_PARTS⟩ := T.k_MOST_PARTS
    have e10_12 : (10 : Int) ^ Int.toNat 12 = 1000000000000 := by decide
    have e10_20 : (10 : Int) ^ Int.toNat 20 = 100000000000000000000 := by decide
    have e10_25 : (10 : Int) ^ Int.toNat 25 = 10000000000000000000000000 := by decide
    have e10_30 : (10 : Int) ^ Int.toNat 30 = 1000000000000000000000000000000 := by decide
    have e10_40 : (10 : Int) ^ Int.toNat 40 = 10000000000000000000000000000000000000000 := by decide
    obtain ⟨_, hk_REACHES⟩ := T.k_REACHES
    obtain ⟨_, mrO⟩ := T.mr_Test
    obtain ⟨_, mmO⟩ := T.mm_Test
    obtain ⟨_, imO⟩ := T.im_Test
    obtain ⟨_, irO⟩ := T.ir_Test
    refine ⟨_, (pss_one (ps_ret (Ev.pe_n c_make hgd hr (by decide) (by rfl) (pa_cons (pe_lc (own := [("part", 1)]) rfl sc_tneg.nd (pi_tup (pe_fld (pv 0) rfl)) (blkOk_by (N := ["self", "part"]) (sc := (C8.fnScope (inClass (top 16) 9))) (by decide +kernel)) (fun _ _ _ _ _ => (pg_name (i := 1) sc_tneg.nd rfl (.inl rfl))) (fun _ _ _ _ _ => pts_nil) (fun _ _ _ _ _ => (pe_un un_neg (pv 1)))) (pa_cons (pe_un un_neg (pe_fld (pv 0) rfl)) pa_nil)) pk_nil))), ?_⟩
    have ht1 := fun H1 (s : Same H H1) => Ev.Same.seqT s ht
    walk_at "ev rd"
    refine ⟨⟨_, ht1 _ (by intro b o h; walk_at "ev hl")⟩, fun D hD => Ev.lcT (f := fun i => ((ps.map (fun z => -z))[i]?).map V.int) (ht1 _ (by intro b o h; walk_at "ev hl")) hD (by simp; omega) (fun i z H1 R N hi hS hR hN => ?_) (fun H1 hS h1 => ?_)⟩
    · obtain ⟨n, e, rfl, m1⟩ := Ev.map_int hi
      refine ⟨rfl, ?_⟩
      walk_at "ev rd"
      exact hR _ _ (by rw [List.getElem?_map, e]; rfl) (Same.refl _)
    · rw [show (List.map V.int ps).length = (ps.map (fun z => -z)).length by simp, Ev.outs_gen] at h1
      have s1 : Same H H1 := fun b o h => hS _ _ (by walk_at "ev hl")
      have hx1 := s1 _ _ hx
      walk_at "ev rd"
      refine mk (ps := ps.map (fun z => -z)) (Or.inl (SqL.of h1)) (by simpa using h5) fun r H3 s3 n3 t3 => ?_
      exact k r _ (s1.trans s3) t3
end
end K04

namespace K04
open PySem L2

theorem sc_tinv : FnScope ["self", "part"] ["self"] (C8.fnScope (inClass (top 16) 10)) := C8.fnScope_by (by decide +kernel)
def spTinv (K : PySem.W.Frag) (C : Addr) : Sp := fun vs H Q _ => ∃ (x : Addr) (ps : List Int) (b : Int), vs = [.ref x] ∧ Ts K C H x ps b ∧ (1 ≤ ps.length ∧ ps.length ≤ 5) ∧
  ∀ r H', Same H H' → Ts K C H' r (ps.map (fun z => -z)) (1 - b) → Q (.ref r) H'
section
variable {P : Program} {w : World} {K : PySem.W.Frag} {mg : Str → Option Value} {base : Heap} {C : Addr}
theorem ok_tinv {f : Addr} {fd : FuncData} (F : Ev.Fn K "__invert__" "Test.__invert__" (inClass (top 16) 10) f fd) (T : Tx K mg C) (c_make : Ev.GN P w K mg base 2 "Test" C (spInit K C) 2 [] (fun vs _ => vs)) : Ev.GOk P w K mg base (L2.CX P w) 4 f fd ["self"] (spTinv K C) := by
  refine Ev.gfn0 F sc_tinv (fun vs H Q E h => ?_) (fun cdv A outer s H vs Q E hgd hr h => ?_)
  · obtain ⟨x, ps, b, rfl, ⟨dx, t, hx, ht⟩, h5, k⟩ := h
    rfl
  · obtain ⟨x, ps, b, rfl, ⟨dx, t, hx, ht⟩, h5, k⟩ := h
    have hu : _ + 64 < cLine := hr.units
    obtain ⟨_, hk_MOST_PARTS⟩ := T.k_MOST_PARTS
    have e10_12 : (10 : Int) ^ Int.toNat 12 = 1000000000000 := by decide
    have e10_20 : (10 : Int) ^ Int.toNat 20 = 100000000000000000000 := by decide
    have e10_25 : (10 : Int) ^ Int.toNat 25 = 10000000000000000000000000 := by decide
    have e10_30 : (10 : Int) ^ Int.toNat 30 = 1000000000000000000000000000000 := by decide
    have e10_40 : (10 : Int) ^ Int.toNat 40 = 10000000000000000000000000000000000000000 := by decide
    obtain ⟨_, hk_REACHES⟩ := T.k_REACHES
    obtain ⟨_, mrO⟩ := T.mr_Test
    obtain ⟨_, mmO⟩ := T.mm_Test
    obtain ⟨_, imO⟩ := T.im_Test
    obtain ⟨_, irO⟩ := T.ir_Test
    refine ⟨_, (pss_one (ps_ret (Ev.pe_n c_make hgd hr (by decide) (by rfl) (pa_cons (pe_lc (own := [("part", 1)]) rfl sc_tinv.nd (pi_tup (pe_fld (pv 0) rfl)) (blkOk_by (N := ["self", "part"]) (sc := (C8.fnScope (inClass (top 16) 10))) (by decide +kernel)) (fun _ _ _ _ _ => (pg_name (i := 1) sc_tinv.nd rfl (.inl rfl))) (fun _ _ _ _ _ => pts_nil) (fun _ _ _ _ _ => (pe_un un_neg (pv 1)))) (pa_cons (pe_op op_sub pe_int (pe_fld (pv 0) rfl)) pa_nil)) pk_nil))), ?_⟩
    have ht1 := fun H1 (s : Same H H1) => Ev.Same.seqT s ht
    walk_at "ev rd"
    refine ⟨⟨_, ht1 _ (by intro b o h; walk_at "ev hl")⟩, fun D hD => Ev.lcT (f := fun i => ((ps.map (fun z => -z))[i]?).map V.int) (ht1 _ (by intro b o h; walk_at "ev hl")) hD (by simp; omega) (fun i z H1 R N hi hS hR hN => ?_) (fun H1 hS h1 => ?_)⟩
    · obtain ⟨n, e, rfl, m1⟩ := Ev.map_int hi
      refine ⟨rfl, ?_⟩
      walk_at "ev rd"
      exact hR _ _ (by rw [List.getElem?_map, e]; rfl) (Same.refl _)
    · rw [show (List.map V.int ps).length = (ps.map (fun z => -z)).length by simp, Ev.outs_gen] at h1
      have s1 : Same H H1 := fun b o h => hS _ _ (by walk_at "ev hl")
      have hx1 := s1 _ _ hx
      walk_at "ev rd"
      refine mk (ps := ps.map (fun z => -z)) (Or.inl (SqL.of h1)) (by simpa using h5) fun r H3 s3 n3 t3 => ?_
      exact k r _ (s1.trans s3) t3
end
end K04

namespace K04
open PySem L2

theorem sc_made : FnScope ["_law_some"] ["_law_some"] (C8.fnScope (top 24)) := C8.fnScope_by (by decide +kernel)
def spMade (K : PySem.W.Frag) (C : Addr) : Sp := fun vs H Q _ => ∃ (a : Addr) (ps : List Int) (b : Int), vs = [.ref a] ∧ SqL K H a ((ps ++ [b]).map V.int) ∧ (1 ≤ ps.length ∧ ps.length ≤ 5) ∧
  ∀ r H', Same H H' → Ts K C H' r ps b → Q (.ref r) H'
section
variable {P : Program} {w : World} {K : PySem.W.Frag} {mg : Str → Option Value} {base : Heap} {C : Addr}
theorem ok_made {f : Addr} {fd : FuncData} (F : Ev.Fn K "_law_made" "_law_made" (top 24) f fd) (T : Tx K mg C) (c_make : Ev.GN P w K mg base 2 "Test" C (spInit K C) 2 [] (fun vs _ => vs)) : Ev.GOk P w K mg base (L2.CX P w) 4 f fd ["_law_some"] (spMade K C) := by
  refine Ev.gfn0 F sc_made (fun vs H Q E h => ?_) (fun cdv A outer s H vs Q E hgd hr h => ?_)
  · obtain ⟨a, ps, b, rfl, ha, h5, k⟩ := h
    rfl
  · obtain ⟨a, ps, b, rfl, ha, h5, k⟩ := h
    have hu : _ + 64 < cLine := hr.units
    obtain ⟨_, hk_MOST_PARTS⟩ := T.k_MOST_PARTS
    have e10_12 : (10 : Int) ^ Int.toNat 12 = 1000000000000 := by decide
    have e10_20 : (10 : Int) ^ Int.toNat 20 = 100000000000000000000 := by decide
    have e10_25 : (10 : Int) ^ Int.toNat 25 = 10000000000000000000000000 := by decide
    have e10_30 : (10 : Int) ^ Int.toNat 30 = 1000000000000000000000000000000 := by decide
    have e10_40 : (10 : Int) ^ Int.toNat 40 = 10000000000000000000000000000000000000000 := by decide
    obtain ⟨_, hk_REACHES⟩ := T.k_REACHES
    obtain ⟨_, mrO⟩ := T.mr_Test
    obtain ⟨_, mmO⟩ := T.mm_Test
    obtain ⟨_, imO⟩ := T.im_Test
    obtain ⟨_, irO⟩ := T.ir_Test
    refine ⟨_, (pss_one (ps_ret (Ev.pe_n c_make hgd hr (by decide) (by rfl) (pa_cons (pe_slice sl_list (pv 0) po_none (po_some (pe_op op_sub (pe_callB call_len_seq (by rfl) T.m_len (by decide +kernel) (pa_cons (pv 0) pa_nil)) pe_int))) (pa_cons (pe_ix ix_list (pv 0) (pe_op op_sub (pe_callB call_len_seq (by rfl) T.m_len (by decide +kernel) (pa_cons (pv 0) pa_nil)) pe_int) (fun _ _ => rfl)) pa_nil)) pk_nil))), ?_⟩
    walk_at "ev rd"
    refine ⟨_, _, rfl, Or.inl ha, ?_⟩
    walk_at "ev rd"
    refine ⟨_, _, rfl, ha, fun l nl => ?_⟩
    rw [cut_init]
    have ha1 := (Ev.Same.new (o := .lst (ps.map V.int)) (Same.refl H) nl).seq ha
    walk_at "ev rd"
    refine ⟨_, _, rfl, Or.inl ha1, ?_⟩
    walk_at "ev rd"
    refine ⟨_, _, _, _, rfl, rfl, ha1, at_of (j := ps.length) (by simp) (show _ = some (V.int b) by simp), ?_⟩
    walk_at "ev rd"
    refine mk (ps := ps) (Or.inl (SqL.of (by walk_at "ev hl"))) h5 fun r H3 s3 n3 t3 => ?_
    exact k r _ ((Ev.Same.new (Same.refl H) nl).trans s3) t3
end
end K04

namespace K04
open PySem L2
section
variable {K : PySem.W.Frag} {C : Addr} {H : Hp} {x y : Addr} {ps qs : List Int} {b c m : Int} {Q : VK} {E : XK}
theorem add_test (tx : Ts K C H x ps b) (ty : Ts K C H y qs c) (hl : ps.length = qs.length) (h5 : 1 ≤ ps.length ∧ ps.length ≤ 5) (k : ∀ r H', Same H H' → Ts K C H' r (List.zipWith (· + ·) ps qs) (b + c) → Q (.ref r) H') : Ev.rOwn2 C (spTadd K C) E (.ref x) (.ref y) H Q := by
  obtain ⟨dx, t, hx, _⟩ := id tx
  obtain ⟨dy, u, hy, _⟩ := id ty
  exact ⟨x, dx, y, dy, _, _, rfl, rfl, hx, hy, x, y, ps, qs, b, c, rfl, tx, ty, hl, h5, k⟩
theorem mul_test (tx : Ts K C H x ps b) (h5 : 1 ≤ ps.length ∧ ps.length ≤ 5) (lp : ∀ z ∈ ps, Ev.Lit z) (lb : Ev.Lit b) (lm : Ev.Lit m) (m0 : 0 ≤ m) (k : ∀ r H', Same H H' → Ts K C H' r (ps.map (m * ·)) (m * b) → Q (.ref r) H') : Ev.rOwnI C (spTmul K C) E (.ref x) (.int m) H Q := by
  obtain ⟨dx, t, hx, _⟩ := id tx
  exact ⟨x, dx, _, m, rfl, rfl, hx, x, ps, b, m, rfl, tx, h5, lp, lb, lm, m0, k⟩
theorem rmul_test (tx : Ts K C H x ps b) (h5 : 1 ≤ ps.length ∧ ps.length ≤ 5) (lp : ∀ z ∈ ps, Ev.Lit z) (lb : Ev.Lit b) (lm : Ev.Lit m) (m0 : 0 ≤ m) (k : ∀ r H', Same H H' → Ts K C H' r (ps.map (m * ·)) (m * b) → Q (.ref r) H') : Ev.rIOwn C (spTrmul K C) E (.int m) (.ref x) H Q := by
  obtain ⟨dx, t, hx, _⟩ := id tx
  exact ⟨x, dx, _, m, rfl, rfl, hx, x, ps, b, m, rfl, tx, h5, lp, lb, lm, m0, k⟩
theorem neg_test (tx : Ts K C H x ps b) (h5 : 1 ≤ ps.length ∧ ps.length ≤ 5) (k : ∀ r H', Same H H' → Ts K C H' r (ps.map (fun z => -z)) (-b) → Q (.ref r) H') : Ev.rOwn1 C (spTneg K C) E (fun _ => True) (.ref x) H Q := by
  obtain ⟨dx, t, hx, _⟩ := id tx
  exact ⟨x, dx, _, rfl, hx, x, ps, b, rfl, tx, h5, fun r H' s t => ⟨trivial, k r H' s t⟩⟩
theorem inv_test (tx : Ts K C H x ps b) (h5 : 1 ≤ ps.length ∧ ps.length ≤ 5) (k : ∀ r H', Same H H' → Ts K C H' r (ps.map (fun z => -z)) (1 - b) → Q (.ref r) H') : Ev.rOwn1 C (spTinv K C) E (fun _ => True) (.ref x) H Q := by
  obtain ⟨dx, t, hx, _⟩ := id tx
  exact ⟨x, dx, _, rfl, hx, x, ps, b, rfl, tx, h5, fun r H' s t => ⟨trivial, k r H' s t⟩⟩
end
theorem zw_snoc (ps qs : List Int) (u w : Int) (h : ps.length = qs.length) : List.zipWith (· + ·) (ps ++ [u]) (qs ++ [w]) = List.zipWith (· + ·) ps qs ++ [u + w] := by
  rw [List.zipWith_append h]
  rfl
theorem zw_comm : ∀ ps qs : List Int, List.zipWith (· + ·) ps qs = List.zipWith (· + ·) qs ps
  | [], [] => rfl
  | [], _ :: _ => rfl
  | _ :: _, [] => rfl
  | p :: ps, q :: qs => by
    rw [List.zipWith_cons_cons, List.zipWith_cons_cons, zw_comm ps qs, Int.add_comm]
theorem zw_self : ∀ ps : List Int, List.zipWith (· + ·) ps ps = ps.map (2 * ·)
  | [] => rfl
  | p :: ps => by
    rw [List.zipWith_cons_cons, zw_self ps, List.map_cons]
    congr 1
    omega
theorem sub0 (ps : List Int) : ps.map (fun z => 0 - z) = ps.map (fun z => -z) := by
  simp
theorem neg_neg (ps : List Int) : (ps.map (fun z => -z)).map (fun z => -z) = ps := by
  rw [List.map_map]
  exact (List.map_congr_left fun z _ => Int.neg_neg z).trans (List.map_id ps)
end K04

namespace K04
open PySem L2

theorem sc_joined : FnScope ["_law_pen_here", "_law_one_so", "_law_other_so", "_law_one", "_law_other", "_law_due", "_law_k", "_law_held", "_law_by", "_law_each", "_law_away"] ["_law_pen_here", "_law_one_so", "_law_other_so"] (C8.fnScope (top 25)) := C8.fnScope_by (by decide +kernel)
def spJoined (K : PySem.W.Frag) : Sp := fun vs H Q _ => ∃ (p pc a b : Addr) (ps qs : List Int) (u w n : Int), vs = [.ref p, .ref a, .ref b] ∧ (Ev.Pen H p pc n ∧ n ≤ 50000 ∧ a ≠ p ∧ SqL K H a ((ps ++ [u]).map V.int)) ∧ b ≠ p ∧ SqL K H b ((qs ++ [w]).map V.int) ∧ ps.length = qs.length ∧ (1 ≤ ps.length ∧ ps.length ≤ 5) ∧ (∀ z ∈ ps ++ [u], Ev.Lit z) ∧
  ∀ H', Ev.But p H H' → Ev.Pen H' p pc (n + 2) → Q (.bl true) H'
section
variable {P : Program} {w : World} {K : PySem.W.Frag} {mg : Str → Option Value} {base : Heap} {C : Addr}
theorem ok_joined {f : Addr} {fd : FuncData} (F : Ev.Fn K "_law_joined_right" "_law_joined_right" (top 25) f fd) (T : Tx K mg C) (c_made : Ev.GC P w K mg base 4 "_law_made" (spMade K C) []) (c_draw : Ev.GC P w K mg base 1 "_law_draw" spDraw []) (c_pick : Ev.GC P w K mg base 2 "_law_pick" spPick []) (c_teq : Ev.GM P w K mg base 1 C "__eq__" (spTeq K C) []) (c_tadd : Ev.GM P w K mg base 4 C "__add__" (spTadd K C) []) (c_tmul : Ev.GM P w K mg base 4 C "__mul__" (spTmul K C) []) (c_trmul : Ev.GM P w K mg base 4 C "__rmul__" (spTrmul K C) []) (c_tneg : Ev.GM P w K mg base 4 C "__neg__" (spTneg K C) []) (c_tinv : Ev.GM P w K mg base 4 C "__invert__" (spTinv K C) []) : Ev.GOk P w K mg base (L2.CX P w) 5 f fd ["_law_pen_here", "_law_one_so", "_law_other_so"] (spJoined K) := by
  refine Ev.gfn0 F sc_joined (fun vs H Q E h => ?_) (fun cdv A outer s H vs Q E hgd hr h => ?_)
  · obtain ⟨p, pc, a, b, ps, qs, u, w, n, rfl, ⟨hp, hn, hap, ha⟩, hbp, hb, hl, h5, lz, k⟩ := h
    rfl
  · obtain ⟨p, pc, a, b, ps, qs, u, w, n, rfl, ⟨hp, hn, hap, ha⟩, hbp, hb, hl, h5, lz, k⟩ := h
    have hu : _ + 64 < cLine := hr.units
    obtain ⟨_, hk_MOST_PARTS⟩ := T.k_MOST_PARTS
    have e10_12 : (10 : Int) ^ Int.toNat 12 = 1000000000000 := by decide
    have e10_20 : (10 : Int) ^ Int.toNat 20 = 100000000000000000000 := by decide
    have e10_25 : (10 : Int) ^ Int.toNat 25 = 10000000000000000000000000 := by decide
    have e10_30 : (10 : Int) ^ Int.toNat 30 = 1000000000000000000000000000000 := by decide
    have e10_40 : (10 : Int) ^ Int.toNat 40 = 10000000000000000000000000000000000000000 := by decide
    obtain ⟨_, hk_REACHES⟩ := T.k_REACHES
    obtain ⟨_, mrO⟩ := T.mr_Test
    obtain ⟨_, mmO⟩ := T.mm_Test
    obtain ⟨_, imO⟩ := T.im_Test
    obtain ⟨_, irO⟩ := T.ir_Test
    refine ⟨_, (pss_cons (ps_par (i := 3) (j := 4) rfl sc_joined.nd rfl rfl (by decide) rfl rfl (pa_cons (Ev.pe_c c_made hgd hr (by decide) (by rfl) (pa_cons (pv 1) pa_nil)) (pa_cons (Ev.pe_c c_made hgd hr (by decide) (by rfl) (pa_cons (pv 2) pa_nil)) pa_nil)) (by rfl))
  (pss_cons (ps_set (i := 5) sc_joined.nd rfl (.inl rfl) (Ev.pe_c c_made hgd hr (by decide) (by rfl) (pa_cons (pe_lc (own := [("_law_k", 6)]) rfl sc_joined.nd (pi_range1 (by rfl) T.m_range (pa_cons (pe_callB call_len_seq (by rfl) T.m_len (by decide +kernel) (pa_cons (pv 1) pa_nil)) pa_nil)) (blkOk_by (N := ["_law_pen_here", "_law_one_so", "_law_other_so", "_law_one", "_law_other", "_law_due", "_law_k", "_law_held", "_law_by", "_law_each", "_law_away"]) (sc := (C8.fnScope (top 25))) (by decide +kernel)) (fun _ _ _ _ _ => (pg_name (i := 6) sc_joined.nd rfl (.inl rfl))) (fun _ _ _ _ _ => pts_nil) (fun _ _ _ _ _ => (pe_op op_add (pe_ix (Ev.ix_listK (K := K)) (pv 1) (pv 6) (fun _ _ => rfl)) (pe_ix (Ev.ix_listK (K := K)) (pv 2) (pv 6) (fun _ _ => rfl))))) pa_nil)))
  (pss_cons (ps_set (i := 7) sc_joined.nd rfl (.inl rfl) (pv 3))
  (pss_cons (ps_aug (i := 7) sc_joined.nd rfl (.inl rfl) (pv 4) (Ev.ip_binO (op := .Add) c_tadd T.bo_Test T.niAdd_Test hgd hr (by decide) passL))
  (pss_cons (ps_if (pw_or (pt_cmpR (Ev.op_neO (K := K) c_teq T.ne_Test hgd hr (by decide) passL) (pe_op (Ev.op_binO (op := .Add) c_tadd T.bo_Test hgd hr (by decide) passL) (pv 3) (pv 4)) (pv 5) (nomark _)) (pw_or (pt_cmpR (Ev.op_neO (K := K) c_teq T.ne_Test hgd hr (by decide) passL) (pe_op (Ev.op_binO (op := .Add) c_tadd T.bo_Test hgd hr (by decide) passL) (pv 4) (pv 3)) (pv 5) (nomark _)) (pw_or (pt_cmpR (Ev.op_neO (K := K) c_teq T.ne_Test hgd hr (by decide) passL) (pv 7) (pv 5) (nomark _)) (pw_or1 (pt_cmpR (Ev.op_neO (K := K) c_teq T.ne_Test hgd hr (by decide) passL) (pv 3) (Ev.pe_c c_made hgd hr (by decide) (by rfl) (pa_cons (pv 1) pa_nil)) (nomark _)))))).pt
  (pss_one (ps_ret pe_bl))
  pss_nil)
  (pss_cons (ps_set (i := 8) sc_joined.nd rfl (.inr rfl) (Ev.pe_c c_pick hgd hr (by decide) (by rfl) (pa_cons (pv 0) (pa_cons (pe_lst (pa_cons pe_int (pa_cons pe_int (pa_cons pe_int (pa_cons (Ev.pe_c c_draw hgd hr (by decide) (by rfl) (pa_cons (pv 0) (pa_cons pe_int pa_nil))) (pa_cons (pe_op op_pow pe_int pe_int) pa_nil)))))) pa_nil))))
  (pss_cons (ps_set (i := 5) sc_joined.nd rfl (.inl rfl) (Ev.pe_c c_made hgd hr (by decide) (by rfl) (pa_cons (pe_lc (own := [("_law_each", 9)]) rfl sc_joined.nd (pi_list (pv 1)) (blkOk_by (N := ["_law_pen_here", "_law_one_so", "_law_other_so", "_law_one", "_law_other", "_law_due", "_law_k", "_law_held", "_law_by", "_law_each", "_law_away"]) (sc := (C8.fnScope (top 25))) (by decide +kernel)) (fun _ _ _ _ _ => (pg_name (i := 9) sc_joined.nd rfl (.inl rfl))) (fun _ _ _ _ _ => pts_nil) (fun _ _ _ _ _ => (pe_op op_mulW (pv 8) (pv 9)))) pa_nil)))
  (pss_cons (ps_if (pw_or (pt_cmpR (Ev.op_neO (K := K) c_teq T.ne_Test hgd hr (by decide) passL) (pe_op (Ev.op_rmulO c_trmul T.bo_Test mmO hgd hr (by decide) passL) (pv 8) (pv 3)) (pv 5) (nomark _)) (pw_or (pt_cmpR (Ev.op_neO (K := K) c_teq T.ne_Test hgd hr (by decide) passL) (pe_op (Ev.op_binOI (op := .Mult) c_tmul T.bo_Test mrO (.inr ⟨_, rfl⟩) imO irO hgd hr (by decide) passL) (pv 3) (pv 8)) (pv 5) (nomark _)) (pw_or (pt_cmpR (Ev.op_neO (K := K) c_teq T.ne_Test hgd hr (by decide) passL) (pe_op (Ev.op_binO (op := .Add) c_tadd T.bo_Test hgd hr (by decide) passL) (pv 3) (pv 3)) (pe_op (Ev.op_rmulO c_trmul T.bo_Test mmO hgd hr (by decide) passL) pe_int (pv 3)) (nomark _)) (pw_or1 (pt_cmpR (Ev.op_neO (K := K) c_teq T.ne_Test hgd hr (by decide) passL) (pv 4) (Ev.pe_c c_made hgd hr (by decide) (by rfl) (pa_cons (pv 2) pa_nil)) (nomark _)))))).pt
  (pss_one (ps_ret pe_bl))
  pss_nil)
  (pss_cons (ps_set (i := 5) sc_joined.nd rfl (.inl rfl) (Ev.pe_c c_made hgd hr (by decide) (by rfl) (pa_cons (pe_lc (own := [("_law_each", 9)]) rfl sc_joined.nd (pi_list (pv 1)) (blkOk_by (N := ["_law_pen_here", "_law_one_so", "_law_other_so", "_law_one", "_law_other", "_law_due", "_law_k", "_law_held", "_law_by", "_law_each", "_law_away"]) (sc := (C8.fnScope (top 25))) (by decide +kernel)) (fun _ _ _ _ _ => (pg_name (i := 9) sc_joined.nd rfl (.inl rfl))) (fun _ _ _ _ _ => pts_nil) (fun _ _ _ _ _ => (pe_op op_sub pe_int (pv 9)))) pa_nil)))
  (pss_cons (ps_if (pw_or (pt_cmpR (Ev.op_neO (K := K) c_teq T.ne_Test hgd hr (by decide) passL) (pe_un (Ev.un_negO c_tneg hgd hr (by decide) passL) (pv 3)) (pv 5) (nomark _)) (pw_or1 (pt_cmpR (Ev.op_neO (K := K) c_teq T.ne_Test hgd hr (by decide) passL) (pe_un (Ev.un_negO c_tneg hgd hr (by decide) passL) (pe_un (Ev.un_negO c_tneg hgd hr (by decide) passL) (pv 3))) (pv 3) (nomark _)))).pt
  (pss_one (ps_ret pe_bl))
  pss_nil)
  (pss_cons (ps_set (i := 10) sc_joined.nd rfl (.inl rfl) (pe_op op_cat (pe_lc (own := [("_law_each", 9)]) rfl sc_joined.nd (pi_list (pe_slice sl_list (pv 1) po_none (po_some (pe_op op_sub (pe_callB call_len_seq (by rfl) T.m_len (by decide +kernel) (pa_cons (pv 1) pa_nil)) pe_int)))) (blkOk_by (N := ["_law_pen_here", "_law_one_so", "_law_other_so", "_law_one", "_law_other", "_law_due", "_law_k", "_law_held", "_law_by", "_law_each", "_law_away"]) (sc := (C8.fnScope (top 25))) (by decide +kernel)) (fun _ _ _ _ _ => (pg_name (i := 9) sc_joined.nd rfl (.inl rfl))) (fun _ _ _ _ _ => pts_nil) (fun _ _ _ _ _ => (pe_op op_sub pe_int (pv 9)))) (pe_lst (pa_cons (pe_op op_sub pe_int (pe_ix ix_list (pv 1) (pe_op op_sub (pe_callB call_len_seq (by rfl) T.m_len (by decide +kernel) (pa_cons (pv 1) pa_nil)) pe_int) (fun _ _ => rfl))) pa_nil))))
  (pss_one (ps_ret (pe_and (pe_cmpR (Ev.op_eqO (K := K) c_teq hgd hr (by decide) passL) (pe_un (Ev.un_invO c_tinv hgd hr (by decide) passL) (pv 3)) (Ev.pe_c c_made hgd hr (by decide) (by rfl) (pa_cons (pv 10) pa_nil)) (nomark _)) (pe_one (pe_cmpR (Ev.op_eqO (K := K) c_teq hgd hr (by decide) passL) (pe_un (Ev.un_invO c_tinv hgd hr (by decide) passL) (pe_un (Ev.un_invO c_tinv hgd hr (by decide) passL) (pv 3))) (pv 3) (nomark _))))))))))))))))), ?_⟩
    have lp : ∀ z ∈ ps, Ev.Lit z := fun z h => lz z (List.mem_append_left _ h)
    have lu : Ev.Lit u := lz u (by simp)
    have h5q : 1 ≤ qs.length ∧ qs.length ≤ 5 := by omega
    walk_at "ev rd"
    refine ⟨a, ps, u, rfl, ha, h5, fun x1 H1 s1 t1 => ?_⟩
    walk_at "ev rd"
    refine ⟨b, qs, w, rfl, s1.seq hb, h5q, fun x2 H2 s2 t2 => ?_⟩
    have s02 := s1.trans s2
    have ha2 := s02.seq ha
    have hb2 := s02.seq hb
    have t12 := t1.same s2
    walk_at "ev rd"
    refine ⟨_, _, rfl, Or.inl ha2, ?_⟩
    walk_at "ev rd"
    rw [List.length_map]
    refine ⟨by omega, by simp; omega, fun D hD => Ev.lcR (f := fun i => ((List.zipWith (· + ·) ps qs ++ [u + w])[i]?).map V.int) hD (by simp; omega) (fun i H3 R N hi hS hR hN => ?_) (fun H3 hS h3 => ?_)⟩
    · have hi' : i < (ps ++ [u]).length := by simpa using hi
      have hi2 : i < (qs ++ [w]).length := by simp at hi' ⊢; omega
      refine ⟨rfl, ?_⟩
      walk_at "ev rd"
      refine ⟨_, _, _, _, rfl, rfl, hS.seq ha2, at_of (j := i) (by omega) (by rw [List.getElem?_map, List.getElem?_eq_getElem hi']; rfl), ?_⟩
      walk_at "ev rd"
      refine ⟨_, _, _, _, rfl, rfl, hS.seq hb2, at_of (j := i) (by omega) (by rw [List.getElem?_map, List.getElem?_eq_getElem hi2]; rfl), ?_⟩
      walk_at "ev rd"
      refine hR _ _ ?_ (Same.refl _)
      rw [← zw_snoc ps qs u w hl, List.getElem?_zipWith, List.getElem?_eq_getElem hi', List.getElem?_eq_getElem hi2]
      rfl
    · rw [show ((ps ++ [u]).length : Int).toNat = (List.zipWith (· + ·) ps qs ++ [u + w]).length by simp; omega, Ev.outs_gen] at h3
      walk_at "ev rd"
      refine ⟨D, List.zipWith (· + ·) ps qs, u + w, rfl, SqL.of h3, by simp; omega, fun x3 H4 s4 t4 => ?_⟩
      have s24 := hS.trans s4
      walk_at "ev rd"
      refine add_test (t12.same s24) (t2.same s24) hl h5 fun x4 H5 s5 t5 => ?_
      have s25 := s24.trans s5
      walk_at "ev rd"
      refine add_test (t12.same s25) (t2.same s25) hl h5 fun x5 H6 s6 t6 => ?_
      have s26 := s25.trans s6
      have s46 := s5.trans s6
      walk_at "ev rd"
      refine ne_test T.ci_Test t6 (t4.same s46) rfl rfl ?_
      walk_at "ev rd"
      refine add_test (t2.same s26) (t12.same s26) hl.symm h5q fun x6 H7 s7 t7 => ?_
      have s27 := s26.trans s7
      walk_at "ev rd"
      refine ne_test T.ci_Test t7 (t4.same (s46.trans s7)) (zw_comm _ _) (Int.add_comm _ _) ?_
      walk_at "ev rd"
      refine ne_test T.ci_Test (t5.same (s6.trans s7)) (t4.same (s46.trans s7)) rfl rfl ?_
      walk_at "ev rd"
      refine ⟨a, ps, u, rfl, s27.seq ha2, h5, fun x7 H8 s8 t8 => ?_⟩
      have s28 := s27.trans s8
      walk_at "ev rd"
      refine ne_test T.ci_Test (t12.same s28) t8 rfl rfl ?_
      have s08 := s02.trans s28
      have p8 := hp.same s08
      walk_at "ev rd"
      refine ⟨_, _, _, _, rfl, (by walk_at "ev pen"), (by omega), (by omega), (by omega), fun d H9 d0 d1 b9 p9 => ?_⟩
      walk_at "ev rd"
      refine ⟨_, _, _, _, _, rfl, (by walk_at "ev pen"), by omega, (by walk_at "ev hl"), (by walk_at "ev ne"), ⟨by simp, by simp⟩, fun v H10 hv b10 p10 => ?_⟩
      have hv' : ∃ m : Int, v = .int m ∧ 0 ≤ m ∧ Ev.Lit m := by
        simp only [e10_30] at hv
        simp only [List.mem_cons, List.not_mem_nil, or_false] at hv
        rcases hv with rfl | rfl | rfl | rfl | rfl <;> refine ⟨_, rfl, ?_, ?_⟩ <;> first | omega | (unfold Ev.Lit; omega)
      obtain ⟨m, rfl, m0, lm⟩ := hv'
      have bB : Ev.But p H8 H10 := (b9.new (by assumption)).trans b10
      have pX : Ev.Pen H10 p pc (n + 2) := p10.mono (by omega)
      have bX : Ev.But p H H10 := (Ev.Same.but s08 p).trans bB
      have aX := bX.seqL hap ha
      have hbX := bX.seqL hbp hb
      have tX := (t12.same s28).but p8 bB
      have uX := (t2.same s28).but p8 bB
      clear hS h3
      generalize H10 = HX at *
      walk_at "ev rd"
      refine ⟨⟨_, aX⟩, fun D2 hD2 => Ev.lcL (f := fun i => (((ps ++ [u]).map (m * ·))[i]?).map V.int) aX hD2 (by simp; omega) (fun i z H3 R N hi hS hR hN => ?_) (fun H11 hS h3 => ?_)⟩
      · obtain ⟨y, e, rfl, my⟩ := Ev.map_int hi
        refine ⟨rfl, ?_⟩
        walk_at "ev rd"
        refine ⟨Ev.Lit.mul lm (lz _ my), ?_⟩
        exact hR _ _ (by rw [List.getElem?_map, e]; rfl) (Same.refl _)
      · rw [show (List.map V.int (ps ++ [u])).length = ((ps ++ [u]).map (m * ·)).length by simp, Ev.outs_gen, List.map_append (f := (m * ·))] at h3
        walk_at "ev rd"
        refine ⟨D2, ps.map (m * ·), m * u, rfl, SqL.of h3, by simpa using h5, fun x8 H12 s12 t12' => ?_⟩
        have sX2 := hS.trans s12
        walk_at "ev rd"
        refine rmul_test (tX.same sX2) h5 lp lu lm m0 fun y1 H13 s13 v1 => ?_
        walk_at "ev rd"
        refine ne_test T.ci_Test v1 (t12'.same s13) rfl rfl ?_
        walk_at "ev rd"
        have sX3 := sX2.trans s13
        refine mul_test (tX.same sX3) h5 lp lu lm m0 fun y2 H14 s14 v2 => ?_
        walk_at "ev rd"
        refine ne_test T.ci_Test v2 (t12'.same (s13.trans s14)) rfl rfl ?_
        have sX4 := sX3.trans s14
        walk_at "ev rd"
        refine add_test (tX.same sX4) (tX.same sX4) rfl h5 fun y3 H15 s15 v3 => ?_
        have sX5 := sX4.trans s15
        walk_at "ev rd"
        refine rmul_test (m := 2) (tX.same sX5) h5 lp lu (by unfold Ev.Lit; decide) (by decide) fun y4 H16 s16 v4 => ?_
        walk_at "ev rd"
        refine ne_test T.ci_Test (v3.same s16) v4 (zw_self ps) (by omega) ?_
        have sX6 := sX5.trans s16
        walk_at "ev rd"
        refine ⟨b, qs, w, rfl, sX6.seq hbX, h5q, fun y5 H17 s17 v5 => ?_⟩
        have sX7 := sX6.trans s17
        walk_at "ev rd"
        refine ne_test T.ci_Test (uX.same sX7) v5 rfl rfl ?_
        have aX7 := sX7.seq aX
        walk_at "ev rd"
        refine ⟨⟨_, aX7⟩, fun D3 hD3 => Ev.lcL (f := fun i => (((ps ++ [u]).map (fun z => 0 - z))[i]?).map V.int) aX7 hD3 (by simp; omega) (fun i z H3 R N hi hS hR hN => ?_) (fun H18 hS18 h18 => ?_)⟩
        · obtain ⟨y, e, rfl, my⟩ := Ev.map_int hi
          refine ⟨rfl, ?_⟩
          walk_at "ev rd"
          exact hR _ _ (by rw [List.getElem?_map, e]; rfl) (Same.refl _)
        · rw [show (List.map V.int (ps ++ [u])).length = ((ps ++ [u]).map (fun z => 0 - z)).length by simp, Ev.outs_gen, List.map_append (f := fun z => 0 - z)] at h18
          walk_at "ev rd"
          refine ⟨D3, ps.map (fun z => 0 - z), 0 - u, rfl, SqL.of h18, by simpa using h5, fun x9 H19 s19 t19 => ?_⟩
          have sX9 := (sX7.trans hS18).trans s19
          walk_at "ev rd"
          refine neg_test (tX.same sX9) h5 fun y6 H20 s20 v6 => ?_
          walk_at "ev rd"
          refine ne_test T.ci_Test v6 (t19.same s20) (sub0 ps).symm (by omega) ?_
          have sX10 := sX9.trans s20
          walk_at "ev rd"
          refine neg_test (tX.same sX10) h5 fun y7 H21 s21 v7 => ?_
          refine neg_test v7 (by simpa using h5) fun y8 H22 s22 v8 => ?_
          have sX12 := (sX10.trans s21).trans s22
          walk_at "ev rd"
          refine ne_test T.ci_Test v8 (tX.same sX12) (neg_neg ps) (by omega) ?_
          have aX12 := sX12.seq aX
          walk_at "ev rd"
          refine ⟨_, _, rfl, Or.inl aX12, ?_⟩
          walk_at "ev rd"
          refine ⟨_, _, rfl, aX12, fun l nl => ?_⟩
          rw [cut_init]
          walk_at "ev rd"
          have aX13 := (Ev.Same.new (o := .lst (ps.map V.int)) (Same.refl H22) nl).seq aX12
          refine fun D4 hD4 => Ev.lcL (f := fun i => ((ps.map (fun z => 0 - z))[i]?).map V.int) (SqL.of upd_same) hD4 (by simp; omega) (fun i z H3 R N hi hS hR hN => ?_) (fun H23 hS23 h23 => ?_)
          · obtain ⟨y, e, rfl, my⟩ := Ev.map_int hi
            refine ⟨rfl, ?_⟩
            walk_at "ev rd"
            exact hR _ _ (by rw [List.getElem?_map, e]; rfl) (Same.refl _)
          · rw [show (List.map V.int ps).length = (ps.map (fun z => 0 - z)).length by simp, Ev.outs_gen] at h23
            have aX14 := hS23.seq aX13
            have sX14 : Same HX H23 := (sX12.trans (Ev.Same.new (Same.refl _) nl)).trans hS23
            walk_at "ev rd"
            refine ⟨_, _, rfl, Or.inl aX14, ?_⟩
            walk_at "ev rd"
            refine ⟨_, _, _, _, rfl, rfl, aX14, at_of (j := ps.length) (by simp) (show _ = some (V.int u) by simp), ?_⟩
            walk_at "ev rd"
            refine ⟨_, _, _, _, rfl, rfl, (by walk_at "ev hl"), (by walk_at "ev hl"), by rw [sizeLine_eq]; simp; omega, fun l5 nl5 => ?_⟩
            have e5 : (ps.map (fun z => 0 - z)).map V.int ++ [V.int (1 - u)] = (ps.map (fun z => 0 - z) ++ [1 - u]).map V.int := by simp
            rw [e5]
            rename_i l4
            have sX16 := Ev.Same.new (o := .lst ((ps.map (fun z => 0 - z) ++ [1 - u]).map V.int)) (Ev.Same.new sX14 hfr) nl5
            have hl5 : SqL K _ l5 ((ps.map (fun z => 0 - z) ++ [1 - u]).map V.int) := SqL.of (upd_same (H := upd H23 l4 (.lst [.int (1 - u)])))
            walk_at "ev rd"
            refine inv_test (tX.same sX16) h5 fun y9 H24 s24 v9 => ?_
            walk_at "ev rd"
            refine ⟨l5, ps.map (fun z => 0 - z), 1 - u, rfl, s24.seq hl5, by simpa using h5, fun y10 H25 s25 v10 => ?_⟩
            walk_at "ev rd"
            refine eq_test T.ci_Test (v9.same s25) v10 (sub0 ps).symm rfl ?_
            have sX18 := (sX16.trans s24).trans s25
            walk_at "ev rd"
            refine inv_test (tX.same sX18) h5 fun y11 H26 s26 v11 => ?_
            refine inv_test v11 (by simpa using h5) fun y12 H27 s27 v12 => ?_
            have sX20 := (sX18.trans s26).trans s27
            walk_at "ev rd"
            refine eq_test T.ci_Test v12 (tX.same sX20) (neg_neg ps) (by omega) ?_
            exact k _ (bX.trans (Ev.Same.but sX20 p)) (pX.same sX20)
end
end K04

namespace K04
open PySem L2

theorem sc_tstr : FnScope ["self", "part"] ["self"] (C8.fnScope (inClass (top 16) 12)) := C8.fnScope_by (by decide +kernel)
def words (ps : List Int) (b : Int) : List Str := ps.map (fun z => ((toString z : String) : Str)) ++ [(">=" : Str), ((toString b : String) : Str)]
def spTstr (K : PySem.W.Frag) (C : Addr) : Sp := fun vs H Q _ => ∃ (x : Addr) (ps : List Int) (b : Int), vs = [.ref x] ∧ Ts K C H x ps b ∧ ps.length ≤ 5 ∧ (∀ z ∈ ps, Ev.Lit z) ∧ Ev.Lit b ∧ ((words ps b).map (·.length)).sum + (words ps b).length * (Str.ofString " ").length ≤ 16777216 ∧ ∀ H', Same H H' → Q (.str (Txt.join " " (words ps b))) H'
section
variable {P : Program} {w : World} {K : PySem.W.Frag} {mg : Str → Option Value} {base : Heap} {C : Addr}
theorem ok_tstr {f : Addr} {fd : FuncData} (F : Ev.Fn K "__str__" "Test.__str__" (inClass (top 16) 12) f fd) (T : Tx K mg C) : Ev.GOk P w K mg base (L2.CX P w) 1 f fd ["self"] (spTstr K C) := by
  refine Ev.gfn0 F sc_tstr (fun vs H Q E h => ?_) (fun cdv A outer s H vs Q E hgd hr h => ?_)
  · obtain ⟨x, ps, b, rfl, ⟨dx, t, hx, ht⟩, h5, lp, lb, hz, k⟩ := h
    rfl
  · obtain ⟨x, ps, b, rfl, ⟨dx, t, hx, ht⟩, h5, lp, lb, hz, k⟩ := h
    have hu : _ + 64 < cLine := hr.units
    obtain ⟨_, hk_MOST_PARTS⟩ := T.k_MOST_PARTS
    have e10_12 : (10 : Int) ^ Int.toNat 12 = 1000000000000 := by decide
    have e10_20 : (10 : Int) ^ Int.toNat 20 = 100000000000000000000 := by decide
    have e10_25 : (10 : Int) ^ Int.toNat 25 = 10000000000000000000000000 := by decide
    have e10_30 : (10 : Int) ^ Int.toNat 30 = 1000000000000000000000000000000 := by decide
    have e10_40 : (10 : Int) ^ Int.toNat 40 = 10000000000000000000000000000000000000000 := by decide
    obtain ⟨_, hk_REACHES⟩ := T.k_REACHES
    obtain ⟨_, mrO⟩ := T.mr_Test
    obtain ⟨_, mmO⟩ := T.mm_Test
    obtain ⟨_, imO⟩ := T.im_Test
    obtain ⟨_, irO⟩ := T.ir_Test
    refine ⟨_, (pss_one (ps_ret (pe_join pe_str (pe_lst (StX.pa_star (pe_lc (own := [("part", 1)]) rfl sc_tstr.nd (pi_tup (pe_fld (pv 0) rfl)) (blkOk_by (N := ["self", "part"]) (sc := (C8.fnScope (inClass (top 16) 12))) (by decide +kernel)) (fun _ _ _ _ _ => (pg_name (i := 1) sc_tstr.nd rfl (.inl rfl))) (fun _ _ _ _ _ => pts_nil) (fun _ _ _ _ _ => (pe_callTy call_str_int (by rfl) T.m_str (by decide +kernel) (pa_cons (pv 1) pa_nil)))) (pa_cons (pe_glob (by rfl) hk_REACHES Ev.rel_str) (pa_cons (pe_callTy call_str_int (by rfl) T.m_str (by decide +kernel) (pa_cons (pe_fld (pv 0) rfl) pa_nil)) pa_nil))))))), ?_⟩
    have ht1 := fun H1 (s : Same H H1) => Ev.Same.seqT s ht
    walk_at "ev rd"
    refine ⟨⟨_, rfl⟩, ?_⟩
    walk_at "ev rd"
    refine ⟨⟨_, ht1 _ (by intro b o h; walk_at "ev hl")⟩, fun D hD => Ev.lcT (f := fun i => ((ps.map (fun z => ((toString z : String) : Str)))[i]?).map V.str) (ht1 _ (by intro b o h; walk_at "ev hl")) hD (by simp; omega) (fun i z H1 R N hi hS hR hN => ?_) (fun H1 hS h1 => ?_)⟩
    · obtain ⟨n, e, rfl, m1⟩ := Ev.map_int hi
      refine ⟨rfl, ?_⟩
      walk_at "ev rd"
      refine ⟨Nat.lt_trans (lp _ m1).log (by decide), ?_⟩
      exact hR _ _ (by rw [List.getElem?_map, e]; rfl) (Same.refl _)
    · rw [show (List.map V.int ps).length = (ps.map (fun z => ((toString z : String) : Str))).length by simp, Ev.outs_gen] at h1
      have s1 : Same H H1 := fun b o h => hS _ _ (by walk_at "ev hl")
      have hx1 := s1 _ _ hx
      refine ⟨D, _, rfl, Or.inr (SqL.of h1), ?_⟩
      walk_at "ev rd"
      refine ⟨Nat.lt_trans lb.log (by decide), ?_⟩
      refine ⟨by rw [sizeLine_eq]; simp; omega, fun l nl => ?_⟩
      refine ⟨_, _, words ps b, rfl, rfl, Or.inl (SqL.of (by rw [upd_same]; simp [words])), hz, ?_⟩
      exact k _ (Ev.Same.new s1 nl)
end
end K04

namespace K04
open PySem L2

theorem sc_drawn : FnScope ["_law_pen_here", "_law_many", "_law_by", "_law_k"] ["_law_pen_here", "_law_many"] (C8.fnScope (top 27)) := C8.fnScope_by (by decide +kernel)
def spDrawn : Sp := fun vs H Q _ => ∃ (p c : Addr) (m n : Int), vs = [.ref p, .int m] ∧ Ev.Pen H p c n ∧ n ≤ 40000 ∧ 1 ≤ m ∧ m ≤ 5 ∧
  ∀ (r : Addr) (ps : List Int) (b : Int) (H' : Hp), Ev.But p H H' → r ≠ p → H' r = some (.lst ((ps ++ [b]).map V.int)) → (ps.length : Int) = m → (∀ z ∈ ps ++ [b], z.natAbs < 1000000000000000000000000000000000000000000000) → Ev.Pen H' p c (n + 20) → Q (.ref r) H'
section
variable {P : Program} {w : World} {K : PySem.W.Frag} {mg : Str → Option Value} {base : Heap} {C : Addr}
theorem ok_drawn {f : Addr} {fd : FuncData} (F : Ev.Fn K "_law_drawn" "_law_drawn" (top 27) f fd) (T : Tx K mg C) (c_small : Ev.GC P w K mg base 2 "_law_small" spSmall []) (c_number : Ev.GC P w K mg base 3 "_law_number" spNumber []) (c_pick : Ev.GC P w K mg base 2 "_law_pick" spPick []) : Ev.GOk P w K mg base (L2.CX P w) 4 f fd ["_law_pen_here", "_law_many"] spDrawn := by
  refine Ev.gfn0 F sc_drawn (fun vs H Q E h => ?_) (fun cdv A outer s H vs Q E hgd hr h => ?_)
  · obtain ⟨p, c, m, n, rfl, hp, hn, m0, m1, k⟩ := h
    rfl
  · obtain ⟨p, c, m, n, rfl, hp, hn, m0, m1, k⟩ := h
    have hu : _ + 64 < cLine := hr.units
    obtain ⟨_, hk_MOST_PARTS⟩ := T.k_MOST_PARTS
    have e10_12 : (10 : Int) ^ Int.toNat 12 = 1000000000000 := by decide
    have e10_20 : (10 : Int) ^ Int.toNat 20 = 100000000000000000000 := by decide
    have e10_25 : (10 : Int) ^ Int.toNat 25 = 10000000000000000000000000 := by decide
    have e10_30 : (10 : Int) ^ Int.toNat 30 = 1000000000000000000000000000000 := by decide
    have e10_40 : (10 : Int) ^ Int.toNat 40 = 10000000000000000000000000000000000000000 := by decide
    obtain ⟨_, hk_REACHES⟩ := T.k_REACHES
    obtain ⟨_, mrO⟩ := T.mr_Test
    obtain ⟨_, mmO⟩ := T.mm_Test
    obtain ⟨_, imO⟩ := T.im_Test
    obtain ⟨_, irO⟩ := T.ir_Test
    refine ⟨_, (pss_cons (ps_set (i := 2) sc_drawn.nd rfl (.inr rfl) (Ev.pe_c c_pick hgd hr (by decide) (by rfl) (pa_cons (pv 0) (pa_cons (pe_lst (pa_cons pe_int (pa_cons pe_int (pa_cons pe_int (pa_cons pe_int (pa_cons pe_int (pa_cons pe_int pa_nil))))))) pa_nil))))
  (pss_one (ps_ret (pe_op op_cat (pe_lc (own := [("_law_k", 3)]) rfl sc_drawn.nd (pi_range1 (by rfl) T.m_range (pa_cons (pv 1) pa_nil)) (blkOk_by (N := ["_law_pen_here", "_law_many", "_law_by", "_law_k"]) (sc := (C8.fnScope (top 27))) (by decide +kernel)) (fun _ _ _ _ _ => (pg_name (i := 3) sc_drawn.nd rfl (.inl rfl))) (fun _ _ _ _ _ => pts_nil) (fun _ _ _ _ _ => (pe_op op_mul (pv 2) (Ev.pe_c c_small hgd hr (by decide) (by rfl) (pa_cons (pv 0) (pa_cons pe_int pa_nil)))))) (pe_lst (pa_cons (Ev.pe_c c_pick hgd hr (by decide) (by rfl) (pa_cons (pv 0) (pa_cons (pe_lst (pa_cons (Ev.pe_c c_small hgd hr (by decide) (by rfl) (pa_cons (pv 0) (pa_cons pe_int pa_nil))) (pa_cons (Ev.pe_c c_number hgd hr (by decide) (by rfl) (pa_cons (pv 0) pa_nil)) pa_nil))) pa_nil))) pa_nil)))))), ?_⟩
    walk_at "ev rd"
    refine ⟨_, _, _, _, _, rfl, (by walk_at "ev pen"), by omega, (by walk_at "ev hl"), (by walk_at "ev ne"), ⟨by simp, by simp⟩, fun v H1 hv b1 p1 => ?_⟩
    have hv' : ∃ z : Int, v = .int z ∧ 0 ≤ z ∧ z ≤ 35 := by
      simp only [List.mem_cons, List.not_mem_nil, or_false] at hv
      rcases hv with rfl | rfl | rfl | rfl | rfl | rfl <;> refine ⟨_, rfl, ?_, ?_⟩ <;> omega
    obtain ⟨z, rfl, z0, z1⟩ := hv'
    have b01 : Ev.But p H H1 := ((Ev.But.refl p H).new (by assumption)).trans b1
    walk_at "ev rd"
    refine ⟨by omega, by omega, fun D hD => Ev.lcRI (P := fun i acc Hi => Ev.But p H1 Hi ∧ Ev.Pen Hi p c (n + 1 + i) ∧ ∃ ns : List Int, acc = ns.map V.int ∧ ns.length = i ∧ ∀ y ∈ ns, y.natAbs < 1000000000000000000000000000000000000000000000) (by omega) ⟨(Ev.But.refl p H1).new hD, (p1.new hD).mono (by omega), [], rfl, rfl, by simp⟩ (fun i acc Hi R N hi hDi hP hR hN => ?_) (fun acc Hi hla hDi hP => ?_)⟩
    · obtain ⟨bi, pi, ns, rfl, hl, hz⟩ := hP
      refine ⟨rfl, ?_⟩
      walk_at "ev rd"
      refine ⟨_, _, _, _, rfl, pi, by omega, by omega, by omega, fun d H4 d0 d1 b4 p4 => ?_⟩
      have hDp : D ≠ p := Ev.Pen.ne p1 hD
      have hDc : D ≠ c := Ev.Pen.neC p1 hD
      walk_at "ev rd"
      refine hR _ _ (b4 _ _ hDi hDp) ⟨?_, (p4.mono (by omega)).set hDp hDc, ns ++ [z * d], by simp, by simp [hl], ?_⟩
      · intro a o ha nap
        exact Ev.get_ne (ne_of_none ha hD) (b4 _ _ (bi _ _ ha nap) nap)
      · intro y hy
        rcases List.mem_append.mp hy with hy | hy
        · exact hz y hy
        · rw [List.mem_singleton] at hy
          subst hy
          rw [Int.natAbs_mul]
          have : z.natAbs * d.natAbs ≤ 35 * 9 := Nat.mul_le_mul (by omega) (by omega)
          omega
    · obtain ⟨bi, pi, ps, rfl, hl, hz⟩ := hP
      have hDp : D ≠ p := Ev.Pen.ne p1 hD
      have em : (ps.length : Int) = m := by omega
      walk_at "ev rd"
      refine ⟨_, _, _, _, rfl, pi, by omega, by omega, by omega, fun d H4 d0 d1 b4 p4 => ?_⟩
      walk_at "ev rd"
      refine ⟨_, _, _, rfl, p4, by omega, fun y H5 hy b5 p5 => ?_⟩
      walk_at "ev rd"
      refine ⟨_, _, _, _, _, rfl, (by walk_at "ev pen"), by omega, (by walk_at "ev hl"), (by walk_at "ev ne"), ⟨by simp, by simp⟩, fun v H6 hv b6 p6 => ?_⟩
      have hv' : ∃ y : Int, v = .int y ∧ y.natAbs < 1000000000000000000000000000000000000000000000 := by
        simp only [List.mem_cons, List.not_mem_nil, or_false] at hv
        rcases hv with rfl | rfl
        · exact ⟨_, rfl, by omega⟩
        · exact ⟨_, rfl, hy⟩
      obtain ⟨w2, rfl, hw⟩ := hv'
      have b46 : Ev.But p Hi H6 := ((b4.trans b5).new (by assumption)).trans b6
      have hD6 := b46 _ _ hDi hDp
      walk_at "ev rd"
      refine ⟨_, _, _, _, rfl, rfl, (by walk_at "ev hl"), (by walk_at "ev hl"), by rw [sizeLine_eq]; simp; omega, fun l nl => ?_⟩
      rename_i l2
      have nl2 := hfr
      refine k l ps w2 _ (((b01.trans bi).trans b46).new nl2 |>.new nl) (Ev.Pen.ne (p6.new nl2) nl) (by rw [upd_same]; simp) em ?_ (((p6.new nl2).new nl).mono (by omega))
      intro y hy
      rcases List.mem_append.mp hy with hy | hy
      · exact hz y hy
      · rw [List.mem_singleton] at hy
        subst hy
        exact hw
end
end K04

namespace K04
open PySem L2
theorem tp_lit {ps : List Int} (h : ∀ z ∈ ps, Ev.Lit z) : ∀ z ∈ tp ps, Ev.Lit z := by
  unfold tp
  split
  · exact h
  · intro z hz
    obtain ⟨y, hy, rfl⟩ := List.mem_map.mp hz
    exact Nat.lt_of_le_of_lt (Int.natAbs_ediv_le_natAbs y _) (h y hy)
theorem neg_lit {ps : List Int} (h : ∀ z ∈ ps, Ev.Lit z) : ∀ z ∈ ps.map (fun z => -z), Ev.Lit z := by
  intro z hz
  obtain ⟨y, hy, rfl⟩ := List.mem_map.mp hz
  have := h y hy
  unfold Ev.Lit at this ⊢
  rw [Int.natAbs_neg]
  exact this
theorem sgn1 (ps qs : List Int) (e : Int) : decide (1 - e ≤ Ev.dot (ps.map (fun z => -z)) qs) = decide (Ev.dot ps qs < e) := by
  rw [dot_neg]
  exact decide_eq_decide.mpr (by omega)
theorem sgn2 (ps qs : List Int) (e : Int) : decide (-e ≤ Ev.dot (ps.map (fun z => -z)) qs) = decide (Ev.dot ps qs ≤ e) := by
  rw [dot_neg]
  exact decide_eq_decide.mpr (by omega)
theorem sgn3 (ps qs : List Int) (e : Int) : decide (tb ps e ≤ Ev.dot (tp ps) qs) = decide (e ≤ Ev.dot ps qs) := decide_eq_decide.mpr (near_iff ps qs e)
theorem due_pos {ps : List Int} {u : Int} (h : gcds ps ≠ 0) : (ps.map (· / (gcds ps : Int))).map V.int ++ [V.int (0 - (0 - u) / (gcds ps : Int))] = (tp ps ++ [tb ps u]).map V.int := by
  unfold tp tb
  rw [if_neg h, if_neg h, List.map_append, Int.zero_sub, Int.zero_sub]
  rfl
theorem due_zero {ps : List Int} {u : Int} (h : gcds ps = 0) : (ps ++ [u]).map V.int = (tp ps ++ [tb ps u]).map V.int := by
  unfold tp tb
  rw [if_pos h, if_pos h]
theorem cut_many (ps : List Int) (b : Int) : cutV ((ps ++ [b]).map V.int) none (some (ps.length : Int)) = ps.map V.int := by
  have := cut_init ps b
  rw [show (((ps ++ [b]).map V.int).length - 1 : Int) = (ps.length : Int) by simp] at this
  exact this
end K04

namespace K04
open PySem L2

theorem sc_sides : FnScope ["_law_pen_here", "_law_some", "_law_many", "_law_made_here", "_law_by", "_law_k", "_law_due", "_law_again", "_law_row", "_law_far", "_law_end", "_law_plain", "_law_away", "_law_back", "_law_near", "_law_told"] ["_law_pen_here", "_law_some"] (C8.fnScope (top 26)) := C8.fnScope_by (by decide +kernel)
def spSides (K : PySem.W.Frag) : Sp := fun vs H Q _ => ∃ (p pc a : Addr) (ps : List Int) (u n : Int), vs = [.ref p, .ref a] ∧ (Ev.Pen H p pc n ∧ n ≤ 50000 ∧ a ≠ p ∧ SqL K H a ((ps ++ [u]).map V.int)) ∧ (1 ≤ ps.length ∧ ps.length ≤ 5) ∧ (∀ z ∈ ps ++ [u], z.natAbs < 1000000000000000000000000000000000000000000000) ∧
  ∀ H', Ev.But p H H' → Ev.Pen H' p pc (n + 30) → Q (.bl true) H'
section
variable {P : Program} {w : World} {K : PySem.W.Frag} {mg : Str → Option Value} {base : Heap} {C : Addr}
theorem ok_sides {f : Addr} {fd : FuncData} (F : Ev.Fn K "_law_sides_right" "_law_sides_right" (top 26) f fd) (T : Tx K mg C) (c_small : Ev.GC P w K mg base 2 "_law_small" spSmall []) (c_lcommon : Ev.GC P w K mg base 1 "_law_common" spLcommon []) (c_made : Ev.GC P w K mg base 4 "_law_made" (spMade K C) []) (c_teq : Ev.GM P w K mg base 1 C "__eq__" (spTeq K C) []) (c_tight : Ev.GM P w K mg base 4 C "tight" (spTight K C) []) (c_amount : Ev.GM P w K mg base 2 C "amount" (spAmount K C) []) (c_tinv : Ev.GM P w K mg base 4 C "__invert__" (spTinv K C) []) (c_tneg : Ev.GM P w K mg base 4 C "__neg__" (spTneg K C) []) (c_make : Ev.GN P w K mg base 2 "Test" C (spInit K C) 2 [] (fun vs _ => vs)) (c_inst : Ev.GO P w K mg base 3 C (spTcall K C) 1 [] (fun vs _ => vs)) : Ev.GOk P w K mg base (L2.CX P w) 5 f fd ["_law_pen_here", "_law_some"] (spSides K) := by
  refine Ev.gfn0 F sc_sides (fun vs H Q E h => ?_) (fun cdv A outer s H vs Q E hgd hr h => ?_)
  · obtain ⟨p, pc, a, ps, u, n, rfl, ⟨hp, hn, hap, ha⟩, h5, lz, k⟩ := h
    rfl
  · obtain ⟨p, pc, a, ps, u, n, rfl, ⟨hp, hn, hap, ha⟩, h5, lz, k⟩ := h
    have hu : _ + 64 < cLine := hr.units
    obtain ⟨_, hk_MOST_PARTS⟩ := T.k_MOST_PARTS
    have e10_12 : (10 : Int) ^ Int.toNat 12 = 1000000000000 := by decide
    have e10_20 : (10 : Int) ^ Int.toNat 20 = 100000000000000000000 := by decide
    have e10_25 : (10 : Int) ^ Int.toNat 25 = 10000000000000000000000000 := by decide
    have e10_30 : (10 : Int) ^ Int.toNat 30 = 1000000000000000000000000000000 := by decide
    have e10_40 : (10 : Int) ^ Int.toNat 40 = 10000000000000000000000000000000000000000 := by decide
    obtain ⟨_, hk_REACHES⟩ := T.k_REACHES
    obtain ⟨_, mrO⟩ := T.mr_Test
    obtain ⟨_, mmO⟩ := T.mm_Test
    obtain ⟨_, imO⟩ := T.im_Test
    obtain ⟨_, irO⟩ := T.ir_Test
    refine ⟨_, (pss_cons (ps_par (i := 2) (j := 3) rfl sc_sides.nd rfl rfl (by decide) rfl rfl (pa_cons (pe_op op_sub (pe_callB call_len_seq (by rfl) T.m_len (by decide +kernel) (pa_cons (pv 1) pa_nil)) pe_int) (pa_cons (Ev.pe_c c_made hgd hr (by decide) (by rfl) (pa_cons (pv 1) pa_nil)) pa_nil)) (by rfl))
  (pss_cons (ps_set (i := 4) sc_sides.nd rfl (.inr rfl) pe_int)
  (pss_cons (ps_for PassesOwn.never rfl (pi_range1 (by rfl) T.m_range (pa_cons (pv 2) pa_nil)) (pg_name (i := 5) sc_sides.nd rfl (.inl rfl))
  (pss_one (ps_set (i := 4) sc_sides.nd rfl (.inr rfl) (Ev.pe_c c_lcommon hgd hr (by decide) (by rfl) (pa_cons (pv 4) (pa_cons (pe_ix ix_list (pv 1) (pv 5) (fun _ _ => rfl)) pa_nil))))))
  (pss_cons (ps_set (i := 6) sc_sides.nd rfl (.inl rfl) (pe_callTy call_list_of (by rfl) T.m_list (by decide +kernel) (pa_cons (pv 1) pa_nil)))
  (pss_cons (ps_if (pt_cmpR op_gt (pv 4) pe_int (nomark _))
  (pss_one (ps_set (i := 6) sc_sides.nd rfl (.inl rfl) (pe_op op_cat (pe_lc (own := [("_law_k", 5)]) rfl sc_sides.nd (pi_range1 (by rfl) T.m_range (pa_cons (pv 2) pa_nil)) (blkOk_by (N := ["_law_pen_here", "_law_some", "_law_many", "_law_made_here", "_law_by", "_law_k", "_law_due", "_law_again", "_law_row", "_law_far", "_law_end", "_law_plain", "_law_away", "_law_back", "_law_near", "_law_told"]) (sc := (C8.fnScope (top 26))) (by decide +kernel)) (fun _ _ _ _ _ => (pg_name (i := 5) sc_sides.nd rfl (.inl rfl))) (fun _ _ _ _ _ => pts_nil) (fun _ _ _ _ _ => (pe_op op_fdivW (pe_callTy call_int1 (by rfl) T.m_int (by decide +kernel) (pa_cons (pe_ix (Ev.ix_listK (K := K)) (pv 1) (pv 5) (fun _ _ => rfl)) pa_nil)) (pv 4)))) (pe_lst (pa_cons (pe_op op_sub pe_int (pe_op op_fdivW (pe_callTy call_int1 (by rfl) T.m_int (by decide +kernel) (pa_cons (pe_op op_sub pe_int (pe_ix ix_list (pv 1) (pv 2) (fun _ _ => rfl))) pa_nil)) (pv 4))) pa_nil)))))
  pss_nil)
  (pss_cons (ps_if (pw_or (pt_cmpR (Ev.op_neO (K := K) c_teq T.ne_Test hgd hr (by decide) passL) (Ev.pe_m0 c_tight hgd hr (by decide) (pv 3)) (Ev.pe_c c_made hgd hr (by decide) (by rfl) (pa_cons (pv 6) pa_nil)) (nomark _)) (pw_or1 (pt_cmpR (Ev.op_neO (K := K) c_teq T.ne_Test hgd hr (by decide) passL) (Ev.pe_m0 c_tight hgd hr (by decide) (Ev.pe_m0 c_tight hgd hr (by decide) (pv 3))) (Ev.pe_m0 c_tight hgd hr (by decide) (pv 3)) (nomark _)))).pt
  (pss_one (ps_ret pe_bl))
  pss_nil)
  (pss_cons (ps_for PassesOwn.never rfl (pi_range1 (by rfl) T.m_range (pa_cons pe_int pa_nil)) (pg_name (i := 7) sc_sides.nd rfl (.inl rfl))
  (pss_cons (ps_setLc (i := 8) (own := [("_law_k", 5)]) rfl sc_sides.nd rfl rfl (sw_true rfl rfl rfl (by decide +kernel)) (pi_range1 (by rfl) T.m_range (pa_cons (pv 2) pa_nil)) (blkOk_by (N := ["_law_pen_here", "_law_some", "_law_many", "_law_made_here", "_law_by", "_law_k", "_law_due", "_law_again", "_law_row", "_law_far", "_law_end", "_law_plain", "_law_away", "_law_back", "_law_near", "_law_told"]) (sc := (C8.fnScope (top 26))) (by decide +kernel)) (fun _ _ _ _ _ => (pg_name (i := 5) sc_sides.nd rfl (.inl rfl))) (fun _ _ _ _ _ => pts_nil) (fun _ _ _ _ _ => (Ev.pe_c c_small hgd hr (by decide) (by rfl) (pa_cons (pv 0) (pa_cons pe_int pa_nil)))))
  (pss_cons (ps_set (i := 9) sc_sides.nd rfl (.inl rfl) (Ev.pe_m c_amount hgd hr (by decide) (pv 3) (pa_cons (pv 8) pa_nil)))
  (pss_one (ps_for PassesOwn.never rfl (pi_list (pe_lst (pa_cons (pe_ix ix_list (pv 1) (pv 2) (fun _ _ => rfl)) (pa_cons (pv 9) (pa_cons (pe_op op_add (pv 9) pe_int) (pa_cons (pe_op op_sub (pv 9) pe_int) pa_nil)))))) (pg_name (i := 10) sc_sides.nd rfl (.inl rfl))
  (pss_cons (ps_set (i := 11) sc_sides.nd rfl (.inl rfl) (Ev.pe_n c_make hgd hr (by decide) (by rfl) (pa_cons (pe_slice sl_list (pv 1) po_none (po_some (pv 2))) (pa_cons (pv 10) pa_nil)) pk_nil))
  (pss_cons (ps_par3 (i := 12) (j := 13) (l := 14) rfl sc_sides.nd rfl rfl rfl (by decide) (by decide) (by decide) rfl rfl rfl (pa_cons (pe_un (Ev.un_invO c_tinv hgd hr (by decide) passL) (pv 11)) (pa_cons (pe_un (Ev.un_negO c_tneg hgd hr (by decide) passL) (pv 11)) (pa_cons (Ev.pe_m0 c_tight hgd hr (by decide) (pv 11)) pa_nil))) (by rfl))
  (pss_cons (ps_set (i := 15) sc_sides.nd rfl (.inl rfl) (pe_lst (pa_cons (Ev.pe_oE c_inst hgd hr (by decide) passL (pv 11) (pa_cons (pv 8) pa_nil)) (pa_cons (Ev.pe_oE c_inst hgd hr (by decide) passL (pv 12) (pa_cons (pv 8) pa_nil)) (pa_cons (Ev.pe_oE c_inst hgd hr (by decide) passL (pv 13) (pa_cons (pv 8) pa_nil)) (pa_cons (Ev.pe_oE c_inst hgd hr (by decide) passL (pv 14) (pa_cons (pv 8) pa_nil)) pa_nil))))))
  (pss_one (ps_if (pt_cmpR op_ne (pe_callB (Ev.call_repr hgd hu hr.un0) (by rfl) T.m_repr (by decide +kernel) (pa_cons (pv 15) pa_nil)) (pe_callB (Ev.call_repr hgd hu hr.un0) (by rfl) T.m_repr (by decide +kernel) (pa_cons (pe_lst (pa_cons (pe_cmpR op_ge (pv 9) (pv 10) (nomark _)) (pa_cons (pe_cmpR op_lt (pv 9) (pv 10) (nomark _)) (pa_cons (pe_cmpR op_le (pv 9) (pv 10) (nomark _)) (pa_cons (pe_cmpR op_ge (pv 9) (pv 10) (nomark _)) pa_nil))))) pa_nil)) (nomark _))
  (pss_one (ps_ret pe_bl))
  pss_nil))))))))))
  (pss_one (ps_ret pe_bl))))))))), ?_⟩
    have lp : ∀ z ∈ ps, Ev.Lit z := fun z h => by
      have := lz z (List.mem_append_left _ h)
      unfold Ev.Lit
      omega
    have lg := tp_lit lp
    have hle : gcds ps ≤ 1606938044258990275541962092341162602522202993782792835301376 := gf_le _ ps 0 (Nat.zero_le _) fun z h => Nat.le_of_lt (lp z h)
    have h5t : 1 ≤ (tp ps).length ∧ (tp ps).length ≤ 5 := by rw [tp_len]; exact h5
    have em : ((List.map V.int (ps ++ [u])).length : Int) - 1 = (ps.length : Int) := by simp
    walk_at "ev rd"
    refine ⟨_, _, rfl, Or.inl ha, ?_⟩
    walk_at "ev rd"
    refine ⟨a, ps, u, rfl, ha, h5, fun x H1 s1 t1 => ?_⟩
    have a1 := s1.seq ha
    walk_at "ev rd"
    refine ⟨by omega, by omega, for_range (fun i σ H' => ∃ v, σ = [some (.ref p), some (.ref a), some (.int (((List.map V.int (ps ++ [u])).length : Int) - 1)), some (.ref x), some (.int (gcds (ps.take i))), v, none, none, none, none, none, none, none, none, none, none] ∧ H' = H1) ⟨_, rfl, rfl⟩ ?_ ?_⟩
    · rintro i σ H' hi ⟨v, rfl, rfl⟩
      have hi2 : i < ps.length := by
        have : i < (((List.map V.int (ps ++ [u])).length : Int) - 1).toNat := hi
        omega
      have e1 : (ps ++ [u])[i]? = some ps[i] := by rw [List.getElem?_append_left hi2, List.getElem?_eq_getElem hi2]
      walk_at "ev rd"
      refine ⟨_, _, _, _, rfl, rfl, a1, at_of (j := i) (by omega) (by rw [List.getElem?_map, e1]; rfl), ?_⟩
      walk_at "ev rd"
      exact ⟨_, by rw [gcds_take (List.getElem?_eq_getElem hi2)]; rfl, rfl⟩
    · rintro σ H' ⟨v, rfl, rfl⟩
      have et : List.take (((List.map V.int (ps ++ [u])).length : Int) - 1).toNat ps = ps := by rw [em, Int.toNat_natCast, List.take_length]
      rw [et]
      walk_at "ev rd"
      refine ⟨_, _, rfl, Or.inl a1, fun l nl => ?_⟩
      refine Ev.gn (Ev.nxE ?_)
      refine Ev.cutS (fun σ Hf => ∃ (v : Option V) (d : Addr), σ = [some (.ref p), some (.ref a), some (.int (((List.map V.int (ps ++ [u])).length : Int) - 1)), some (.ref x), some (.int (gcds ps)), v, some (.ref d), none, none, none, none, none, none, none, none, none] ∧ Same H' Hf ∧ Hf d = some (.lst ((tp ps ++ [tb ps u]).map V.int))) (fun N hN => ?_) ?_
      · walk_at "ev rd"
        refine ite2 (fun h => ?_) (fun h => ?_)
        · have h' : gcds ps ≠ 0 := by
            have := of_decide_eq_true h
            omega
          have a2 := (Ev.Same.new (o := .lst ((ps ++ [u]).map V.int)) (Same.refl H') nl).seq a1
          walk_at "ev rd"
          refine ⟨by omega, by omega, fun D hD => Ev.lcR (f := fun i => ((ps.map (· / (gcds ps : Int)))[i]?).map V.int) hD (by simp; omega) (fun i H3 R N hi hS hR hN => ?_) (fun H3 hS h3 => ?_)⟩
          · have hi2 : i < ps.length := by
              have : i < (((List.map V.int (ps ++ [u])).length : Int) - 1).toNat := hi
              omega
            have e1 : (ps ++ [u])[i]? = some ps[i] := by rw [List.getElem?_append_left hi2, List.getElem?_eq_getElem hi2]
            refine ⟨rfl, ?_⟩
            walk_at "ev rd"
            refine ⟨_, _, _, _, rfl, rfl, hS.seq a2, at_of (j := i) (by omega) (by rw [List.getElem?_map, e1]; rfl), ?_⟩
            walk_at "ev rd"
            refine ⟨wide_div (b := 256) (by omega) (by omega) (by decide) (by decide), ?_⟩
            refine hR _ _ ?_ (Same.refl _)
            rw [List.getElem?_map, List.getElem?_eq_getElem hi2]
            rfl
          · rw [show (((List.map V.int (ps ++ [u])).length : Int) - 1).toNat = (ps.map (· / (gcds ps : Int))).length by simp, Ev.outs_gen] at h3
            have a3 := hS.seq a2
            walk_at "ev rd"
            refine ⟨_, _, _, _, rfl, rfl, a3, at_of (j := ps.length) (by omega) (show _ = some (V.int u) by simp), ?_⟩
            walk_at "ev rd"
            refine ⟨wide_div (b := 256) (by omega) (by omega) (by decide) (by decide), ?_⟩
            walk_at "ev rd"
            refine ⟨_, _, _, _, rfl, rfl, (by walk_at "ev hl"), (by walk_at "ev hl"), by rw [sizeLine_eq]; simp; omega, fun l5 nl5 => ?_⟩
            exact hN _ _ ⟨_, l5, rfl, Ev.Same.new (Ev.Same.new ((Ev.Same.new (Same.refl _) nl).trans hS) hfr) nl5, by rw [upd_same, due_pos h']⟩
        · have h' : gcds ps = 0 := by
            have : ¬ (0 < (gcds ps : Int)) := by simpa using h
            omega
          exact hN _ _ ⟨_, l, rfl, Ev.Same.new (Same.refl _) nl, by rw [upd_same, due_zero h']⟩
      · rintro σ Hf ⟨v, d, rfl, sf, hd⟩
        have tf := t1.same sf
        obtain ⟨dx, tt, hx, _⟩ := id tf
        walk_at "ev rd"
        refine ⟨x, ps, u, rfl, tf, h5, lp, fun r1 H2 s2 r1t => ?_⟩
        walk_at "ev rd"
        refine ⟨d, tp ps, tb ps u, rfl, SqL.of (s2 _ _ hd), h5t, fun r2 H3 s3 r2t => ?_⟩
        walk_at "ev rd"
        refine ne_test T.ci_Test (r1t.same s3) r2t rfl rfl ?_
        have s23 := s2.trans s3
        have hx3 := s23 _ _ hx
        walk_at "ev rd"
        refine ⟨x, ps, u, rfl, tf.same s23, h5, lp, fun r3 H4 s4 r3t => ?_⟩
        obtain ⟨dx3, tt3, hx3', _⟩ := id r3t
        walk_at "ev rd"
        refine ⟨r3, tp ps, tb ps u, rfl, r3t, h5t, lg, fun r4 H5 s5 r4t => ?_⟩
        have s25 := (s23.trans s4).trans s5
        have hx5 := s25 _ _ hx
        walk_at "ev rd"
        refine ⟨x, ps, u, rfl, tf.same s25, h5, lp, fun r5 H6 s6 r5t => ?_⟩
        walk_at "ev rd"
        refine ne_test T.ci_Test (r4t.same s6) r5t (tp_tp ps) (tb_tb ps u) ?_
        have sg := (s1.trans sf).trans (s25.trans s6)
        have tg := tf.same (s25.trans s6)
        have pg := hp.same sg
        have ag := sg.seq ha
        clear hx hx3 hx3' hx5 hd
        walk_at "ev rd"
        refine ⟨by decide, by decide, for_range (fun i σ Hi => ∃ v5 v6 v7 v8 v9 v10 v11 v12 v13 v14 v15, σ = [some (.ref p), some (.ref a), some (.int (((List.map V.int (ps ++ [u])).length : Int) - 1)), some (.ref x), some (.int (gcds ps)), v5, v6, v7, v8, v9, v10, v11, v12, v13, v14, v15] ∧ Ev.But p H6 Hi ∧ Ev.Pen Hi p pc (n + 5 * (i : Int))) ⟨_, _, _, _, _, _, _, _, _, _, _, rfl, Ev.But.refl _ _, pg.mono (by omega)⟩ ?_ ?_⟩
        · rintro i σ Hi hi ⟨v5, v6, v7, v8, v9, v10, v11, v12, v13, v14, v15, rfl, bi, pi⟩
          have hi5 : i < 5 := hi
          walk_at "ev rd"
          refine ⟨by omega, by omega, fun E hE => Ev.lcRI (P := fun j acc Hj => Ev.But p Hi Hj ∧ Ev.Pen Hj p pc (n + 5 * (i : Int) + j) ∧ ∃ ns : List Int, acc = ns.map V.int ∧ ns.length = j ∧ ∀ z ∈ ns, Ev.Lit z) (by omega) ⟨(Ev.But.refl p Hi).new hE, (pi.new hE).mono (by omega), [], rfl, rfl, by simp⟩ (fun j acc Hj R N hj hEj hP hR hN => ?_) (fun acc Hj hla2 hEj hP => ?_)⟩
          · obtain ⟨bj, pj, ns, rfl, hlj, hzj⟩ := hP
            refine ⟨rfl, ?_⟩
            walk_at "ev rd"
            refine ⟨_, _, _, _, rfl, pj, by omega, by omega, by omega, fun z H7 z0 z1 b7 p7 => ?_⟩
            have hEp : E ≠ p := Ev.Pen.ne pi hE
            have hEc : E ≠ pc := Ev.Pen.neC pi hE
            refine hR _ _ (b7 _ _ hEj hEp) ⟨?_, (p7.mono (by omega)).set hEp hEc, ns ++ [z], by simp, by simp [hlj], ?_⟩
            · intro a o ha nap
              exact Ev.get_ne (ne_of_none ha hE) (b7 _ _ (bj _ _ ha nap) nap)
            · intro y hy
              rcases List.mem_append.mp hy with hy | hy
              · exact hzj y hy
              · rw [List.mem_singleton] at hy
                subst hy
                unfold Ev.Lit
                omega
          · obtain ⟨bj, pj, qs, rfl, hlq, lq⟩ := hP
            have hlq2 : ps.length = qs.length := by omega
            have bgj := bi.trans bj
            have tj := tg.but pg bgj
            have aj := bgj.seqL hap ag
            obtain ⟨dxj, ttj, hxj, htj⟩ := id tj
            have rj : SqL K Hj E (qs.map V.int) := SqL.of hEj
            have hA : ∀ {rs : List Int}, (∀ z ∈ rs, Ev.Lit z) → rs.length = ps.length → (∀ z ∈ rs, Ev.Lit z) ∧ (∀ z ∈ qs, Ev.Lit z) ∧ rs.length = qs.length ∧ rs.length ≤ 5 := fun h hl => ⟨h, lq, by omega, by omega⟩
            walk_at "ev rd"
            refine ⟨x, E, ps, qs, u, rfl, tj, Or.inl rj, hA lp rfl, fun H8 s8 => ?_⟩
            have a8 := s8.seq aj
            have r8 := s8.seq rj
            have p8 := pj.same s8
            have b8 : Ev.But p H6 H8 := bgj.trans (Ev.Same.but s8 p)
            clear hxj
            walk_at "ev rd"
            refine ⟨_, _, _, _, rfl, rfl, a8, at_of (j := ps.length) (by omega) (show _ = some (V.int u) by simp), ?_⟩
            walk_at "ev rd"
            rename_i le
            have nle := hfr
            generalize hzs : [V.int u, .int (Ev.dot ps qs), .int (Ev.dot ps qs + 1), .int (Ev.dot ps qs - 1)] = zs
            have hints : ∀ v ∈ zs, ∃ w2 : Int, v = .int w2 := by
              subst hzs
              intro v hv
              simp only [List.mem_cons, List.not_mem_nil, or_false] at hv
              rcases hv with rfl | rfl | rfl | rfl <;> exact ⟨_, rfl⟩
            refine for_list (xs := zs) (fun t σ Ht => ∃ v10 v11 v12 v13 v14 v15, σ = [some (.ref p), some (.ref a), some (.int (((List.map V.int (ps ++ [u])).length : Int) - 1)), some (.ref x), some (.int (gcds ps)), v5, v6, some (.int (0 + (i : Int))), some (.ref E), some (.int (Ev.dot ps qs)), v10, v11, v12, v13, v14, v15] ∧ Same H8 Ht ∧ Ht le = some (.lst zs)) ⟨_, _, _, _, _, _, rfl, Ev.Same.new (Same.refl _) nle, upd_same⟩ (fun t σ Ht _ ⟨_, _, _, _, _, _, _, _, h⟩ => SqL.of h) ?_ ?_
            · rintro t v σ Ht ht ⟨v10, v11, v12, v13, v14, v15, rfl, st, hlt⟩
              obtain ⟨e, rfl⟩ := hints v (List.mem_of_getElem? ht)
              have at1 := st.seq a8
              have rt1 := st.seq r8
              walk_at "ev rd"
              refine ⟨_, _, rfl, at1, fun l nl2 => ?_⟩
              rw [cut_init]
              walk_at "ev rd"
              refine mk (ps := ps) (b := e) (Or.inl (SqL.of (by walk_at "ev hl"))) h5 fun y1 H9 s9 n9 t9 => ?_
              have st9 : Same Ht H9 := (Ev.Same.new (Same.refl _) nl2).trans s9
              walk_at "ev rd"
              refine inv_test t9 h5 fun y2 H10 s10 t10 => ?_
              walk_at "ev rd"
              refine neg_test (t9.same s10) h5 fun y3 H11 s11 t11 => ?_
              have t9b := t9.same (s10.trans s11)
              obtain ⟨dx9, tt9, hx9, _⟩ := id t9b
              walk_at "ev rd"
              refine ⟨y1, ps, e, rfl, t9b, h5, lp, fun y4 H12 s12 t12 => ?_⟩
              have s9c := (s10.trans s11).trans s12
              have t9c := t9.same s9c
              have t10c := t10.same (s11.trans s12)
              have t11c := t11.same s12
              have rt2 := (st9.trans s9c).seq rt1
              obtain ⟨dy1, _, hy1, _⟩ := id t9c
              walk_at "ev rd"
              refine ⟨⟨_, _, hy1⟩, y1, E, ps, qs, e, rfl, t9c, Or.inl rt2, hA lp rfl, fun H13 s13 => ?_⟩
              have u2 := t10c.same s13
              obtain ⟨dy2, _, hy2, _⟩ := id u2
              walk_at "ev rd"
              refine ⟨⟨_, _, hy2⟩, y2, E, _, qs, _, rfl, u2, Or.inl (s13.seq rt2), hA (neg_lit lp) (by simp), fun H14 s14 => ?_⟩
              have u3 := t11c.same (s13.trans s14)
              obtain ⟨dy3, _, hy3, _⟩ := id u3
              walk_at "ev rd"
              refine ⟨⟨_, _, hy3⟩, y3, E, _, qs, _, rfl, u3, Or.inl ((s13.trans s14).seq rt2), hA (neg_lit lp) (by simp), fun H15 s15 => ?_⟩
              have s1315 := (s13.trans s14).trans s15
              have u4 := t12.same s1315
              obtain ⟨dy4, _, hy4, _⟩ := id u4
              walk_at "ev rd"
              refine ⟨⟨_, _, hy4⟩, y4, E, _, qs, _, rfl, u4, Or.inl (s1315.seq rt2), hA lg (tp_len ps), fun H16 s16 => ?_⟩
              have sU : Same Ht H16 := (st9.trans s9c).trans (s1315.trans s16)
              rw [sgn1, sgn2, sgn3]
              walk_at "ev rd"
              refine ⟨_, _, rfl, .lst (SqL.of (by walk_at "ev hl")) (.cons (.bl _) (.cons (.bl _) (.cons (.bl _) (.cons (.bl _) .nil)))), (Ev.shn_list (n := 4) (Ev.shn_cons (Ev.shn_bool _) (Ev.shn_cons (Ev.shn_bool _) (Ev.shn_cons (Ev.shn_bool _) (Ev.shn_cons (Ev.shn_bool _) Ev.shn_nil)))) (by simp)).shows (by decide) (by decide), ?_⟩
              walk_at "ev rd"
              refine ⟨_, _, rfl, .lst (SqL.of (by walk_at "ev hl")) (.cons (.bl _) (.cons (.bl _) (.cons (.bl _) (.cons (.bl _) .nil)))), (Ev.shn_list (n := 4) (Ev.shn_cons (Ev.shn_bool _) (Ev.shn_cons (Ev.shn_bool _) (Ev.shn_cons (Ev.shn_bool _) (Ev.shn_cons (Ev.shn_bool _) Ev.shn_nil)))) (by simp)).shows (by decide) (by decide), ?_⟩
              walk_at "ev rd"
              rw [show (decide (Ev.dot ps qs ≥ e)) = decide (e ≤ Ev.dot ps qs) from rfl, Ev.neSelf]
              walk_at "ev rd"
              have hle16 := sU _ _ hlt
              exact ⟨_, _, _, _, _, _, rfl, st.trans (Ev.Same.new (Ev.Same.new sU (by assumption)) (by assumption)), (by walk_at "ev hl")⟩
            · rintro σ Ht ⟨v10, v11, v12, v13, v14, v15, rfl, st, hlt⟩
              exact ⟨_, _, _, _, _, _, _, _, _, _, _, rfl, b8.trans (Ev.Same.but st p), (p8.same st).mono (by omega)⟩
        · rintro σ Hi ⟨v5, v6, v7, v8, v9, v10, v11, v12, v13, v14, v15, rfl, bi, pi⟩
          walk_at "ev rd"
          exact k _ ((Ev.Same.but sg p).trans bi) (pi.mono (by omega))
end
end K04

namespace K04
open PySem L2
section
variable {K : PySem.W.Frag} {C : Addr} {H : Hp} {x : Addr} {ps : List Int} {b : Int} {Q : VK} {E : XK}
theorem str_test {z : Str} (tx : Ts K C H x ps b) (h5 : ps.length ≤ 5) (lp : ∀ z ∈ ps, Ev.Lit z) (lb : Ev.Lit b) (hz : ((words ps b).map (·.length)).sum + (words ps b).length * (Str.ofString " ").length ≤ 16777216) (e : Txt.join " " (words ps b) = z) (k : ∀ H', Same H H' → Q (.str z) H') :
    Ev.rOwn1 C (spTstr K C) E (fun v => ∃ z : Str, v = .str z) (.ref x) H Q := by
  subst e
  obtain ⟨dx, t, hx, _⟩ := id tx
  exact ⟨x, dx, _, rfl, hx, x, ps, b, rfl, tx, h5, lp, lb, hz, fun H' s => ⟨⟨_, rfl⟩, k H' s⟩⟩
theorem w1 : Txt.join " " (words (tp [6, -9]) (tb [6, -9] 4)) = "2 -3 >= 2" := by decide +kernel
theorem w2 : Txt.join " " (words (tp [6, -9]) (tb [6, -9] (-4))) = "2 -3 >= -1" := by decide +kernel
theorem w3 : Txt.join " " (words (tp [-4]) (tb [-4] 6)) = "-1 >= 2" := by decide +kernel
theorem w4 : Txt.join " " (words (tp [0, 0]) (tb [0, 0] 5)) = "0 0 >= 5" := by decide +kernel
theorem lits {ps : List Int} (h : ps.all (fun z => decide (z.natAbs < 1000)) = true) : ∀ z ∈ ps, Ev.Lit z := fun z hz => by
  have := of_decide_eq_true (List.all_eq_true.mp h z hz)
  unfold Ev.Lit
  omega
theorem lit1 {z : Int} (h : z.natAbs < 1000) : Ev.Lit z := by
  unfold Ev.Lit
  omega
end
end K04

namespace K04
open PySem L2

theorem sc_law : FnScope ["_law_script", "_law_pen_here", "_law_many", "_law_one", "_law_other", "_law_first", "_law_held", "_law_told"] ["_law_script"] (C8.fnScope (top 28)) := C8.fnScope_by (by decide +kernel)
def spLaw (K : PySem.W.Frag) : Sp := fun vs H Q _ => ∃ (a : Addr) (ns : List Int), vs = [.ref a] ∧ SqL K H a (ns.map V.int) ∧ ns.length ≤ 63 ∧ ∀ H', Q (.bl true) H'
section
variable {P : Program} {w : World} {K : PySem.W.Frag} {mg : Str → Option Value} {base : Heap} {C : Addr}
theorem ok_law {f : Addr} {fd : FuncData} (F : Ev.Fn K "law" "law" (top 28) f fd) (T : Tx K mg C) (c_pen : Ev.GC P w K mg base 1 "_law_pen" (spPen K) []) (c_draw : Ev.GC P w K mg base 1 "_law_draw" spDraw []) (c_drawn : Ev.GC P w K mg base 4 "_law_drawn" spDrawn []) (c_joined : Ev.GC P w K mg base 5 "_law_joined_right" (spJoined K) []) (c_sides : Ev.GC P w K mg base 5 "_law_sides_right" (spSides K) []) (c_teq : Ev.GM P w K mg base 1 C "__eq__" (spTeq K C) []) (c_tight : Ev.GM P w K mg base 4 C "tight" (spTight K C) []) (c_tstr : Ev.GM P w K mg base 1 C "__str__" (spTstr K C) []) (c_tmul : Ev.GM P w K mg base 4 C "__mul__" (spTmul K C) []) (c_make : Ev.GN P w K mg base 2 "Test" C (spInit K C) 2 [] (fun vs _ => vs)) : Ev.GOk P w K mg base (L2.CX P w) 6 f fd ["_law_script"] (spLaw K) := by
  refine Ev.gfn0 F sc_law (fun vs H Q E h => ?_) (fun cdv A outer s H vs Q E hgd hr h => ?_)
  · obtain ⟨a, ns, rfl, hS, hl, k⟩ := h
    rfl
  · obtain ⟨a, ns, rfl, hS, hl, k⟩ := h
    have hu : _ + 64 < cLine := hr.units
    obtain ⟨_, hk_MOST_PARTS⟩ := T.k_MOST_PARTS
    have e10_12 : (10 : Int) ^ Int.toNat 12 = 1000000000000 := by decide
    have e10_20 : (10 : Int) ^ Int.toNat 20 = 100000000000000000000 := by decide
    have e10_25 : (10 : Int) ^ Int.toNat 25 = 10000000000000000000000000 := by decide
    have e10_30 : (10 : Int) ^ Int.toNat 30 = 1000000000000000000000000000000 := by decide
    have e10_40 : (10 : Int) ^ Int.toNat 40 = 10000000000000000000000000000000000000000 := by decide
    obtain ⟨_, hk_REACHES⟩ := T.k_REACHES
    obtain ⟨_, mrO⟩ := T.mr_Test
    obtain ⟨_, mmO⟩ := T.mm_Test
    obtain ⟨_, imO⟩ := T.im_Test
    obtain ⟨_, irO⟩ := T.ir_Test
    refine ⟨_, (pss_cons (ps_set (i := 1) sc_law.nd rfl (.inl rfl) (Ev.pe_c c_pen hgd hr (by decide) (by rfl) (pa_cons (pv 0) pa_nil)))
  (pss_cons (ps_for PassesOwn.never rfl (pi_list (pe_lst (pa_cons pe_int (pa_cons pe_int (pa_cons pe_int (pa_cons pe_int (pa_cons (pe_op op_add pe_int (Ev.pe_c c_draw hgd hr (by decide) (by rfl) (pa_cons (pv 1) (pa_cons pe_int pa_nil)))) pa_nil))))))) (pg_name (i := 2) sc_law.nd rfl (.inl rfl))
  (pss_cons (ps_par (i := 3) (j := 4) rfl sc_law.nd rfl rfl (by decide) rfl rfl (pa_cons (Ev.pe_c c_drawn hgd hr (by decide) (by rfl) (pa_cons (pv 1) (pa_cons (pv 2) pa_nil))) (pa_cons (Ev.pe_c c_drawn hgd hr (by decide) (by rfl) (pa_cons (pv 1) (pa_cons (pv 2) pa_nil))) pa_nil)) (by rfl))
  (pss_one (ps_if (pw_or (pt_not (pt_val (Ev.pe_c c_joined hgd hr (by decide) (by rfl) (pa_cons (pv 1) (pa_cons (pv 3) (pa_cons (pv 4) pa_nil)))))) (pw_or (pt_not (pt_val (Ev.pe_c c_sides hgd hr (by decide) (by rfl) (pa_cons (pv 1) (pa_cons (pv 3) pa_nil))))) (pw_or1 (pt_not (pt_val (Ev.pe_c c_sides hgd hr (by decide) (by rfl) (pa_cons (pv 1) (pa_cons (pv 4) pa_nil)))))))).pt
  (pss_one (ps_ret pe_bl))
  pss_nil))))
  (pss_cons (ps_set (i := 5) sc_law.nd rfl (.inl rfl) (Ev.pe_n c_make hgd hr (by decide) (by rfl) (pa_cons (pe_tup (pa_cons pe_int (pa_cons (pe_un un_neg pe_int) pa_nil))) (pa_cons pe_int pa_nil)) pk_nil))
  (pss_cons (ps_set (i := 6) sc_law.nd rfl (.inl rfl) (pv 5))
  (pss_cons (ps_aug (i := 6) sc_law.nd rfl (.inl rfl) pe_int (Ev.ip_binOI (op := .Mult) c_tmul T.bo_Test T.niMult_Test mrO (.inr ⟨_, rfl⟩) imO irO hgd hr (by decide) passL))
  (pss_cons (ps_if (pw_or (pt_cmpR (Ev.op_neO (K := K) c_teq T.ne_Test hgd hr (by decide) passL) (pv 6) (Ev.pe_n c_make hgd hr (by decide) (by rfl) (pa_cons (pe_tup (pa_cons pe_int (pa_cons (pe_un un_neg pe_int) pa_nil))) (pa_cons pe_int pa_nil)) pk_nil) (nomark _)) (pw_or1 (pt_cmpR (Ev.op_neO (K := K) c_teq T.ne_Test hgd hr (by decide) passL) (pv 5) (Ev.pe_n c_make hgd hr (by decide) (by rfl) (pa_cons (pe_tup (pa_cons pe_int (pa_cons (pe_un un_neg pe_int) pa_nil))) (pa_cons pe_int pa_nil)) pk_nil) (nomark _)))).pt
  (pss_one (ps_ret pe_bl))
  pss_nil)
  (pss_cons (ps_set (i := 7) sc_law.nd rfl (.inl rfl) (pe_lst (pa_cons (pe_callTy (Ev.call_strO c_tstr hgd hr (by decide) passL) (by rfl) T.m_str (by decide +kernel) (pa_cons (Ev.pe_m0 c_tight hgd hr (by decide) (Ev.pe_n c_make hgd hr (by decide) (by rfl) (pa_cons (pe_tup (pa_cons pe_int (pa_cons (pe_un un_neg pe_int) pa_nil))) (pa_cons pe_int pa_nil)) pk_nil)) pa_nil)) (pa_cons (pe_callTy (Ev.call_strO c_tstr hgd hr (by decide) passL) (by rfl) T.m_str (by decide +kernel) (pa_cons (Ev.pe_m0 c_tight hgd hr (by decide) (Ev.pe_n c_make hgd hr (by decide) (by rfl) (pa_cons (pe_tup (pa_cons pe_int (pa_cons (pe_un un_neg pe_int) pa_nil))) (pa_cons (pe_un un_neg pe_int) pa_nil)) pk_nil)) pa_nil)) (pa_cons (pe_callTy (Ev.call_strO c_tstr hgd hr (by decide) passL) (by rfl) T.m_str (by decide +kernel) (pa_cons (Ev.pe_m0 c_tight hgd hr (by decide) (Ev.pe_n c_make hgd hr (by decide) (by rfl) (pa_cons (pe_tup (pa_cons (pe_un un_neg pe_int) pa_nil)) (pa_cons pe_int pa_nil)) pk_nil)) pa_nil)) (pa_cons (pe_callTy (Ev.call_strO c_tstr hgd hr (by decide) passL) (by rfl) T.m_str (by decide +kernel) (pa_cons (Ev.pe_m0 c_tight hgd hr (by decide) (Ev.pe_n c_make hgd hr (by decide) (by rfl) (pa_cons (pe_tup (pa_cons pe_int (pa_cons pe_int pa_nil))) (pa_cons pe_int pa_nil)) pk_nil)) pa_nil)) pa_nil))))))
  (pss_one (ps_ret (pe_cmpR (op_eqD hu) (pv 7) (pe_lst (pa_cons pe_str (pa_cons pe_str (pa_cons pe_str (pa_cons pe_str pa_nil))))) (nomark _))))))))))), ?_⟩
    walk_at "ev rd"
    refine ⟨a, ns, rfl, hS, hl, fun p c H1 s1 np pen1 => ?_⟩
    walk_at "ev rd"
    refine ⟨_, _, _, _, rfl, (by walk_at "ev pen"), (by omega), (by omega), (by omega), fun d H2 d0 d1 b2 pen2 => ?_⟩
    walk_at "ev rd"
    rename_i lm
    have hlmp : lm ≠ p := by assumption
    refine for_list (xs := [.int 1, .int 2, .int 3, .int 5, .int (1 + d)]) (fun t σ Ht => ∃ v2 v3 v4 v5 v6 v7, σ = [some (.ref a), some (.ref p), v2, v3, v4, v5, v6, v7] ∧ Ev.Pen Ht p c (1 + 200 * (t : Int)) ∧ Ht lm = some (.lst [.int 1, .int 2, .int 3, .int 5, .int (1 + d)])) ⟨_, _, _, _, _, _, rfl, (pen2.new (by assumption)).mono (by omega), upd_same⟩ (fun t σ Ht _ ⟨_, _, _, _, _, _, _, _, h⟩ => SqL.of h) ?_ ?_
    · rintro t v σ Ht ht ⟨v2, v3, v4, v5, v6, v7, rfl, pt, hlt⟩
      have ht6 : t < 5 := (List.getElem?_eq_some_iff.mp ht).1
      obtain ⟨m, rfl, m0, m1⟩ : ∃ w : Int, v = .int w ∧ 1 ≤ w ∧ w ≤ 5 := by
        have := List.mem_of_getElem? ht
        simp only [List.mem_cons, List.not_mem_nil, or_false] at this
        rcases this with rfl | rfl | rfl | rfl | rfl <;> refine ⟨_, rfl, ?_, ?_⟩ <;> omega
      walk_at "ev rd"
      refine ⟨p, c, m, _, rfl, pt, by omega, m0, m1, fun r1 ps u H3 b3 r1p h3 l3 z3 p3 => ?_⟩
      walk_at "ev rd"
      refine ⟨p, c, m, _, rfl, p3, by omega, m0, m1, fun r2 qs y H4 b4 r2p h4 l4 z4 p4 => ?_⟩
      have h34 := b4 _ _ h3 r1p
      walk_at "ev rd"
      refine ⟨p, c, r1, r2, ps, qs, u, y, _, rfl, ⟨p4, by omega, r1p, SqL.of h34⟩, r2p, SqL.of h4, by omega, by omega, fun z h => by have := z3 z h; unfold Ev.Lit; omega, fun H5 b5 p5 => ?_⟩
      walk_at "ev rd"
      refine ⟨p, c, r1, ps, u, _, rfl, ⟨p5, by omega, r1p, SqL.of (b5 _ _ h34 r1p)⟩, by omega, z3, fun H6 b6 p6 => ?_⟩
      walk_at "ev rd"
      refine ⟨p, c, r2, qs, y, _, rfl, ⟨p6, by omega, r2p, SqL.of ((b5.trans b6) _ _ h4 r2p)⟩, by omega, z4, fun H7 b7 p7 => ?_⟩
      walk_at "ev rd"
      exact ⟨_, _, _, _, _, _, rfl, p7.mono (by omega), (b3.trans (b4.trans (b5.trans (b6.trans b7)))) _ _ hlt hlmp⟩
    · rintro σ Ht ⟨v2, v3, v4, v5, v6, v7, rfl, pt, hlt⟩
      walk_at "ev rd"
      refine mk (ps := [3, -1]) (b := 5) (Or.inr (SqT.of (by walk_at "ev hl"))) (by simp) fun x1 H3 s3 n3 t3 => ?_
      walk_at "ev rd"
      refine mul_test (m := 2) t3 (by decide) (lits (by decide)) (lit1 (by decide)) (lit1 (by decide)) (by decide) fun x2 H4 s4 t4 => ?_
      walk_at "ev rd"
      refine mk (ps := [6, -2]) (b := 10) (Or.inr (SqT.of (by walk_at "ev hl"))) (by simp) fun x3 H5 s5 n5 t5 => ?_
      have q5 : Same H4 H5 := (Ev.Same.new (Same.refl _) (by assumption)).trans s5
      walk_at "ev rd"
      refine ne_test T.ci_Test (t4.same q5) t5 (by decide) (by decide) ?_
      walk_at "ev rd"
      refine mk (ps := [3, -1]) (b := 5) (Or.inr (SqT.of (by walk_at "ev hl"))) (by simp) fun x4 H6 s6 n6 t6 => ?_
      have q6 : Same H5 H6 := (Ev.Same.new (Same.refl _) (by assumption)).trans s6
      walk_at "ev rd"
      refine ne_test T.ci_Test (t3.same ((s4.trans q5).trans q6)) t6 rfl rfl ?_
      walk_at "ev rd"
      refine mk (ps := [6, -9]) (b := 4) (Or.inr (SqT.of (by walk_at "ev hl"))) (by simp) fun y1 G1 g1 n1 t1 => ?_
      obtain ⟨dx1, _, hx1, _⟩ := id t1
      walk_at "ev rd"
      refine ⟨y1, [6, -9], 4, rfl, t1, by decide, lits (by decide), fun z1 J1 j1 u1 => ?_⟩
      walk_at "ev rd"
      refine str_test u1 (by decide +kernel) (tp_lit (lits (by decide))) (lit1 (by decide +kernel)) (by decide +kernel) w1 fun L1 l1 => ?_
      walk_at "ev rd"
      refine mk (ps := [6, -9]) (b := (-4)) (Or.inr (SqT.of (by walk_at "ev hl"))) (by simp) fun y2 G2 g2 n2 t2 => ?_
      obtain ⟨dx2, _, hx2, _⟩ := id t2
      walk_at "ev rd"
      refine ⟨y2, [6, -9], (-4), rfl, t2, by decide, lits (by decide), fun z2 J2 j2 u2 => ?_⟩
      walk_at "ev rd"
      refine str_test u2 (by decide +kernel) (tp_lit (lits (by decide))) (lit1 (by decide +kernel)) (by decide +kernel) w2 fun L2 l2 => ?_
      walk_at "ev rd"
      refine mk (ps := [-4]) (b := 6) (Or.inr (SqT.of (by walk_at "ev hl"))) (by simp) fun y3 G3 g3 n3 t3 => ?_
      obtain ⟨dx3, _, hx3, _⟩ := id t3
      walk_at "ev rd"
      refine ⟨y3, [-4], 6, rfl, t3, by decide, lits (by decide), fun z3 J3 j3 u3 => ?_⟩
      walk_at "ev rd"
      refine str_test u3 (by decide +kernel) (tp_lit (lits (by decide))) (lit1 (by decide +kernel)) (by decide +kernel) w3 fun L3 l3 => ?_
      walk_at "ev rd"
      refine mk (ps := [0, 0]) (b := 5) (Or.inr (SqT.of (by walk_at "ev hl"))) (by simp) fun y4 G4 g4 n4 t4 => ?_
      obtain ⟨dx4, _, hx4, _⟩ := id t4
      walk_at "ev rd"
      refine ⟨y4, [0, 0], 5, rfl, t4, by decide, lits (by decide), fun z4 J4 j4 u4 => ?_⟩
      walk_at "ev rd"
      refine str_test u4 (by decide +kernel) (tp_lit (lits (by decide))) (lit1 (by decide +kernel)) (by decide +kernel) w4 fun L4 l4 => ?_
      walk_at "ev rd"
      refine ⟨.list [.str "2 -3 >= 2", .str "2 -3 >= -1", .str "-1 >= 2", .str "0 0 >= 5"], .list [.str "2 -3 >= 2", .str "2 -3 >= -1", .str "-1 >= 2", .str "0 0 >= 5"], .lst (SqL.of (by walk_at "ev hl")) (.cons (.str _) (.cons (.str _) (.cons (.str _) (.cons (.str _) .nil)))), .lst (SqL.of (by walk_at "ev hl")) (.cons (.str _) (.cons (.str _) (.cons (.str _) (.cons (.str _) .nil)))), by decide +kernel, by decide +kernel, ?_⟩
      have eq3 : PyData.eqv (.list [.str "2 -3 >= 2", .str "2 -3 >= -1", .str "-1 >= 2", .str "0 0 >= 5"]) (.list [.str "2 -3 >= 2", .str "2 -3 >= -1", .str "-1 >= 2", .str "0 0 >= 5"]) = true := by decide +kernel
      rw [eq3]
      exact k _
end
end K04

namespace K04
open PySem L2
theorem all_mk {l : PySem.W.OpenLaw} {w : World} {K : PySem.W.Frag} {h : Heap} {mg : Str → Option Value} {fa : Addr} (X : K.In h) (G : h.Ns mainGlobals mg) (hfa : mg "law" = some (.ref fa))
    {C : Addr}
    {tk0 : Tok}
    {cdT1 : ClassData}
    {cdT2 : ClassData}
    {gmr : Addr}
    {gmm : Addr}
    {oim : Option Value}
    {oir : Option Value}
    {tkR : Tok}
    {f_draw : Addr} {od_draw an_draw : Option Addr} {sl_draw : Array (Option Value)} {oc_draw kV_draw dc_draw pm_draw cd_draw ct_draw : Value}
    {f_pen : Addr} {od_pen an_pen : Option Addr} {sl_pen : Array (Option Value)} {oc_pen kV_pen dc_pen pm_pen cd_pen ct_pen : Value}
    {f_pick : Addr} {od_pick an_pick : Option Addr} {sl_pick : Array (Option Value)} {oc_pick kV_pick dc_pick pm_pick cd_pick ct_pick : Value}
    {f_small : Addr} {od_small an_small : Option Addr} {sl_small : Array (Option Value)} {oc_small kV_small dc_small pm_small cd_small ct_small : Value}
    {f_number : Addr} {od_number an_number : Option Addr} {sl_number : Array (Option Value)} {oc_number kV_number dc_number pm_number cd_number ct_number : Value}
    {f_common : Addr} {od_common an_common : Option Addr} {sl_common : Array (Option Value)} {oc_common kV_common dc_common pm_common cd_common ct_common : Value}
    {f_lcommon : Addr} {od_lcommon an_lcommon : Option Addr} {sl_lcommon : Array (Option Value)} {oc_lcommon kV_lcommon dc_lcommon pm_lcommon cd_lcommon ct_lcommon : Value}
    {f_isint : Addr} {od_isint an_isint : Option Addr} {sl_isint : Array (Option Value)} {oc_isint kV_isint dc_isint pm_isint cd_isint ct_isint : Value}
    {f_init : Addr} {od_init an_init : Option Addr} {sl_init : Array (Option Value)} {oc_init kV_init dc_init pm_init cd_init ct_init : Value}
    {f_amount : Addr} {od_amount an_amount : Option Addr} {sl_amount : Array (Option Value)} {oc_amount kV_amount dc_amount pm_amount cd_amount ct_amount : Value}
    {f_tcall : Addr} {od_tcall an_tcall : Option Addr} {sl_tcall : Array (Option Value)} {oc_tcall kV_tcall dc_tcall pm_tcall cd_tcall ct_tcall : Value}
    {f_tlen : Addr} {od_tlen an_tlen : Option Addr} {sl_tlen : Array (Option Value)} {oc_tlen kV_tlen dc_tlen pm_tlen cd_tlen ct_tlen : Value}
    {f_teq : Addr} {od_teq an_teq : Option Addr} {sl_teq : Array (Option Value)} {oc_teq kV_teq dc_teq pm_teq cd_teq ct_teq : Value}
    {f_needt : Addr} {od_needt an_needt : Option Addr} {sl_needt : Array (Option Value)} {oc_needt kV_needt dc_needt pm_needt cd_needt ct_needt : Value}
    {f_commons : Addr} {od_commons an_commons : Option Addr} {sl_commons : Array (Option Value)} {oc_commons kV_commons dc_commons pm_commons cd_commons ct_commons : Value}
    {f_tight : Addr} {od_tight an_tight : Option Addr} {sl_tight : Array (Option Value)} {oc_tight kV_tight dc_tight pm_tight cd_tight ct_tight : Value}
    {f_tadd : Addr} {od_tadd an_tadd : Option Addr} {sl_tadd : Array (Option Value)} {oc_tadd kV_tadd dc_tadd pm_tadd cd_tadd ct_tadd : Value}
    {f_tmul : Addr} {od_tmul an_tmul : Option Addr} {sl_tmul : Array (Option Value)} {oc_tmul kV_tmul dc_tmul pm_tmul cd_tmul ct_tmul : Value}
    {f_trmul : Addr} {od_trmul an_trmul : Option Addr} {sl_trmul : Array (Option Value)} {oc_trmul kV_trmul dc_trmul pm_trmul cd_trmul ct_trmul : Value}
    {f_tneg : Addr} {od_tneg an_tneg : Option Addr} {sl_tneg : Array (Option Value)} {oc_tneg kV_tneg dc_tneg pm_tneg cd_tneg ct_tneg : Value}
    {f_tinv : Addr} {od_tinv an_tinv : Option Addr} {sl_tinv : Array (Option Value)} {oc_tinv kV_tinv dc_tinv pm_tinv cd_tinv ct_tinv : Value}
    {f_made : Addr} {od_made an_made : Option Addr} {sl_made : Array (Option Value)} {oc_made kV_made dc_made pm_made cd_made ct_made : Value}
    {f_joined : Addr} {od_joined an_joined : Option Addr} {sl_joined : Array (Option Value)} {oc_joined kV_joined dc_joined pm_joined cd_joined ct_joined : Value}
    {f_tstr : Addr} {od_tstr an_tstr : Option Addr} {sl_tstr : Array (Option Value)} {oc_tstr kV_tstr dc_tstr pm_tstr cd_tstr ct_tstr : Value}
    {f_drawn : Addr} {od_drawn an_drawn : Option Addr} {sl_drawn : Array (Option Value)} {oc_drawn kV_drawn dc_drawn pm_drawn cd_drawn ct_drawn : Value}
    {f_sides : Addr} {od_sides an_sides : Option Addr} {sl_sides : Array (Option Value)} {oc_sides kV_sides dc_sides pm_sides cd_sides ct_sides : Value}
    {f_law : Addr} {od_law an_law : Option Addr} {sl_law : Array (Option Value)} {oc_law kV_law dc_law pm_law cd_law ct_law : Value}
    (y1 : PySem.W.nsIn K mainGlobals "int" = some none)
    (y2 : PySem.W.nsIn K mainGlobals "bool" = some none)
    (y3 : PySem.W.nsIn K mainGlobals "tuple" = some none)
    (y4 : PySem.W.nsIn K mainGlobals "list" = some none)
    (y5 : PySem.W.nsIn K mainGlobals "abs" = some none)
    (y6 : PySem.W.nsIn K mainGlobals "len" = some none)
    (y7 : PySem.W.nsIn K mainGlobals "isinstance" = some none)
    (y8 : PySem.W.nsIn K mainGlobals "all" = some none)
    (y9 : PySem.W.nsIn K mainGlobals "range" = some none)
    (y10 : PySem.W.nsIn K mainGlobals "repr" = some none)
    (y11 : PySem.W.nsIn K mainGlobals "sum" = some none)
    (y12 : PySem.W.nsIn K mainGlobals "zip" = some none)
    (y13 : PySem.W.nsIn K mainGlobals "max" = some none)
    (y14 : PySem.W.nsIn K mainGlobals "str" = some none)
    (y15 : PySem.W.nsIn K mainGlobals "Test" = some (some (.ref C)))
    (y16 : PySem.W.plainGet K C Str.empty = true)
    (y17 : PySem.W.hasDictIn K C = true)
    (y18 : PySem.W.plainOver K C = true)
    (y19 : PySem.W.findIn K (.ref C) "__setattr__" = some (some (.builtin "object.__setattr__")))
    (y20 : PySem.W.findIn K (.ref C) "__class__" = some (some (.builtin "object.__class__")))
    (y21 : PySem.W.specialIn K (.builtin "object.__class__") "__get__" = some (some (.builtin "getset_descriptor.__get__")))
    (y22 : PySem.W.takesIn K (.builtin "object.__class__") = some true)
    (y23 : PySem.W.mroIn K C (.type "object") = some true)
    (y24 : PySem.W.isClsIn K C = true)
    (y25 : PySem.W.typeIn K (.ref C) = some (.type "type"))
    (y26 : PySem.W.findIn K (.ref C) "parts" = some none)
    (y27 : PySem.W.findIn K (.ref C) "bound" = some none)
    (y28 : PySem.W.findIn K (.ref C) "__ne__" = some (some (.builtin "object.__ne__")))
    (y29 : PySem.W.nsIn K mainGlobals "MOST_PARTS" = some (some (.int (5) tk0)))
    (y30 : PySem.W.selfFirst K C = true)
    (y31 : PySem.W.mroIn K C (.type "int") = some false)
    (y32 : PySem.W.clsIn K C = some cdT1)
    (y33 : cdT1.mro = [.ref C, .type "object"])
    (y34 : PySem.W.findIn K (.ref C) "__iadd__" = some none)
    (y35 : PySem.W.findIn K (.type "object") "__iadd__" = some none)
    (y36 : PySem.W.clsIn K C = some cdT2)
    (y37 : cdT2.mro = [.ref C, .type "object"])
    (y38 : PySem.W.findIn K (.ref C) "__imul__" = some none)
    (y39 : PySem.W.findIn K (.type "object") "__imul__" = some none)
    (y40 : PySem.W.findIn K (.ref C) "__rmul__" = some (some (.ref gmr)))
    (y41 : PySem.W.findIn K (.ref C) "__mul__" = some (some (.ref gmm)))
    (y42 : PySem.W.findIn K (.type "int") "__mul__" = some oim)
    (y43 : PySem.W.findIn K (.type "int") "__rmul__" = some oir)
    (y44 : PySem.W.nsIn K mainGlobals "REACHES" = some (some (.str ">=" tkR)))
    (y45 : PySem.W.nsIn K mainGlobals "_law_draw" = some (some (.ref f_draw)))
    (y46 : K.lookup f_draw = some ⟨oc_draw, od_draw, .func (PySem.W.fnOf "_law_draw" "_law_draw" (C8.fnArgs (top 19)) (C8.fnBody (top 19)) (C8.fnScope (top 19)) .none kV_draw dc_draw pm_draw an_draw cd_draw ct_draw), sl_draw⟩)
    (y47 : PySem.W.codeIn K cd_draw "_law_draw" = true)
    (y48 : PySem.W.keepIn K (.ref f_draw) = true)
    (y49 : PySem.W.nsIn K mainGlobals "_law_pen" = some (some (.ref f_pen)))
    (y50 : K.lookup f_pen = some ⟨oc_pen, od_pen, .func (PySem.W.fnOf "_law_pen" "_law_pen" (C8.fnArgs (top 18)) (C8.fnBody (top 18)) (C8.fnScope (top 18)) .none kV_pen dc_pen pm_pen an_pen cd_pen ct_pen), sl_pen⟩)
    (y51 : PySem.W.codeIn K cd_pen "_law_pen" = true)
    (y52 : PySem.W.keepIn K (.ref f_pen) = true)
    (y53 : PySem.W.nsIn K mainGlobals "_law_pick" = some (some (.ref f_pick)))
    (y54 : K.lookup f_pick = some ⟨oc_pick, od_pick, .func (PySem.W.fnOf "_law_pick" "_law_pick" (C8.fnArgs (top 20)) (C8.fnBody (top 20)) (C8.fnScope (top 20)) .none kV_pick dc_pick pm_pick an_pick cd_pick ct_pick), sl_pick⟩)
    (y55 : PySem.W.codeIn K cd_pick "_law_pick" = true)
    (y56 : PySem.W.keepIn K (.ref f_pick) = true)
    (y57 : PySem.W.nsIn K mainGlobals "_law_small" = some (some (.ref f_small)))
    (y58 : K.lookup f_small = some ⟨oc_small, od_small, .func (PySem.W.fnOf "_law_small" "_law_small" (C8.fnArgs (top 21)) (C8.fnBody (top 21)) (C8.fnScope (top 21)) .none kV_small dc_small pm_small an_small cd_small ct_small), sl_small⟩)
    (y59 : PySem.W.codeIn K cd_small "_law_small" = true)
    (y60 : PySem.W.keepIn K (.ref f_small) = true)
    (y61 : PySem.W.nsIn K mainGlobals "_law_number" = some (some (.ref f_number)))
    (y62 : K.lookup f_number = some ⟨oc_number, od_number, .func (PySem.W.fnOf "_law_number" "_law_number" (C8.fnArgs (top 22)) (C8.fnBody (top 22)) (C8.fnScope (top 22)) .none kV_number dc_number pm_number an_number cd_number ct_number), sl_number⟩)
    (y63 : PySem.W.codeIn K cd_number "_law_number" = true)
    (y64 : PySem.W.keepIn K (.ref f_number) = true)
    (y65 : PySem.W.nsIn K mainGlobals "common" = some (some (.ref f_common)))
    (y66 : K.lookup f_common = some ⟨oc_common, od_common, .func (PySem.W.fnOf "common" "common" (C8.fnArgs (top 12)) (C8.fnBody (top 12)) (C8.fnScope (top 12)) .none kV_common dc_common pm_common an_common cd_common ct_common), sl_common⟩)
    (y67 : PySem.W.codeIn K cd_common "common" = true)
    (y68 : PySem.W.keepIn K (.ref f_common) = true)
    (y69 : PySem.W.nsIn K mainGlobals "_law_common" = some (some (.ref f_lcommon)))
    (y70 : K.lookup f_lcommon = some ⟨oc_lcommon, od_lcommon, .func (PySem.W.fnOf "_law_common" "_law_common" (C8.fnArgs (top 23)) (C8.fnBody (top 23)) (C8.fnScope (top 23)) .none kV_lcommon dc_lcommon pm_lcommon an_lcommon cd_lcommon ct_lcommon), sl_lcommon⟩)
    (y71 : PySem.W.codeIn K cd_lcommon "_law_common" = true)
    (y72 : PySem.W.keepIn K (.ref f_lcommon) = true)
    (y73 : PySem.W.nsIn K mainGlobals "is_integer" = some (some (.ref f_isint)))
    (y74 : K.lookup f_isint = some ⟨oc_isint, od_isint, .func (PySem.W.fnOf "is_integer" "is_integer" (C8.fnArgs (top 7)) (C8.fnBody (top 7)) (C8.fnScope (top 7)) .none kV_isint dc_isint pm_isint an_isint cd_isint ct_isint), sl_isint⟩)
    (y75 : PySem.W.codeIn K cd_isint "is_integer" = true)
    (y76 : PySem.W.keepIn K (.ref f_isint) = true)
    (y77 : PySem.W.findIn K (.ref C) "__init__" = some (some (.ref f_init)))
    (y78 : K.lookup f_init = some ⟨oc_init, od_init, .func (PySem.W.fnOf "__init__" "Test.__init__" (C8.fnArgs (inClass (top 16) 0)) (C8.fnBody (inClass (top 16) 0)) (C8.fnScope (inClass (top 16) 0)) .none kV_init dc_init pm_init an_init cd_init ct_init), sl_init⟩)
    (y79 : PySem.W.codeIn K cd_init "Test.__init__" = true)
    (y80 : PySem.W.keepIn K (.ref f_init) = true)
    (y81 : PySem.W.isFn K (.ref f_init) = true)
    (y82 : PySem.W.findIn K (.ref C) "amount" = some (some (.ref f_amount)))
    (y83 : K.lookup f_amount = some ⟨oc_amount, od_amount, .func (PySem.W.fnOf "amount" "Test.amount" (C8.fnArgs (inClass (top 16) 2)) (C8.fnBody (inClass (top 16) 2)) (C8.fnScope (inClass (top 16) 2)) .none kV_amount dc_amount pm_amount an_amount cd_amount ct_amount), sl_amount⟩)
    (y84 : PySem.W.codeIn K cd_amount "Test.amount" = true)
    (y85 : PySem.W.keepIn K (.ref f_amount) = true)
    (y86 : PySem.W.isFn K (.ref f_amount) = true)
    (y87 : PySem.W.findIn K (.ref C) "__call__" = some (some (.ref f_tcall)))
    (y88 : K.lookup f_tcall = some ⟨oc_tcall, od_tcall, .func (PySem.W.fnOf "__call__" "Test.__call__" (C8.fnArgs (inClass (top 16) 4)) (C8.fnBody (inClass (top 16) 4)) (C8.fnScope (inClass (top 16) 4)) .none kV_tcall dc_tcall pm_tcall an_tcall cd_tcall ct_tcall), sl_tcall⟩)
    (y89 : PySem.W.codeIn K cd_tcall "Test.__call__" = true)
    (y90 : PySem.W.keepIn K (.ref f_tcall) = true)
    (y91 : PySem.W.isFn K (.ref f_tcall) = true)
    (y92 : PySem.W.findIn K (.ref C) "__len__" = some (some (.ref f_tlen)))
    (y93 : K.lookup f_tlen = some ⟨oc_tlen, od_tlen, .func (PySem.W.fnOf "__len__" "Test.__len__" (C8.fnArgs (inClass (top 16) 5)) (C8.fnBody (inClass (top 16) 5)) (C8.fnScope (inClass (top 16) 5)) .none kV_tlen dc_tlen pm_tlen an_tlen cd_tlen ct_tlen), sl_tlen⟩)
    (y94 : PySem.W.codeIn K cd_tlen "Test.__len__" = true)
    (y95 : PySem.W.keepIn K (.ref f_tlen) = true)
    (y96 : PySem.W.isFn K (.ref f_tlen) = true)
    (y97 : PySem.W.findIn K (.ref C) "__eq__" = some (some (.ref f_teq)))
    (y98 : K.lookup f_teq = some ⟨oc_teq, od_teq, .func (PySem.W.fnOf "__eq__" "Test.__eq__" (C8.fnArgs (inClass (top 16) 11)) (C8.fnBody (inClass (top 16) 11)) (C8.fnScope (inClass (top 16) 11)) .none kV_teq dc_teq pm_teq an_teq cd_teq ct_teq), sl_teq⟩)
    (y99 : PySem.W.codeIn K cd_teq "Test.__eq__" = true)
    (y100 : PySem.W.keepIn K (.ref f_teq) = true)
    (y101 : PySem.W.isFn K (.ref f_teq) = true)
    (y102 : PySem.W.nsIn K mainGlobals "need_times" = some (some (.ref f_needt)))
    (y103 : K.lookup f_needt = some ⟨oc_needt, od_needt, .func (PySem.W.fnOf "need_times" "need_times" (C8.fnArgs (top 15)) (C8.fnBody (top 15)) (C8.fnScope (top 15)) .none kV_needt dc_needt pm_needt an_needt cd_needt ct_needt), sl_needt⟩)
    (y104 : PySem.W.codeIn K cd_needt "need_times" = true)
    (y105 : PySem.W.keepIn K (.ref f_needt) = true)
    (y106 : PySem.W.nsIn K mainGlobals "common_of" = some (some (.ref f_commons)))
    (y107 : K.lookup f_commons = some ⟨oc_commons, od_commons, .func (PySem.W.fnOf "common_of" "common_of" (C8.fnArgs (top 13)) (C8.fnBody (top 13)) (C8.fnScope (top 13)) .none kV_commons dc_commons pm_commons an_commons cd_commons ct_commons), sl_commons⟩)
    (y108 : PySem.W.codeIn K cd_commons "common_of" = true)
    (y109 : PySem.W.keepIn K (.ref f_commons) = true)
    (y110 : PySem.W.findIn K (.ref C) "tight" = some (some (.ref f_tight)))
    (y111 : K.lookup f_tight = some ⟨oc_tight, od_tight, .func (PySem.W.fnOf "tight" "Test.tight" (C8.fnArgs (inClass (top 16) 3)) (C8.fnBody (inClass (top 16) 3)) (C8.fnScope (inClass (top 16) 3)) .none kV_tight dc_tight pm_tight an_tight cd_tight ct_tight), sl_tight⟩)
    (y112 : PySem.W.codeIn K cd_tight "Test.tight" = true)
    (y113 : PySem.W.keepIn K (.ref f_tight) = true)
    (y114 : PySem.W.isFn K (.ref f_tight) = true)
    (y115 : PySem.W.findIn K (.ref C) "__add__" = some (some (.ref f_tadd)))
    (y116 : K.lookup f_tadd = some ⟨oc_tadd, od_tadd, .func (PySem.W.fnOf "__add__" "Test.__add__" (C8.fnArgs (inClass (top 16) 6)) (C8.fnBody (inClass (top 16) 6)) (C8.fnScope (inClass (top 16) 6)) .none kV_tadd dc_tadd pm_tadd an_tadd cd_tadd ct_tadd), sl_tadd⟩)
    (y117 : PySem.W.codeIn K cd_tadd "Test.__add__" = true)
    (y118 : PySem.W.keepIn K (.ref f_tadd) = true)
    (y119 : PySem.W.isFn K (.ref f_tadd) = true)
    (y120 : PySem.W.findIn K (.ref C) "__mul__" = some (some (.ref f_tmul)))
    (y121 : K.lookup f_tmul = some ⟨oc_tmul, od_tmul, .func (PySem.W.fnOf "__mul__" "Test.__mul__" (C8.fnArgs (inClass (top 16) 7)) (C8.fnBody (inClass (top 16) 7)) (C8.fnScope (inClass (top 16) 7)) .none kV_tmul dc_tmul pm_tmul an_tmul cd_tmul ct_tmul), sl_tmul⟩)
    (y122 : PySem.W.codeIn K cd_tmul "Test.__mul__" = true)
    (y123 : PySem.W.keepIn K (.ref f_tmul) = true)
    (y124 : PySem.W.isFn K (.ref f_tmul) = true)
    (y125 : PySem.W.findIn K (.ref C) "__rmul__" = some (some (.ref f_trmul)))
    (y126 : K.lookup f_trmul = some ⟨oc_trmul, od_trmul, .func (PySem.W.fnOf "__rmul__" "Test.__rmul__" (C8.fnArgs (inClass (top 16) 8)) (C8.fnBody (inClass (top 16) 8)) (C8.fnScope (inClass (top 16) 8)) .none kV_trmul dc_trmul pm_trmul an_trmul cd_trmul ct_trmul), sl_trmul⟩)
    (y127 : PySem.W.codeIn K cd_trmul "Test.__rmul__" = true)
    (y128 : PySem.W.keepIn K (.ref f_trmul) = true)
    (y129 : PySem.W.isFn K (.ref f_trmul) = true)
    (y130 : PySem.W.findIn K (.ref C) "__neg__" = some (some (.ref f_tneg)))
    (y131 : K.lookup f_tneg = some ⟨oc_tneg, od_tneg, .func (PySem.W.fnOf "__neg__" "Test.__neg__" (C8.fnArgs (inClass (top 16) 9)) (C8.fnBody (inClass (top 16) 9)) (C8.fnScope (inClass (top 16) 9)) .none kV_tneg dc_tneg pm_tneg an_tneg cd_tneg ct_tneg), sl_tneg⟩)
    (y132 : PySem.W.codeIn K cd_tneg "Test.__neg__" = true)
    (y133 : PySem.W.keepIn K (.ref f_tneg) = true)
    (y134 : PySem.W.isFn K (.ref f_tneg) = true)
    (y135 : PySem.W.findIn K (.ref C) "__invert__" = some (some (.ref f_tinv)))
    (y136 : K.lookup f_tinv = some ⟨oc_tinv, od_tinv, .func (PySem.W.fnOf "__invert__" "Test.__invert__" (C8.fnArgs (inClass (top 16) 10)) (C8.fnBody (inClass (top 16) 10)) (C8.fnScope (inClass (top 16) 10)) .none kV_tinv dc_tinv pm_tinv an_tinv cd_tinv ct_tinv), sl_tinv⟩)
    (y137 : PySem.W.codeIn K cd_tinv "Test.__invert__" = true)
    (y138 : PySem.W.keepIn K (.ref f_tinv) = true)
    (y139 : PySem.W.isFn K (.ref f_tinv) = true)
    (y140 : PySem.W.nsIn K mainGlobals "_law_made" = some (some (.ref f_made)))
    (y141 : K.lookup f_made = some ⟨oc_made, od_made, .func (PySem.W.fnOf "_law_made" "_law_made" (C8.fnArgs (top 24)) (C8.fnBody (top 24)) (C8.fnScope (top 24)) .none kV_made dc_made pm_made an_made cd_made ct_made), sl_made⟩)
    (y142 : PySem.W.codeIn K cd_made "_law_made" = true)
    (y143 : PySem.W.keepIn K (.ref f_made) = true)
    (y144 : PySem.W.nsIn K mainGlobals "_law_joined_right" = some (some (.ref f_joined)))
    (y145 : K.lookup f_joined = some ⟨oc_joined, od_joined, .func (PySem.W.fnOf "_law_joined_right" "_law_joined_right" (C8.fnArgs (top 25)) (C8.fnBody (top 25)) (C8.fnScope (top 25)) .none kV_joined dc_joined pm_joined an_joined cd_joined ct_joined), sl_joined⟩)
    (y146 : PySem.W.codeIn K cd_joined "_law_joined_right" = true)
    (y147 : PySem.W.keepIn K (.ref f_joined) = true)
    (y148 : PySem.W.findIn K (.ref C) "__str__" = some (some (.ref f_tstr)))
    (y149 : K.lookup f_tstr = some ⟨oc_tstr, od_tstr, .func (PySem.W.fnOf "__str__" "Test.__str__" (C8.fnArgs (inClass (top 16) 12)) (C8.fnBody (inClass (top 16) 12)) (C8.fnScope (inClass (top 16) 12)) .none kV_tstr dc_tstr pm_tstr an_tstr cd_tstr ct_tstr), sl_tstr⟩)
    (y150 : PySem.W.codeIn K cd_tstr "Test.__str__" = true)
    (y151 : PySem.W.keepIn K (.ref f_tstr) = true)
    (y152 : PySem.W.isFn K (.ref f_tstr) = true)
    (y153 : PySem.W.nsIn K mainGlobals "_law_drawn" = some (some (.ref f_drawn)))
    (y154 : K.lookup f_drawn = some ⟨oc_drawn, od_drawn, .func (PySem.W.fnOf "_law_drawn" "_law_drawn" (C8.fnArgs (top 27)) (C8.fnBody (top 27)) (C8.fnScope (top 27)) .none kV_drawn dc_drawn pm_drawn an_drawn cd_drawn ct_drawn), sl_drawn⟩)
    (y155 : PySem.W.codeIn K cd_drawn "_law_drawn" = true)
    (y156 : PySem.W.keepIn K (.ref f_drawn) = true)
    (y157 : PySem.W.nsIn K mainGlobals "_law_sides_right" = some (some (.ref f_sides)))
    (y158 : K.lookup f_sides = some ⟨oc_sides, od_sides, .func (PySem.W.fnOf "_law_sides_right" "_law_sides_right" (C8.fnArgs (top 26)) (C8.fnBody (top 26)) (C8.fnScope (top 26)) .none kV_sides dc_sides pm_sides an_sides cd_sides ct_sides), sl_sides⟩)
    (y159 : PySem.W.codeIn K cd_sides "_law_sides_right" = true)
    (y160 : PySem.W.keepIn K (.ref f_sides) = true)
    (y161 : PySem.W.nsIn K mainGlobals "law" = some (some (.ref f_law)))
    (y162 : K.lookup f_law = some ⟨oc_law, od_law, .func (PySem.W.fnOf "law" "law" (C8.fnArgs (top 28)) (C8.fnBody (top 28)) (C8.fnScope (top 28)) .none kV_law dc_law pm_law an_law cd_law ct_law), sl_law⟩)
    (y163 : PySem.W.codeIn K cd_law "law" = true)
    (y164 : PySem.W.keepIn K (.ref f_law) = true)
    (y165 : PySem.W.makesIn K C = true)
    (y166 : PySem.W.keepIn K (.ref C) = true)
    (y167 : PySem.W.fnIn K f_tcall = true) :
    ∃ fd : FuncData, (∀ (s : Shared) (v : Value), BindsTo s fd ⟨[v], []⟩ [("_law_script", v)]) ∧ ∀ base : Heap, K.In base → base.Ns mainGlobals mg → Ev.GOk l.prog w K mg base (L2.CX l.prog w) 6 fa fd ["_law_script"] (spLaw K) := by
  have e : f_law = fa := Value.ref.inj (Option.some.inj ((PySem.W.mg_of X G y161).symm.trans hfa))
  subst e
  have T : Tx K mg C := ⟨PySem.W.mg_none_of X G y1, PySem.W.mg_none_of X G y2, PySem.W.mg_none_of X G y3, PySem.W.mg_none_of X G y4, PySem.W.mg_none_of X G y5, PySem.W.mg_none_of X G y6, PySem.W.mg_none_of X G y7, PySem.W.mg_none_of X G y8, PySem.W.mg_none_of X G y9, PySem.W.mg_none_of X G y10, PySem.W.mg_none_of X G y11, PySem.W.mg_none_of X G y12, PySem.W.mg_none_of X G y13, PySem.W.mg_none_of X G y14, PySem.W.mg_of X G y15, ⟨⟨y16, y17, y18, y19⟩, y20, y21, y22, y23, Ev.it_of y24 y25⟩, y26, y27, ⟨y28, y23⟩, ⟨_, PySem.W.mg_of X G y29⟩, ⟨y30, y31⟩, ⟨⟨_, y32, y33⟩, y34, y35⟩, ⟨⟨_, y36, y37⟩, y38, y39⟩, ⟨_, y40⟩, ⟨_, y41⟩, ⟨_, y42⟩, ⟨_, y43⟩, ⟨_, PySem.W.mg_of X G y44⟩⟩
  have F_draw : Ev.Fn K "_law_draw" "_law_draw" (top 19) f_draw (PySem.W.fnOf "_law_draw" "_law_draw" (C8.fnArgs (top 19)) (C8.fnBody (top 19)) (C8.fnScope (top 19)) .none kV_draw dc_draw pm_draw an_draw cd_draw ct_draw) := ⟨⟨_, _, _, _, _, _, _, _, _, _, rfl, y46, y47⟩⟩
  have b_draw : Binds K (PySem.W.fnOf "_law_draw" "_law_draw" (C8.fnArgs (top 19)) (C8.fnBody (top 19)) (C8.fnScope (top 19)) .none kV_draw dc_draw pm_draw an_draw cd_draw ct_draw) ["_law_pen_here", "_law_top_so"] [] := Binds.all fun us hl => match us, hl with | [_, _], _ => rfl
  have F_pen : Ev.Fn K "_law_pen" "_law_pen" (top 18) f_pen (PySem.W.fnOf "_law_pen" "_law_pen" (C8.fnArgs (top 18)) (C8.fnBody (top 18)) (C8.fnScope (top 18)) .none kV_pen dc_pen pm_pen an_pen cd_pen ct_pen) := ⟨⟨_, _, _, _, _, _, _, _, _, _, rfl, y50, y51⟩⟩
  have b_pen : Binds K (PySem.W.fnOf "_law_pen" "_law_pen" (C8.fnArgs (top 18)) (C8.fnBody (top 18)) (C8.fnScope (top 18)) .none kV_pen dc_pen pm_pen an_pen cd_pen ct_pen) ["_law_script"] [] := Binds.all fun us hl => match us, hl with | [_], _ => rfl
  have F_pick : Ev.Fn K "_law_pick" "_law_pick" (top 20) f_pick (PySem.W.fnOf "_law_pick" "_law_pick" (C8.fnArgs (top 20)) (C8.fnBody (top 20)) (C8.fnScope (top 20)) .none kV_pick dc_pick pm_pick an_pick cd_pick ct_pick) := ⟨⟨_, _, _, _, _, _, _, _, _, _, rfl, y54, y55⟩⟩
  have b_pick : Binds K (PySem.W.fnOf "_law_pick" "_law_pick" (C8.fnArgs (top 20)) (C8.fnBody (top 20)) (C8.fnScope (top 20)) .none kV_pick dc_pick pm_pick an_pick cd_pick ct_pick) ["_law_pen_here", "_law_some"] [] := Binds.all fun us hl => match us, hl with | [_, _], _ => rfl
  have F_small : Ev.Fn K "_law_small" "_law_small" (top 21) f_small (PySem.W.fnOf "_law_small" "_law_small" (C8.fnArgs (top 21)) (C8.fnBody (top 21)) (C8.fnScope (top 21)) .none kV_small dc_small pm_small an_small cd_small ct_small) := ⟨⟨_, _, _, _, _, _, _, _, _, _, rfl, y58, y59⟩⟩
  have b_small : Binds K (PySem.W.fnOf "_law_small" "_law_small" (C8.fnArgs (top 21)) (C8.fnBody (top 21)) (C8.fnScope (top 21)) .none kV_small dc_small pm_small an_small cd_small ct_small) ["_law_pen_here", "_law_most_so"] [] := Binds.all fun us hl => match us, hl with | [_, _], _ => rfl
  have F_number : Ev.Fn K "_law_number" "_law_number" (top 22) f_number (PySem.W.fnOf "_law_number" "_law_number" (C8.fnArgs (top 22)) (C8.fnBody (top 22)) (C8.fnScope (top 22)) .none kV_number dc_number pm_number an_number cd_number ct_number) := ⟨⟨_, _, _, _, _, _, _, _, _, _, rfl, y62, y63⟩⟩
  have b_number : Binds K (PySem.W.fnOf "_law_number" "_law_number" (C8.fnArgs (top 22)) (C8.fnBody (top 22)) (C8.fnScope (top 22)) .none kV_number dc_number pm_number an_number cd_number ct_number) ["_law_pen_here"] [] := Binds.all fun us hl => match us, hl with | [_], _ => rfl
  have F_common : Ev.Fn K "common" "common" (top 12) f_common (PySem.W.fnOf "common" "common" (C8.fnArgs (top 12)) (C8.fnBody (top 12)) (C8.fnScope (top 12)) .none kV_common dc_common pm_common an_common cd_common ct_common) := ⟨⟨_, _, _, _, _, _, _, _, _, _, rfl, y66, y67⟩⟩
  have b_common : Binds K (PySem.W.fnOf "common" "common" (C8.fnArgs (top 12)) (C8.fnBody (top 12)) (C8.fnScope (top 12)) .none kV_common dc_common pm_common an_common cd_common ct_common) ["one", "other"] [] := Binds.all fun us hl => match us, hl with | [_, _], _ => rfl
  have F_lcommon : Ev.Fn K "_law_common" "_law_common" (top 23) f_lcommon (PySem.W.fnOf "_law_common" "_law_common" (C8.fnArgs (top 23)) (C8.fnBody (top 23)) (C8.fnScope (top 23)) .none kV_lcommon dc_lcommon pm_lcommon an_lcommon cd_lcommon ct_lcommon) := ⟨⟨_, _, _, _, _, _, _, _, _, _, rfl, y70, y71⟩⟩
  have b_lcommon : Binds K (PySem.W.fnOf "_law_common" "_law_common" (C8.fnArgs (top 23)) (C8.fnBody (top 23)) (C8.fnScope (top 23)) .none kV_lcommon dc_lcommon pm_lcommon an_lcommon cd_lcommon ct_lcommon) ["_law_one", "_law_other"] [] := Binds.all fun us hl => match us, hl with | [_, _], _ => rfl
  have F_isint : Ev.Fn K "is_integer" "is_integer" (top 7) f_isint (PySem.W.fnOf "is_integer" "is_integer" (C8.fnArgs (top 7)) (C8.fnBody (top 7)) (C8.fnScope (top 7)) .none kV_isint dc_isint pm_isint an_isint cd_isint ct_isint) := ⟨⟨_, _, _, _, _, _, _, _, _, _, rfl, y74, y75⟩⟩
  have b_isint : Binds K (PySem.W.fnOf "is_integer" "is_integer" (C8.fnArgs (top 7)) (C8.fnBody (top 7)) (C8.fnScope (top 7)) .none kV_isint dc_isint pm_isint an_isint cd_isint ct_isint) ["value"] [] := Binds.all fun us hl => match us, hl with | [_], _ => rfl
  have F_init : Ev.Fn K "__init__" "Test.__init__" (inClass (top 16) 0) f_init (PySem.W.fnOf "__init__" "Test.__init__" (C8.fnArgs (inClass (top 16) 0)) (C8.fnBody (inClass (top 16) 0)) (C8.fnScope (inClass (top 16) 0)) .none kV_init dc_init pm_init an_init cd_init ct_init) := ⟨⟨_, _, _, _, _, _, _, _, _, _, rfl, y78, y79⟩⟩
  have b_init : Binds K (PySem.W.fnOf "__init__" "Test.__init__" (C8.fnArgs (inClass (top 16) 0)) (C8.fnBody (inClass (top 16) 0)) (C8.fnScope (inClass (top 16) 0)) .none kV_init dc_init pm_init an_init cd_init ct_init) ["self", "parts", "bound"] [] := Binds.all fun us hl => match us, hl with | [_, _, _], _ => rfl
  have F_amount : Ev.Fn K "amount" "Test.amount" (inClass (top 16) 2) f_amount (PySem.W.fnOf "amount" "Test.amount" (C8.fnArgs (inClass (top 16) 2)) (C8.fnBody (inClass (top 16) 2)) (C8.fnScope (inClass (top 16) 2)) .none kV_amount dc_amount pm_amount an_amount cd_amount ct_amount) := ⟨⟨_, _, _, _, _, _, _, _, _, _, rfl, y83, y84⟩⟩
  have b_amount : Binds K (PySem.W.fnOf "amount" "Test.amount" (C8.fnArgs (inClass (top 16) 2)) (C8.fnBody (inClass (top 16) 2)) (C8.fnScope (inClass (top 16) 2)) .none kV_amount dc_amount pm_amount an_amount cd_amount ct_amount) ["self", "numbers"] [] := Binds.all fun us hl => match us, hl with | [_, _], _ => rfl
  have F_tcall : Ev.Fn K "__call__" "Test.__call__" (inClass (top 16) 4) f_tcall (PySem.W.fnOf "__call__" "Test.__call__" (C8.fnArgs (inClass (top 16) 4)) (C8.fnBody (inClass (top 16) 4)) (C8.fnScope (inClass (top 16) 4)) .none kV_tcall dc_tcall pm_tcall an_tcall cd_tcall ct_tcall) := ⟨⟨_, _, _, _, _, _, _, _, _, _, rfl, y88, y89⟩⟩
  have b_tcall : Binds K (PySem.W.fnOf "__call__" "Test.__call__" (C8.fnArgs (inClass (top 16) 4)) (C8.fnBody (inClass (top 16) 4)) (C8.fnScope (inClass (top 16) 4)) .none kV_tcall dc_tcall pm_tcall an_tcall cd_tcall ct_tcall) ["self", "numbers"] [] := Binds.all fun us hl => match us, hl with | [_, _], _ => rfl
  have F_tlen : Ev.Fn K "__len__" "Test.__len__" (inClass (top 16) 5) f_tlen (PySem.W.fnOf "__len__" "Test.__len__" (C8.fnArgs (inClass (top 16) 5)) (C8.fnBody (inClass (top 16) 5)) (C8.fnScope (inClass (top 16) 5)) .none kV_tlen dc_tlen pm_tlen an_tlen cd_tlen ct_tlen) := ⟨⟨_, _, _, _, _, _, _, _, _, _, rfl, y93, y94⟩⟩
  have b_tlen : Binds K (PySem.W.fnOf "__len__" "Test.__len__" (C8.fnArgs (inClass (top 16) 5)) (C8.fnBody (inClass (top 16) 5)) (C8.fnScope (inClass (top 16) 5)) .none kV_tlen dc_tlen pm_tlen an_tlen cd_tlen ct_tlen) ["self"] [] := Binds.all fun us hl => match us, hl with | [_], _ => rfl
  have F_teq : Ev.Fn K "__eq__" "Test.__eq__" (inClass (top 16) 11) f_teq (PySem.W.fnOf "__eq__" "Test.__eq__" (C8.fnArgs (inClass (top 16) 11)) (C8.fnBody (inClass (top 16) 11)) (C8.fnScope (inClass (top 16) 11)) .none kV_teq dc_teq pm_teq an_teq cd_teq ct_teq) := ⟨⟨_, _, _, _, _, _, _, _, _, _, rfl, y98, y99⟩⟩
  have b_teq : Binds K (PySem.W.fnOf "__eq__" "Test.__eq__" (C8.fnArgs (inClass (top 16) 11)) (C8.fnBody (inClass (top 16) 11)) (C8.fnScope (inClass (top 16) 11)) .none kV_teq dc_teq pm_teq an_teq cd_teq ct_teq) ["self", "other"] [] := Binds.all fun us hl => match us, hl with | [_, _], _ => rfl
  have F_needt : Ev.Fn K "need_times" "need_times" (top 15) f_needt (PySem.W.fnOf "need_times" "need_times" (C8.fnArgs (top 15)) (C8.fnBody (top 15)) (C8.fnScope (top 15)) .none kV_needt dc_needt pm_needt an_needt cd_needt ct_needt) := ⟨⟨_, _, _, _, _, _, _, _, _, _, rfl, y103, y104⟩⟩
  have b_needt : Binds K (PySem.W.fnOf "need_times" "need_times" (C8.fnArgs (top 15)) (C8.fnBody (top 15)) (C8.fnScope (top 15)) .none kV_needt dc_needt pm_needt an_needt cd_needt ct_needt) ["number"] [] := Binds.all fun us hl => match us, hl with | [_], _ => rfl
  have F_commons : Ev.Fn K "common_of" "common_of" (top 13) f_commons (PySem.W.fnOf "common_of" "common_of" (C8.fnArgs (top 13)) (C8.fnBody (top 13)) (C8.fnScope (top 13)) .none kV_commons dc_commons pm_commons an_commons cd_commons ct_commons) := ⟨⟨_, _, _, _, _, _, _, _, _, _, rfl, y107, y108⟩⟩
  have b_commons : Binds K (PySem.W.fnOf "common_of" "common_of" (C8.fnArgs (top 13)) (C8.fnBody (top 13)) (C8.fnScope (top 13)) .none kV_commons dc_commons pm_commons an_commons cd_commons ct_commons) ["numbers"] [] := Binds.all fun us hl => match us, hl with | [_], _ => rfl
  have F_tight : Ev.Fn K "tight" "Test.tight" (inClass (top 16) 3) f_tight (PySem.W.fnOf "tight" "Test.tight" (C8.fnArgs (inClass (top 16) 3)) (C8.fnBody (inClass (top 16) 3)) (C8.fnScope (inClass (top 16) 3)) .none kV_tight dc_tight pm_tight an_tight cd_tight ct_tight) := ⟨⟨_, _, _, _, _, _, _, _, _, _, rfl, y111, y112⟩⟩
  have b_tight : Binds K (PySem.W.fnOf "tight" "Test.tight" (C8.fnArgs (inClass (top 16) 3)) (C8.fnBody (inClass (top 16) 3)) (C8.fnScope (inClass (top 16) 3)) .none kV_tight dc_tight pm_tight an_tight cd_tight ct_tight) ["self"] [] := Binds.all fun us hl => match us, hl with | [_], _ => rfl
  have F_tadd : Ev.Fn K "__add__" "Test.__add__" (inClass (top 16) 6) f_tadd (PySem.W.fnOf "__add__" "Test.__add__" (C8.fnArgs (inClass (top 16) 6)) (C8.fnBody (inClass (top 16) 6)) (C8.fnScope (inClass (top 16) 6)) .none kV_tadd dc_tadd pm_tadd an_tadd cd_tadd ct_tadd) := ⟨⟨_, _, _, _, _, _, _, _, _, _, rfl, y116, y117⟩⟩
  have b_tadd : Binds K (PySem.W.fnOf "__add__" "Test.__add__" (C8.fnArgs (inClass (top 16) 6)) (C8.fnBody (inClass (top 16) 6)) (C8.fnScope (inClass (top 16) 6)) .none kV_tadd dc_tadd pm_tadd an_tadd cd_tadd ct_tadd) ["self", "other"] [] := Binds.all fun us hl => match us, hl with | [_, _], _ => rfl
  have F_tmul : Ev.Fn K "__mul__" "Test.__mul__" (inClass (top 16) 7) f_tmul (PySem.W.fnOf "__mul__" "Test.__mul__" (C8.fnArgs (inClass (top 16) 7)) (C8.fnBody (inClass (top 16) 7)) (C8.fnScope (inClass (top 16) 7)) .none kV_tmul dc_tmul pm_tmul an_tmul cd_tmul ct_tmul) := ⟨⟨_, _, _, _, _, _, _, _, _, _, rfl, y121, y122⟩⟩
  have b_tmul : Binds K (PySem.W.fnOf "__mul__" "Test.__mul__" (C8.fnArgs (inClass (top 16) 7)) (C8.fnBody (inClass (top 16) 7)) (C8.fnScope (inClass (top 16) 7)) .none kV_tmul dc_tmul pm_tmul an_tmul cd_tmul ct_tmul) ["self", "number"] [] := Binds.all fun us hl => match us, hl with | [_, _], _ => rfl
  have F_trmul : Ev.Fn K "__rmul__" "Test.__rmul__" (inClass (top 16) 8) f_trmul (PySem.W.fnOf "__rmul__" "Test.__rmul__" (C8.fnArgs (inClass (top 16) 8)) (C8.fnBody (inClass (top 16) 8)) (C8.fnScope (inClass (top 16) 8)) .none kV_trmul dc_trmul pm_trmul an_trmul cd_trmul ct_trmul) := ⟨⟨_, _, _, _, _, _, _, _, _, _, rfl, y126, y127⟩⟩
  have b_trmul : Binds K (PySem.W.fnOf "__rmul__" "Test.__rmul__" (C8.fnArgs (inClass (top 16) 8)) (C8.fnBody (inClass (top 16) 8)) (C8.fnScope (inClass (top 16) 8)) .none kV_trmul dc_trmul pm_trmul an_trmul cd_trmul ct_trmul) ["self", "number"] [] := Binds.all fun us hl => match us, hl with | [_, _], _ => rfl
  have F_tneg : Ev.Fn K "__neg__" "Test.__neg__" (inClass (top 16) 9) f_tneg (PySem.W.fnOf "__neg__" "Test.__neg__" (C8.fnArgs (inClass (top 16) 9)) (C8.fnBody (inClass (top 16) 9)) (C8.fnScope (inClass (top 16) 9)) .none kV_tneg dc_tneg pm_tneg an_tneg cd_tneg ct_tneg) := ⟨⟨_, _, _, _, _, _, _, _, _, _, rfl, y131, y132⟩⟩
  have b_tneg : Binds K (PySem.W.fnOf "__neg__" "Test.__neg__" (C8.fnArgs (inClass (top 16) 9)) (C8.fnBody (inClass (top 16) 9)) (C8.fnScope (inClass (top 16) 9)) .none kV_tneg dc_tneg pm_tneg an_tneg cd_tneg ct_tneg) ["self"] [] := Binds.all fun us hl => match us, hl with | [_], _ => rfl
  have F_tinv : Ev.Fn K "__invert__" "Test.__invert__" (inClass (top 16) 10) f_tinv (PySem.W.fnOf "__invert__" "Test.__invert__" (C8.fnArgs (inClass (top 16) 10)) (C8.fnBody (inClass (top 16) 10)) (C8.fnScope (inClass (top 16) 10)) .none kV_tinv dc_tinv pm_tinv an_tinv cd_tinv ct_tinv) := ⟨⟨_, _, _, _, _, _, _, _, _, _, rfl, y136, y137⟩⟩
  have b_tinv : Binds K (PySem.W.fnOf "__invert__" "Test.__invert__" (C8.fnArgs (inClass (top 16) 10)) (C8.fnBody (inClass (top 16) 10)) (C8.fnScope (inClass (top 16) 10)) .none kV_tinv dc_tinv pm_tinv an_tinv cd_tinv ct_tinv) ["self"] [] := Binds.all fun us hl => match us, hl with | [_], _ => rfl
  have F_made : Ev.Fn K "_law_made" "_law_made" (top 24) f_made (PySem.W.fnOf "_law_made" "_law_made" (C8.fnArgs (top 24)) (C8.fnBody (top 24)) (C8.fnScope (top 24)) .none kV_made dc_made pm_made an_made cd_made ct_made) := ⟨⟨_, _, _, _, _, _, _, _, _, _, rfl, y141, y142⟩⟩
  have b_made : Binds K (PySem.W.fnOf "_law_made" "_law_made" (C8.fnArgs (top 24)) (C8.fnBody (top 24)) (C8.fnScope (top 24)) .none kV_made dc_made pm_made an_made cd_made ct_made) ["_law_some"] [] := Binds.all fun us hl => match us, hl with | [_], _ => rfl
  have F_joined : Ev.Fn K "_law_joined_right" "_law_joined_right" (top 25) f_joined (PySem.W.fnOf "_law_joined_right" "_law_joined_right" (C8.fnArgs (top 25)) (C8.fnBody (top 25)) (C8.fnScope (top 25)) .none kV_joined dc_joined pm_joined an_joined cd_joined ct_joined) := ⟨⟨_, _, _, _, _, _, _, _, _, _, rfl, y145, y146⟩⟩
  have b_joined : Binds K (PySem.W.fnOf "_law_joined_right" "_law_joined_right" (C8.fnArgs (top 25)) (C8.fnBody (top 25)) (C8.fnScope (top 25)) .none kV_joined dc_joined pm_joined an_joined cd_joined ct_joined) ["_law_pen_here", "_law_one_so", "_law_other_so"] [] := Binds.all fun us hl => match us, hl with | [_, _, _], _ => rfl
  have F_tstr : Ev.Fn K "__str__" "Test.__str__" (inClass (top 16) 12) f_tstr (PySem.W.fnOf "__str__" "Test.__str__" (C8.fnArgs (inClass (top 16) 12)) (C8.fnBody (inClass (top 16) 12)) (C8.fnScope (inClass (top 16) 12)) .none kV_tstr dc_tstr pm_tstr an_tstr cd_tstr ct_tstr) := ⟨⟨_, _, _, _, _, _, _, _, _, _, rfl, y149, y150⟩⟩
  have b_tstr : Binds K (PySem.W.fnOf "__str__" "Test.__str__" (C8.fnArgs (inClass (top 16) 12)) (C8.fnBody (inClass (top 16) 12)) (C8.fnScope (inClass (top 16) 12)) .none kV_tstr dc_tstr pm_tstr an_tstr cd_tstr ct_tstr) ["self"] [] := Binds.all fun us hl => match us, hl with | [_], _ => rfl
  have F_drawn : Ev.Fn K "_law_drawn" "_law_drawn" (top 27) f_drawn (PySem.W.fnOf "_law_drawn" "_law_drawn" (C8.fnArgs (top 27)) (C8.fnBody (top 27)) (C8.fnScope (top 27)) .none kV_drawn dc_drawn pm_drawn an_drawn cd_drawn ct_drawn) := ⟨⟨_, _, _, _, _, _, _, _, _, _, rfl, y154, y155⟩⟩
  have b_drawn : Binds K (PySem.W.fnOf "_law_drawn" "_law_drawn" (C8.fnArgs (top 27)) (C8.fnBody (top 27)) (C8.fnScope (top 27)) .none kV_drawn dc_drawn pm_drawn an_drawn cd_drawn ct_drawn) ["_law_pen_here", "_law_many"] [] := Binds.all fun us hl => match us, hl with | [_, _], _ => rfl
  have F_sides : Ev.Fn K "_law_sides_right" "_law_sides_right" (top 26) f_sides (PySem.W.fnOf "_law_sides_right" "_law_sides_right" (C8.fnArgs (top 26)) (C8.fnBody (top 26)) (C8.fnScope (top 26)) .none kV_sides dc_sides pm_sides an_sides cd_sides ct_sides) := ⟨⟨_, _, _, _, _, _, _, _, _, _, rfl, y158, y159⟩⟩
  have b_sides : Binds K (PySem.W.fnOf "_law_sides_right" "_law_sides_right" (C8.fnArgs (top 26)) (C8.fnBody (top 26)) (C8.fnScope (top 26)) .none kV_sides dc_sides pm_sides an_sides cd_sides ct_sides) ["_law_pen_here", "_law_some"] [] := Binds.all fun us hl => match us, hl with | [_, _], _ => rfl
  have F_law : Ev.Fn K "law" "law" (top 28) f_law (PySem.W.fnOf "law" "law" (C8.fnArgs (top 28)) (C8.fnBody (top 28)) (C8.fnScope (top 28)) .none kV_law dc_law pm_law an_law cd_law ct_law) := ⟨⟨_, _, _, _, _, _, _, _, _, _, rfl, y162, y163⟩⟩
  have b_law : Binds K (PySem.W.fnOf "law" "law" (C8.fnArgs (top 28)) (C8.fnBody (top 28)) (C8.fnScope (top 28)) .none kV_law dc_law pm_law an_law cd_law ct_law) ["_law_script"] [] := Binds.all fun us hl => match us, hl with | [_], _ => rfl
  refine ⟨(PySem.W.fnOf "law" "law" (C8.fnArgs (top 28)) (C8.fnBody (top 28)) (C8.fnScope (top 28)) .none kV_law dc_law pm_law an_law cd_law ct_law), fun s v => .of_eq rfl, fun base _ _ => ?_⟩
  have g_draw := ok_draw (P := l.prog) (w := w) (base := base) F_draw T
  have c_draw : Ev.GC l.prog w K mg base 1 "_law_draw" spDraw [] := ⟨⟨_, _, _, _, g_draw, PySem.W.mg_of X G y45, y48, b_draw, .nil⟩⟩
  have g_pen := ok_pen (P := l.prog) (w := w) (base := base) F_pen T
  have c_pen : Ev.GC l.prog w K mg base 1 "_law_pen" (spPen K) [] := ⟨⟨_, _, _, _, g_pen, PySem.W.mg_of X G y49, y52, b_pen, .nil⟩⟩
  have g_pick := ok_pick (P := l.prog) (w := w) (base := base) F_pick T c_draw
  have c_pick : Ev.GC l.prog w K mg base 2 "_law_pick" spPick [] := ⟨⟨_, _, _, _, g_pick, PySem.W.mg_of X G y53, y56, b_pick, .nil⟩⟩
  have g_small := ok_small (P := l.prog) (w := w) (base := base) F_small T c_draw
  have c_small : Ev.GC l.prog w K mg base 2 "_law_small" spSmall [] := ⟨⟨_, _, _, _, g_small, PySem.W.mg_of X G y57, y60, b_small, .nil⟩⟩
  have g_number := ok_number (P := l.prog) (w := w) (base := base) F_number T c_small c_pick
  have c_number : Ev.GC l.prog w K mg base 3 "_law_number" spNumber [] := ⟨⟨_, _, _, _, g_number, PySem.W.mg_of X G y61, y64, b_number, .nil⟩⟩
  have g_common := ok_common (P := l.prog) (w := w) (base := base) F_common T
  have c_common : Ev.GC l.prog w K mg base 1 "common" spCommon [] := ⟨⟨_, _, _, _, g_common, PySem.W.mg_of X G y65, y68, b_common, .nil⟩⟩
  have g_lcommon := ok_lcommon (P := l.prog) (w := w) (base := base) F_lcommon T
  have c_lcommon : Ev.GC l.prog w K mg base 1 "_law_common" spLcommon [] := ⟨⟨_, _, _, _, g_lcommon, PySem.W.mg_of X G y69, y72, b_lcommon, .nil⟩⟩
  have g_isint := ok_isint (P := l.prog) (w := w) (base := base) F_isint T
  have c_isint : Ev.GC l.prog w K mg base 1 "is_integer" spIsInt [] := ⟨⟨_, _, _, _, g_isint, PySem.W.mg_of X G y73, y76, b_isint, .nil⟩⟩
  have g_init := ok_init (P := l.prog) (w := w) (base := base) F_init T c_isint
  have c_make : Ev.GN l.prog w K mg base 2 "Test" C (spInit K C) 2 [] (fun vs _ => vs) := ⟨⟨_, _, _, _, ⟨y165, y77, y81, y166⟩, g_init, PySem.W.mg_of X G y15, Ev.kbn_pos b_init⟩⟩
  have c_makek : Ev.GN l.prog w K mg base 2 "Test" C (spInit K C) 0 ["bound", "parts"] (fun vs zs => vs ++ Ev.sel [1, 0] zs) := ⟨⟨_, _, _, _, ⟨y165, y77, y81, y166⟩, g_init, PySem.W.mg_of X G y15, Ev.kbn_kw [1, 0] fun us ws l1 l2 => match us, ws, l1, l2 with | [_], [_, _], _, _ => rfl⟩⟩
  have g_amount := ok_amount (P := l.prog) (w := w) (base := base) F_amount T c_isint
  have c_amount : Ev.GM l.prog w K mg base 2 C "amount" (spAmount K C) [] := ⟨⟨_, _, _, _, T.ci_Test.cl, ⟨y82, y86, y85⟩, g_amount, b_amount, .nil⟩⟩
  have c_amountk : Ev.GMK l.prog w K mg base 2 C "amount" (spAmount K C) 0 ["numbers"] (fun vs zs => vs ++ Ev.sel [0] zs) := ⟨⟨_, _, _, _, T.ci_Test.cl, ⟨y82, y86, y85⟩, g_amount, Ev.kbn_kw [0] fun us ws l1 l2 => match us, ws, l1, l2 with | [_], [_], _, _ => rfl⟩⟩
  have g_tcall := ok_tcall (P := l.prog) (w := w) (base := base) F_tcall T c_amount
  have c_tcall : Ev.GM l.prog w K mg base 3 C "__call__" (spTcall K C) [] := ⟨⟨_, _, _, _, T.ci_Test.cl, ⟨y87, y91, y90⟩, g_tcall, b_tcall, .nil⟩⟩
  have c_inst : Ev.GO l.prog w K mg base 3 C (spTcall K C) 1 [] (fun vs _ => vs) := ⟨⟨_, _, _, _, ⟨y87, y91, y90⟩, y167, g_tcall, Ev.kbn_pos b_tcall⟩⟩
  have c_instk : Ev.GO l.prog w K mg base 3 C (spTcall K C) 0 ["numbers"] (fun vs zs => vs ++ Ev.sel [0] zs) := ⟨⟨_, _, _, _, ⟨y87, y91, y90⟩, y167, g_tcall, Ev.kbn_kw [0] fun us ws l1 l2 => match us, ws, l1, l2 with | [_], [_], _, _ => rfl⟩⟩
  have g_tlen := ok_tlen (P := l.prog) (w := w) (base := base) F_tlen T
  have c_tlen : Ev.GM l.prog w K mg base 1 C "__len__" (spTlen K C) [] := ⟨⟨_, _, _, _, T.ci_Test.cl, ⟨y92, y96, y95⟩, g_tlen, b_tlen, .nil⟩⟩
  have g_teq := ok_teq (P := l.prog) (w := w) (base := base) F_teq T
  have c_teq : Ev.GM l.prog w K mg base 1 C "__eq__" (spTeq K C) [] := ⟨⟨_, _, _, _, T.ci_Test.cl, ⟨y97, y101, y100⟩, g_teq, b_teq, .nil⟩⟩
  have g_needt := ok_needt (P := l.prog) (w := w) (base := base) F_needt T c_isint
  have c_needt : Ev.GC l.prog w K mg base 2 "need_times" spNeedt [] := ⟨⟨_, _, _, _, g_needt, PySem.W.mg_of X G y102, y105, b_needt, .nil⟩⟩
  have g_commons := ok_commons (P := l.prog) (w := w) (base := base) F_commons T c_common
  have c_commons : Ev.GC l.prog w K mg base 2 "common_of" (spCommons K) [] := ⟨⟨_, _, _, _, g_commons, PySem.W.mg_of X G y106, y109, b_commons, .nil⟩⟩
  have g_tight := ok_tight (P := l.prog) (w := w) (base := base) F_tight T c_commons c_make
  have c_tight : Ev.GM l.prog w K mg base 4 C "tight" (spTight K C) [] := ⟨⟨_, _, _, _, T.ci_Test.cl, ⟨y110, y114, y113⟩, g_tight, b_tight, .nil⟩⟩
  have g_tadd := ok_tadd (P := l.prog) (w := w) (base := base) F_tadd T c_make
  have c_tadd : Ev.GM l.prog w K mg base 4 C "__add__" (spTadd K C) [] := ⟨⟨_, _, _, _, T.ci_Test.cl, ⟨y115, y119, y118⟩, g_tadd, b_tadd, .nil⟩⟩
  have g_tmul := ok_tmul (P := l.prog) (w := w) (base := base) F_tmul T c_needt c_make
  have c_tmul : Ev.GM l.prog w K mg base 4 C "__mul__" (spTmul K C) [] := ⟨⟨_, _, _, _, T.ci_Test.cl, ⟨y120, y124, y123⟩, g_tmul, b_tmul, .nil⟩⟩
  have g_trmul := ok_trmul (P := l.prog) (w := w) (base := base) F_trmul T c_needt c_make
  have c_trmul : Ev.GM l.prog w K mg base 4 C "__rmul__" (spTrmul K C) [] := ⟨⟨_, _, _, _, T.ci_Test.cl, ⟨y125, y129, y128⟩, g_trmul, b_trmul, .nil⟩⟩
  have g_tneg := ok_tneg (P := l.prog) (w := w) (base := base) F_tneg T c_make
  have c_tneg : Ev.GM l.prog w K mg base 4 C "__neg__" (spTneg K C) [] := ⟨⟨_, _, _, _, T.ci_Test.cl, ⟨y130, y134, y133⟩, g_tneg, b_tneg, .nil⟩⟩
  have g_tinv := ok_tinv (P := l.prog) (w := w) (base := base) F_tinv T c_make
  have c_tinv : Ev.GM l.prog w K mg base 4 C "__invert__" (spTinv K C) [] := ⟨⟨_, _, _, _, T.ci_Test.cl, ⟨y135, y139, y138⟩, g_tinv, b_tinv, .nil⟩⟩
  have g_made := ok_made (P := l.prog) (w := w) (base := base) F_made T c_make
  have c_made : Ev.GC l.prog w K mg base 4 "_law_made" (spMade K C) [] := ⟨⟨_, _, _, _, g_made, PySem.W.mg_of X G y140, y143, b_made, .nil⟩⟩
  have g_joined := ok_joined (P := l.prog) (w := w) (base := base) F_joined T c_made c_draw c_pick c_teq c_tadd c_tmul c_trmul c_tneg c_tinv
  have c_joined : Ev.GC l.prog w K mg base 5 "_law_joined_right" (spJoined K) [] := ⟨⟨_, _, _, _, g_joined, PySem.W.mg_of X G y144, y147, b_joined, .nil⟩⟩
  have g_tstr := ok_tstr (P := l.prog) (w := w) (base := base) F_tstr T
  have c_tstr : Ev.GM l.prog w K mg base 1 C "__str__" (spTstr K C) [] := ⟨⟨_, _, _, _, T.ci_Test.cl, ⟨y148, y152, y151⟩, g_tstr, b_tstr, .nil⟩⟩
  have g_drawn := ok_drawn (P := l.prog) (w := w) (base := base) F_drawn T c_small c_number c_pick
  have c_drawn : Ev.GC l.prog w K mg base 4 "_law_drawn" spDrawn [] := ⟨⟨_, _, _, _, g_drawn, PySem.W.mg_of X G y153, y156, b_drawn, .nil⟩⟩
  have g_sides := ok_sides (P := l.prog) (w := w) (base := base) F_sides T c_small c_lcommon c_made c_teq c_tight c_amount c_tinv c_tneg c_make c_inst
  have c_sides : Ev.GC l.prog w K mg base 5 "_law_sides_right" (spSides K) [] := ⟨⟨_, _, _, _, g_sides, PySem.W.mg_of X G y157, y160, b_sides, .nil⟩⟩
  exact ok_law (P := l.prog) (w := w) (base := base) F_law T c_pen c_draw c_drawn c_joined c_sides c_teq c_tight c_tstr c_tmul c_make
end K04

open PySem PySem.W PyProof.Rows
set_option maxRecDepth 100000 in
set_option maxHeartbeats 0 in
theorem PySem.Challenge.cw_evenrules_k04_tests_added_and_turned_holds : PySem.Challenge.rw_evenrules_k04_tests_added_and_turned.Holds := by
  w_on; o_law; k_head; (case hw => w_witness2)
  k_fill
  refine Ev.walk_g (l := PySem.Challenge.rw_evenrules_k04_tests_added_and_turned) (n := 63) (k := 6) (x := "_law_script") (sp := K04.spLaw) rfl (by decide) rfl ⟨rfl, by decide, by decide⟩ (fun w h Y => PySem.W.kIn_of Y) ?F (fun _ _ a ns hl _ _ hS => ⟨a, ns, rfl, hS, hl, fun _ => rfl⟩)
  case F =>
    intro w mg fa h KX G hmg
    refine' K04.all_mk KX G hmg ?y1 ?y2 ?y3 ?y4 ?y5 ?y6 ?y7 ?y8 ?y9 ?y10 ?y11 ?y12 ?y13 ?y14 ?y15 ?y16 ?y17 ?y18 ?y19 ?y20 ?y21 ?y22 ?y23 ?y24 ?y25 ?y26 ?y27 ?y28 ?y29 ?y30 ?y31 ?y32 ?y33 ?y34 ?y35 ?y36 ?y37 ?y38 ?y39 ?y40 ?y41 ?y42 ?y43 ?y44 ?y45 ?y46 ?y47 ?y48 ?y49 ?y50 ?y51 ?y52 ?y53 ?y54 ?y55 ?y56 ?y57 ?y58 ?y59 ?y60 ?y61 ?y62 ?y63 ?y64 ?y65 ?y66 ?y67 ?y68 ?y69 ?y70 ?y71 ?y72 ?y73 ?y74 ?y75 ?y76 ?y77 ?y78 ?y79 ?y80 ?y81 ?y82 ?y83 ?y84 ?y85 ?y86 ?y87 ?y88 ?y89 ?y90 ?y91 ?y92 ?y93 ?y94 ?y95 ?y96 ?y97 ?y98 ?y99 ?y100 ?y101 ?y102 ?y103 ?y104 ?y105 ?y106 ?y107 ?y108 ?y109 ?y110 ?y111 ?y112 ?y113 ?y114 ?y115 ?y116 ?y117 ?y118 ?y119 ?y120 ?y121 ?y122 ?y123 ?y124 ?y125 ?y126 ?y127 ?y128 ?y129 ?y130 ?y131 ?y132 ?y133 ?y134 ?y135 ?y136 ?y137 ?y138 ?y139 ?y140 ?y141 ?y142 ?y143 ?y144 ?y145 ?y146 ?y147 ?y148 ?y149 ?y150 ?y151 ?y152 ?y153 ?y154 ?y155 ?y156 ?y157 ?y158 ?y159 ?y160 ?y161 ?y162 ?y163 ?y164 ?y165 ?y166 ?y167
    (case y1 => k_is)
    (case y2 => k_is)
    (case y3 => k_is)
    (case y4 => k_is)
    (case y5 => k_is)
    (case y6 => k_is)
    (case y7 => k_is)
    (case y8 => k_is)
    (case y9 => k_is)
    (case y10 => k_is)
    (case y11 => k_is)
    (case y12 => k_is)
    (case y13 => k_is)
    (case y14 => k_is)
    (case y15 => k_is)
    (case y16 => k_is)
    (case y17 => k_is)
    (case y18 => k_is)
    (case y19 => k_is)
    (case y20 => k_is)
    (case y21 => k_is)
    (case y22 => k_is)
    (case y23 => k_is)
    (case y24 => k_is)
    (case y25 => k_is)
    (case y26 => k_is)
    (case y27 => k_is)
    (case y28 => k_is)
    (case y29 => k_is)
    (case y30 => k_is)
    (case y31 => k_is)
    (case y32 => k_is)
    (case y33 => rfl)
    (case y34 => k_is)
    (case y35 => k_is)
    (case y36 => k_is)
    (case y37 => rfl)
    (case y38 => k_is)
    (case y39 => k_is)
    (case y40 => k_is)
    (case y41 => k_is)
    (case y42 => k_is)
    (case y43 => k_is)
    (case y44 => k_is)
    (case y45 => k_is)
    (case y46 => k_is)
    (case y47 => k_is)
    (case y48 => k_is)
    (case y49 => k_is)
    (case y50 => k_is)
    (case y51 => k_is)
    (case y52 => k_is)
    (case y53 => k_is)
    (case y54 => k_is)
    (case y55 => k_is)
    (case y56 => k_is)
    (case y57 => k_is)
    (case y58 => k_is)
    (case y59 => k_is)
    (case y60 => k_is)
    (case y61 => k_is)
    (case y62 => k_is)
    (case y63 => k_is)
    (case y64 => k_is)
    (case y65 => k_is)
    (case y66 => k_is)
    (case y67 => k_is)
    (case y68 => k_is)
    (case y69 => k_is)
    (case y70 => k_is)
    (case y71 => k_is)
    (case y72 => k_is)
    (case y73 => k_is)
    (case y74 => k_is)
    (case y75 => k_is)
    (case y76 => k_is)
    (case y77 => k_is)
    (case y78 => k_is)
    (case y79 => k_is)
    (case y80 => k_is)
    (case y81 => k_is)
    (case y82 => k_is)
    (case y83 => k_is)
    (case y84 => k_is)
    (case y85 => k_is)
    (case y86 => k_is)
    (case y87 => k_is)
    (case y88 => k_is)
    (case y89 => k_is)
    (case y90 => k_is)
    (case y91 => k_is)
    (case y92 => k_is)
    (case y93 => k_is)
    (case y94 => k_is)
    (case y95 => k_is)
    (case y96 => k_is)
    (case y97 => k_is)
    (case y98 => k_is)
    (case y99 => k_is)
    (case y100 => k_is)
    (case y101 => k_is)
    (case y102 => k_is)
    (case y103 => k_is)
    (case y104 => k_is)
    (case y105 => k_is)
    (case y106 => k_is)
    (case y107 => k_is)
    (case y108 => k_is)
    (case y109 => k_is)
    (case y110 => k_is)
    (case y111 => k_is)
    (case y112 => k_is)
    (case y113 => k_is)
    (case y114 => k_is)
    (case y115 => k_is)
    (case y116 => k_is)
    (case y117 => k_is)
    (case y118 => k_is)
    (case y119 => k_is)
    (case y120 => k_is)
    (case y121 => k_is)
    (case y122 => k_is)
    (case y123 => k_is)
    (case y124 => k_is)
    (case y125 => k_is)
    (case y126 => k_is)
    (case y127 => k_is)
    (case y128 => k_is)
    (case y129 => k_is)
    (case y130 => k_is)
    (case y131 => k_is)
    (case y132 => k_is)
    (case y133 => k_is)
    (case y134 => k_is)
    (case y135 => k_is)
    (case y136 => k_is)
    (case y137 => k_is)
    (case y138 => k_is)
    (case y139 => k_is)
    (case y140 => k_is)
    (case y141 => k_is)
    (case y142 => k_is)
    (case y143 => k_is)
    (case y144 => k_is)
    (case y145 => k_is)
    (case y146 => k_is)
    (case y147 => k_is)
    (case y148 => k_is)
    (case y149 => k_is)
    (case y150 => k_is)
    (case y151 => k_is)
    (case y152 => k_is)
    (case y153 => k_is)
    (case y154 => k_is)
    (case y155 => k_is)
    (case y156 => k_is)
    (case y157 => k_is)
    (case y158 => k_is)
    (case y159 => k_is)
    (case y160 => k_is)
    (case y161 => k_is)
    (case y162 => k_is)
    (case y163 => k_is)
    (case y164 => k_is)
    (case y165 => k_is)
    (case y166 => k_is)
    (case y167 => k_is)
#print axioms PySem.Challenge.cw_evenrules_k04_tests_added_and_turned_holds
