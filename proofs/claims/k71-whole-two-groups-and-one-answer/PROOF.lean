import PyProof.Rows.All
import Wide.All
import OpenK.AllK
import Wide.FinOn
import HandS.ForMost
import HandS.ForExc
import HandS.Wide
import HandS.Codes
import HandS.EndBits
import HandS.MakeKwOnly
import HandS.IsInst
import HandS.FStrTup
import HandS.TupAny
import HandS.Style
import PySem.Challenge.RW_evenrules_k71_whole_two_groups_and_one_a
set_option Elab.async false
set_option linter.all false
set_option maxRecDepth 100000
set_option pp.maxSteps 1500
set_option pp.deepTerms false
set_option maxHeartbeats 4000000
/-! ### my own words over the hand layer: heaps, data -/
namespace Ev
open PySem L2
theorem get_new {H : Hp} {p q : Addr} {o u : HO} (h : H q = some o) (hp : H p = none) : upd H p u q = some o := (upd_ne (ne_of_none h hp)).trans h
theorem get_ne {H : Hp} {p q : Addr} {o u : HO} (hn : q ≠ p) (h : H q = some o) : upd H p u q = some o := (upd_ne hn).trans h
/-- all but p is as it was -/
def But (p : Addr) (H H' : Hp) : Prop := ∀ b o, H b = some o → b ≠ p → H' b = some o
theorem But.refl (p : Addr) (H : Hp) : But p H H := fun _ _ h _ => h
theorem But.trans {p : Addr} {H H1 H2 : Hp} (a : But p H H1) (b : But p H1 H2) : But p H H2 := fun c o h n => b c o (a c o h n) n
theorem But.new {p q : Addr} {H H1 : Hp} {o : HO} (a : But p H H1) (h : H1 q = none) : But p H (upd H1 q o) := fun c u e n => get_new (a c u e n) h
theorem But.set {p : Addr} {H H1 : Hp} {o : HO} (a : But p H H1) : But p H (upd H1 p o) := fun c u e n => get_ne n (a c u e n)
/-- data: lists and tuples of ints -/
theorem dpa_ints (K : PySem.W.Frag) (H : Hp) : ∀ ns : List Int, DpAll K H (ns.map V.int) (ns.map PyData.int)
  | [] => .nil
  | n :: r => .cons (.int n) (dpa_ints K H r)
theorem dp_ints {K : PySem.W.Frag} {H : Hp} {a : Addr} {ns : List Int} (h : SqL K H a (ns.map V.int)) : Dp K H (.ref a) (.list (ns.map PyData.int)) := .lst h (dpa_ints K H ns)
theorem can_ints : ∀ ns : List Int, PyData.canLayAll0 (ns.map PyData.int) = true
  | [] => rfl
  | n :: r => by
    show (PyData.canLay0 (PyData.int n) && PyData.canLayAll0 (r.map PyData.int)) = true
    rw [can_ints r]
    rfl
theorem dep_ints : ∀ ns : List Int, PyData.depthAll (ns.map PyData.int) ≤ 1
  | [] => Nat.zero_le _
  | n :: r => by
    have ih := dep_ints r
    have e : PyData.depthAll ((n :: r).map PyData.int) = max (PyData.depth (PyData.int n)) (PyData.depthAll (r.map PyData.int)) := rfl
    have z : PyData.depth (PyData.int n) ≤ 1 := by
      first
        | exact Nat.zero_le _
        | exact Nat.le_refl _
        | decide
    rw [e]
    omega
theorem sh_ints (ns : List Int) : SeqAt.shaped (.list (ns.map PyData.int)) = true := by
  have h1 := can_ints ns
  have h2 := dep_ints ns
  have e : PyData.depth (.list (ns.map PyData.int)) ≤ 64 := by
    have q : PyData.depth (.list (ns.map PyData.int)) ≤ PyData.depthAll (ns.map PyData.int) + 1 := by
      first
        | exact Nat.le_refl _
        | (simp only [PyData.depth]; omega)
    omega
  show (PyData.canLay0 (.list (ns.map PyData.int)) && decide (PyData.depth (.list (ns.map PyData.int)) ≤ 64)) = true
  rw [decide_eq_true e, Bool.and_true]
  exact h1
theorem eqv_ints : ∀ ns ms : List Int, PyData.eqvAll (ns.map PyData.int) (ms.map PyData.int) = decide (ns = ms)
  | [], [] => rfl
  | [], _ :: _ => by simp [PyData.eqvAll]
  | _ :: _, [] => by simp [PyData.eqvAll]
  | n :: r, m :: t => by
    show (PyData.eqv (PyData.int n) (PyData.int m) && PyData.eqvAll (r.map PyData.int) (t.map PyData.int)) = _
    rw [eqv_ints r t]
    have e : PyData.eqv (PyData.int n) (PyData.int m) = (n == m) := rfl
    rw [e]
    by_cases h : n = m
    · subst h
      by_cases h2 : r = t
      · subst h2
        simp
      · simp [h2]
    · simp [h]
theorem ne_ints {K : PySem.W.Frag} {H : Hp} {a b : Addr} {ns ms : List Int} {Q : VK} (ha : SqL K H a (ns.map V.int)) (hb : SqL K H b (ms.map V.int)) (q : Q (.bl (!decide (ns = ms))) H) : rNeD K (.ref a) (.ref b) H Q := by
  refine ⟨_, _, dp_ints ha, dp_ints hb, sh_ints ns, sh_ints ms, ?_⟩
  have e : PyData.eqv (.list (ns.map PyData.int)) (.list (ms.map PyData.int)) = decide (ns = ms) := eqv_ints ns ms
  rw [e]
  exact q
theorem eq_ints {K : PySem.W.Frag} {H : Hp} {a b : Addr} {ns ms : List Int} {Q : VK} (ha : SqL K H a (ns.map V.int)) (hb : SqL K H b (ms.map V.int)) (q : Q (.bl (decide (ns = ms))) H) : rEqD K (.ref a) (.ref b) H Q := by
  refine ⟨_, _, dp_ints ha, dp_ints hb, sh_ints ns, sh_ints ms, ?_⟩
  have e : PyData.eqv (.list (ns.map PyData.int)) (.list (ms.map PyData.int)) = decide (ns = ms) := eqv_ints ns ms
  rw [e]
  exact q
/-- an int of a list of ints at a place within -/
theorem at_int {ns : List Int} {i : Int} (h0 : 0 ≤ i) (h1 : i < ns.length) : ∃ z ∈ ns, atI (ns.map V.int) i = some (.int z) := by
  have hj : i.toNat < ns.length := by omega
  refine ⟨ns[i.toNat], List.getElem_mem hj, ?_⟩
  refine at_of (j := i.toNat) (by omega) ?_
  rw [List.getElem?_map, List.getElem?_eq_getElem hj]
  rfl
theorem cut_ints (ns : List Int) (lo hi : Option Int) : ∃ ms : List Int, cutV (ns.map V.int) lo hi = ms.map V.int ∧ ms.length ≤ ns.length ∧ ∀ z ∈ ms, z ∈ ns := by
  refine ⟨(ns.drop (HT.sIx (ns.map V.int).length 0 lo)).take (HT.sIx (ns.map V.int).length (ns.map V.int).length hi - HT.sIx (ns.map V.int).length 0 lo), ?_, ?_, fun z hz => List.mem_of_mem_drop (List.mem_of_mem_take hz)⟩
  · unfold cutV
    rw [List.map_take, List.map_drop]
  · rw [List.length_take, List.length_drop]
    omega
/-- the law's pen at p: its cells, at most n draws so far -/
def Pen (H : Hp) (p : Addr) (n : Int) : Prop := ∃ (c : Addr) (t g : Int) (ns : List Int), H p = some (.lst [.ref c, .int t, .int g]) ∧ H c = some (.lst (ns.map V.int)) ∧ 0 ≤ t ∧ t ≤ n ∧ 0 ≤ g ∧ c ≠ p ∧ ns.length ≤ 63
theorem Pen.ne {H : Hp} {p t : Addr} {n : Int} (h : Pen H p n) (ht : H t = none) : t ≠ p := by
  obtain ⟨c, a, b, ns, e, _⟩ := h
  exact (ne_of_none e ht).symm
theorem Pen.mono {H : Hp} {p : Addr} {n m : Int} (h : Pen H p n) (l : n ≤ m) : Pen H p m := by
  obtain ⟨c, a, b, ns, e1, e2, e3, e4, e5⟩ := h
  exact ⟨c, a, b, ns, e1, e2, e3, by omega, e5⟩
theorem Pen.same {H H1 : Hp} {p : Addr} {n : Int} (h : Pen H p n) (s : Same H H1) : Pen H1 p n := by
  obtain ⟨c, a, b, ns, e1, e2, r⟩ := h
  exact ⟨c, a, b, ns, s _ _ e1, s _ _ e2, r⟩
theorem Pen.new {H : Hp} {p t : Addr} {n : Int} {o : HO} (h : Pen H p n) (ht : H t = none) : Pen (upd H t o) p n := h.same fun _ _ e => get_new e ht
theorem But.free {p t : Addr} {H H1 : Hp} (b : But p H H1) (h : H1 t = none) (n : t ≠ p) : H t = none := by
  cases z : H t with
  | none => rfl
  | some o =>
    rw [b t o z n] at h
    cases h
theorem get_but {p q : Addr} {H H1 : Hp} {o : HO} (b : But p H H1) (hn : q ≠ p) (h : H q = some o) : H1 q = some o := b q o h hn
theorem get_same {q : Addr} {H H1 : Hp} {o : HO} (b : Same H H1) (h : H q = some o) : H1 q = some o := b q o h
theorem len_putF {f : Str} {y : V} {fs : List (Str × V)} {n : Nat} (h : fs.length ≤ n) : (putF f y fs).length ≤ n + 1 := Nat.le_trans (length_putF f y fs) (Nat.succ_le_succ h)
theorem free_back {H H1 : Hp} {p : Addr} (a : Same H H1) (h : H1 p = none) : H p = none := a.free h
theorem ne_new {H : Hp} {p q : Addr} {o : HO} (h : upd H p o q = none) : q ≠ p := fun z => by
  subst z
  rw [upd_same] at h
  cases h
theorem free_upd {H : Hp} {p q : Addr} {o : HO} (h : upd H p o q = none) : H q = none := by
  have := upd_ne (H := H) (o := o) (ne_new h)
  rw [this] at h
  exact h
theorem rel_int {i : Int} {t : Tok} : RelV (.int i) (.int i t) := ⟨t, rfl⟩
theorem rel_str {x : Str} {t : Tok} : RelV (.str x) (.str x t) := ⟨t, rfl⟩
theorem mul_lt {a b m n : Int} (a0 : 0 ≤ a) (b0 : 0 ≤ b) (h1 : a < m) (h2 : b < n) : 0 ≤ a * b ∧ a * b < m * n := by
  refine ⟨Int.mul_nonneg a0 b0, ?_⟩
  exact Int.lt_of_le_of_lt (Int.mul_le_mul_of_nonneg_left (Int.le_of_lt h2) a0) (Int.mul_lt_mul_of_pos_right h1 (by omega))
theorem pow3 {y t c e k : Int} (y0 : 0 ≤ y) (y1 : y < 2147483648) (t0 : 0 ≤ t) (t1 : t ≤ 100000) (c0 : 0 ≤ c) (c1 : c ≤ 1000000) (k0 : 0 ≤ k) (k1 : k ≤ 1000000) (e0 : 0 ≤ e) (e1 : e ≤ 1000000) : CPow (y * (2 * t + c) + k * t * t + e) 3 := by
  have a := mul_lt y0 (show 0 ≤ 2 * t + c by omega) y1 (show 2 * t + c < 2097152 by omega)
  have b := mul_lt k0 t0 (show k < 1048576 by omega) (show t < 131072 by omega)
  have d := mul_lt b.1 t0 b.2 (show t < 131072 by omega)
  refine ⟨by decide, by decide, ?_⟩
  omega
theorem great_nn {a B : Int} {b : Bool} (h : B ≤ a) : 0 ≤ 2 * (a - B) + (if b = true then 1 else 0) := by
  split <;> omega
end Ev

/-! ### defs where no repr runs around: the context's guards are told -/
namespace Ev
open PySem PySem.Spec PyProof.Rows L2
theorem _root_.L2.Room.un0 {k : Nat} {A : Around} (r : Room k A) : A.units + 200 < cLine := by
  have := r.un
  omega
/-- as FnOk, for calls with no guard around -/
structure GOk (P : Program) (w : World) (K : PySem.W.Frag) (mg : Str → Option Value) (base : Heap) (CX : CXT) (k : Nat) (f : Addr) (fd : FuncData) (ps : List Str) (sp : Sp) : Prop where
  len : ∀ vs H Q E, sp vs H Q E → vs.length = ps.length
  run : ∀ (A : Around) (outer : List Env) (s : Shared) (H : Hp) (args : Args) (us : List Value) (vs : List V) (Q : VK) (E : XK),
    A.guards = some [] → Room k A → Env0 P w K mg base A outer s H → BindsTo s fd args (ps.zip us) → Vals vs us → sp vs H Q E →
    codeAny (model P w) A (.call (.ref f) args) (CR CX outer P w H s Q E) s
theorem GOk.of {P : Program} {w : World} {K : PySem.W.Frag} {mg : Str → Option Value} {base : Heap} {CX : CXT} {k : Nat} {f : Addr} {fd : FuncData} {ps : List Str} {sp : Sp}
    (F : FnOk P w K mg base CX k f fd ps sp) : GOk P w K mg base CX k f fd ps sp := ⟨F.len, fun A o s H a us vs Q E _ hr => F.run A o s H a us vs Q E hr⟩
theorem GOk.mono {P : Program} {w : World} {K : PySem.W.Frag} {mg : Str → Option Value} {base : Heap} {CX : CXT} {j k : Nat} {f : Addr} {fd : FuncData} {ps : List Str} {sp : Sp}
    (F : GOk P w K mg base CX j f fd ps sp) (h : j ≤ k) : GOk P w K mg base CX k f fd ps sp := ⟨F.len, fun A o s H a us vs Q E g hr => F.run A o s H a us vs Q E g (hr.mono h)⟩
theorem GOk.imp {P : Program} {w : World} {K : PySem.W.Frag} {mg : Str → Option Value} {base : Heap} {CX : CXT} {k : Nat} {f : Addr} {fd : FuncData} {ps : List Str} {sp sp' : Sp}
    (F : GOk P w K mg base CX k f fd ps sp) (h : ∀ vs H Q E, sp' vs H Q E → sp vs H Q E) : GOk P w K mg base CX k f fd ps sp' :=
  ⟨fun vs H Q E q => F.len vs H Q E (h _ _ _ _ q), fun A o s H a us vs Q E g hr e0 hb hv q => F.run A o s H a us vs Q E g hr e0 hb hv (h _ _ _ _ q)⟩
/-- a def of the text as it stands behind the top -/
structure Fn (K : PySem.W.Frag) (x qual : Str) (st : Stmt) (f : Addr) (fd : FuncData) : Prop where
  ex : ∃ (oc : Value) (od : Option Addr) (dV kV doc pm : Value) (an : Option Addr) (cdv ct : Value) (osl : Array (Option Value)),
    fd = PySem.W.fnOf x qual (C8.fnArgs st) (C8.fnBody st) (C8.fnScope st) dV kV doc pm an cdv ct ∧ K.lookup f = some ⟨oc, od, .func fd, osl⟩ ∧ PySem.W.codeIn K cdv qual = true
/-- a def that may raise, by its body -/
theorem gfnX {CX : CXT} {P : Program} {w : World} {K : PySem.W.Frag} {mg : Str → Option Value} {base : Heap} {x qual : Str} {st : Stmt} {f : Addr} {fd : FuncData} {N ps : List Str} {k : Nat} {sp : Sp}
    (F : Fn K x qual st f fd) (S : FnScope N ps (C8.fnScope st)) (len : ∀ vs H Q E, sp vs H Q E → vs.length = ps.length)
    (hbody : ∀ (cdv : Value) (A : Around) (outer : List Env) (s : Shared) (H : Hp) (vs : List V) (Q : VK) (E : XK), (A.deeper (envOfC qual (C8.fnScope st) s.heap.objs.size f cdv)).guards = some [] →
      Room k (A.deeper (envOfC qual (C8.fnScope st) s.heap.objs.size f cdv)) → sp vs H Q E →
      ∃ t, PSs (cxOf CX P w K mg base N qual (C8.fnScope st) f cdv A outer s H E) (C8.fnBody st) t ∧ t { nx := fun _ H' => Q .non H', rt := Q } (start N vs) H) :
    GOk P w K mg base CX (k + 1) f fd ps sp := by
  obtain ⟨oc, od, dV, kV, doc, pm, an, cdv, ct, osl, rfl, lk, hcd⟩ := F.ex
  refine ⟨len, fun A outer s H args us vs Q E hgd hr e0 hb r hsp => ?_⟩
  have KX : K.In s.heap := e0.mod.kin.keeps (fun b o z => (e0.bs b o z).1)
  have lim : s.heap.NoLimit := e0.mod.nolimit.keeps (fun b o z => (e0.bs b o z).1)
  have kinds : ∀ y ∈ ps.zip us, (C8.fnScope st).names.lookup y.1 = some .local ∨
      ((C8.fnScope st).names.lookup y.1 = some .cell ∧ ((cellsFrom (s.heap.objs.size + 1) (C8.fnScope st).names []).lookup y.1).isSome = true) := by
    rintro ⟨n, v⟩ hy
    cases S.par n (List.of_mem_zip hy).1 with
    | inl z => exact Or.inl z
    | inr z => exact Or.inr ⟨z, PySem.W.cellsFrom_some _ _ _ (Or.inl z)⟩
  refine codeAny_call_function hr.depth (KX _ _ lk) rfl S.co S.gen rfl (PySem.W.codeRec_of KX hcd) (hb _ _ _ _ ?_)
  refine wpAny_newFunctionEnv_cells S.kind kinds (fun env he s1 x => ?_)
  cases he
  refine ⟨lim.keeps x.toInCall.keep, codeAny_func ?_⟩
  obtain ⟨t, ht, hq⟩ := hbody cdv A outer s H vs Q E hgd (hr.deeper _) hsp
  refine wpAny_mono (ht.run [] s1 (start N vs) H _ (inv_start S hr.hd e0 (len _ _ _ _ hsp) r x) hq) (fun fl s' hs => ?_) (fun e s' z => z)
  cases fl with
  | ret u => exact let ⟨v, _, H', J, rv, q⟩ := hs; ⟨v, H', J.os, J.bare, J.base, J.hok, rv, q⟩
  | next => exact let ⟨_, H', J, q⟩ := hs; ⟨V.non, H', J.os, J.bare, J.base, J.hok, rfl, q⟩
  | brk => exact let ⟨_, _, _, q⟩ := hs; False.elim q
  | cont => exact let ⟨_, _, _, q⟩ := hs; False.elim q
/-- a def that raises nothing -/
theorem gfn0 {CX : CXT} {P : Program} {w : World} {K : PySem.W.Frag} {mg : Str → Option Value} {base : Heap} {x qual : Str} {st : Stmt} {f : Addr} {fd : FuncData} {N ps : List Str} {k : Nat} {sp : Sp}
    (F : Fn K x qual st f fd) (S : FnScope N ps (C8.fnScope st)) (len : ∀ vs H Q E, sp vs H Q E → vs.length = ps.length)
    (hbody : ∀ (cdv : Value) (A : Around) (outer : List Env) (s : Shared) (H : Hp) (vs : List V) (Q : VK) (E : XK), (A.deeper (envOfC qual (C8.fnScope st) s.heap.objs.size f cdv)).guards = some [] →
      Room k (A.deeper (envOfC qual (C8.fnScope st) s.heap.objs.size f cdv)) → sp vs H Q E →
      ∃ t, PSs (cxOf CX P w K mg base N qual (C8.fnScope st) f cdv A outer s H E).nox (C8.fnBody st) t ∧ t { nx := fun _ H' => Q .non H', rt := Q } (start N vs) H) :
    GOk P w K mg base CX (k + 1) f fd ps sp :=
  gfnX F S len fun cdv A outer s H vs Q E hgd hr h => let ⟨t, a, b⟩ := hbody cdv A outer s H vs Q E hgd hr h; ⟨t, a.nox, b⟩
/-! ### calls of such a def -/
section
variable {X : Cx} {CX : CXT} {k : Nat} {f C : Addr} {fd : FuncData} {ps ks : List Str} {sp : Sp} {dvs : List V} {ds : List Value} {E : XK} {x m : Str} {p pos apos : Pos} {e o : Expr} {es : List Expr} {ta : TE} {t tk : TA} {kws : List Keyword} {n : Nat}
  {g : List Value → List Value → List Value} {gV : List V → List V → List V}
/-- positional and keyword values, as the def's own bindings put them -/
theorem run_g {pins : List (Addr × Obj)} {σ : L2.St} {H : Hp} {s : Shared} {Q : VK} {us ws bs : List Value} {zs : List V} (F : GOk X.prog X.w X.K X.mg X.base CX k f fd ps sp) (hgd : X.A.guards = some []) (hr : Room k X.A) (hx : Passes CX X E)
    (I : Inv X pins σ H s) (hb : BindsTo s fd ⟨us, ks.zip ws⟩ (ps.zip bs)) (r : Vals zs bs) (h : sp zs H Q E) : wpAny (model X.prog X.w) X.A (call (.ref f) us (ks.zip ws)) (EP X pins σ Q) X.xe s := by
  refine wpAny_call (codeAny_mono (F.run X.A X.stack s H ⟨us, ks.zip ws⟩ bs zs Q E hgd hr I.env0 hb r h) fun res s' hq => ?_)
  match res, hq with
  | .error e, hq => exact hx pins σ H s e s' I hq
  | .ok (.ret u), hq => exact I.after hq
  | .ok .next, hq => exact hq.elim
  | .ok .brk, hq => exact hq.elim
  | .ok .cont, hq => exact hq.elim
theorem run_gp {pins : List (Addr × Obj)} {σ : L2.St} {H : Hp} {s : Shared} {Q : VK} {us : List Value} {vs : List V} (F : GOk X.prog X.w X.K X.mg X.base CX k f fd ps sp) (hgd : X.A.guards = some []) (hr : Room k X.A) (hb : Binds X.K fd ps ds) (hd : Vals dvs ds) (hx : Passes CX X E)
    (I : Inv X pins σ H s) (r : Vals vs us) (h : sp (vs ++ dvs) H Q E) : wpAny (model X.prog X.w) X.A (call (.ref f) us) (EP X pins σ Q) X.xe s := by
  have r2 : Vals (vs ++ dvs) (us ++ ds) := r.append hd
  have hl : (us ++ ds).length = ps.length := r2.length.symm.trans (F.len _ _ _ _ h)
  exact run_g (ks := []) (ws := []) F hgd hr hx I (hb s us I.kIn hl) r2 h
/-- how a call with n positional values and the keywords ks binds -/
theorem run_gk {pins : List (Addr × Obj)} {σ : L2.St} {H : Hp} {s : Shared} {Q : VK} {us ws : List Value} {vs zs : List V} (F : GOk X.prog X.w X.K X.mg X.base CX k f fd ps sp) (hgd : X.A.guards = some []) (hr : Room k X.A) (hb : KBn X.K fd ps n ks g gV) (hx : Passes CX X E)
    (I : Inv X pins σ H s) (r : Vals vs us) (rz : Vals zs ws) (l1 : vs.length = n) (l2 : zs.length = ks.length) (h : sp (gV vs zs) H Q E) : wpAny (model X.prog X.w) X.A (call (.ref f) us (ks.zip ws)) (EP X pins σ Q) X.xe s :=
  run_g F hgd hr hx I (hb.to s us ws I.kIn (r.length.symm.trans l1) (rz.length.symm.trans l2)) (hb.rel r rz) h
/-- f(e, ..) -/
theorem pe_g (F : GOk X.prog X.w X.K X.mg X.base CX k f fd ps sp) (hgd : X.A.guards = some []) (hr : Room k X.A) (hg : Gl X x) (hm : X.mg x = some (.ref f)) (hk : PySem.W.keepIn X.K (.ref f) = true) (hb : Binds X.K fd ps ds) (hd : Vals dvs ds) (hx : Passes CX X E)
    (ha : PA X (e :: es) t) (hdb : (x == ("__debug__" : Str)) = false := by decide) (he : starEach (e :: es) X.env = (false, eval e X.env) :: starEach es X.env := by rfl) (hpl : (backTo pos (starEach es X.env)).any (·.1) = false := by rfl) :
    PE X (.Call (.Name x p) (e :: es) [] pos) (tCall sp dvs E t) :=
  ⟨fun pins s σ H Q I h => wpAny_Call_Name_kw (ld_glob I hg hm (PySem.W.callWith_K (h₀ := X.base) I.ok.mod.kin hk
    (thn (ha.run pos pins s σ H _ I h) fun us s1 ⟨vs, H1, I1, r, q⟩ => ⟨I1.kIn, run_gp F hgd hr hb hd hx I1 r q⟩) he hpl) hdb)⟩
theorem pe_g0 (F : GOk X.prog X.w X.K X.mg X.base CX k f fd ps sp) (hgd : X.A.guards = some []) (hr : Room k X.A) (hg : Gl X x) (hm : X.mg x = some (.ref f)) (hk : PySem.W.keepIn X.K (.ref f) = true) (hb : Binds X.K fd ps ds) (hd : Vals dvs ds) (hx : Passes CX X E)
    (hdb : (x == ("__debug__" : Str)) = false := by decide) : PE X (.Call (.Name x p) [] [] pos) (tCall sp dvs E tNil) :=
  ⟨fun pins s σ H Q I h => wpAny_Call_Name_kw (ld_glob I hg hm (PySem.W.callWith_K0 I.kIn hk (run_gp (us := []) F hgd hr hb hd hx I .nil h)) hdb)⟩
/-- f(e, .., k = v, ..) -/
def tGK (n m : Nat) (sp : Sp) (gV : List V → List V → List V) (E : XK) (t tk : TA) : TE := fun σ H Q => t σ H fun vs H1 => tk σ H1 fun zs H2 => vs.length = n ∧ zs.length = m ∧ sp (gV vs zs) H2 Q E
theorem pe_gK (F : GOk X.prog X.w X.K X.mg X.base CX k f fd ps sp) (hgd : X.A.guards = some []) (hr : Room k X.A) (hg : Gl X x) (hm : X.mg x = some (.ref f)) (hk : PySem.W.keepIn X.K (.ref f) = true) (hb : KBn X.K fd ps n ks g gV) (hx : Passes CX X E)
    (ha : PA X (e :: es) t) (hkw : PK X kws tk) (hall : (backToKw pos (keywordEach kws X.env)).all (·.1.isSome) = true := by rfl) (hks : (backToKw pos (keywordEach kws X.env)).filterMap (·.1) = ks := by rfl)
    (hdb : (x == ("__debug__" : Str)) = false := by decide) (he : starEach (e :: es) X.env = (false, eval e X.env) :: starEach es X.env := by rfl)
    (hpl : ((backTo pos (starEach (e :: es) X.env)).any (·.1) || (backToKw pos (keywordEach kws X.env)).any (·.1.isNone)) = false := by rfl) :
    PE X (.Call (.Name x p) (e :: es) kws pos) (tGK n ks.length sp gV E t tk) := by
  refine ⟨fun pins s σ H Q I h => wpAny_Call_Name_kw (ld_glob I hg hm (PySem.W.callWith_KW (h₀ := X.base) I.ok.mod.kin hk hall (thn (ha.run pos pins s σ H _ I h) fun us s1 ⟨vs, H1, I1, r, q⟩ => ?_) hpl he) hdb)⟩
  refine thn (hkw.run pos pins s1 σ H1 _ I1 q) fun ws s2 ⟨zs, H2, I2, rz, l1, l2, q2⟩ => ⟨I2.kIn, ?_⟩
  rw [hks]
  exact run_gk F hgd hr hb hx I2 r rz l1 l2 q2
theorem pe_gK0 (F : GOk X.prog X.w X.K X.mg X.base CX k f fd ps sp) (hgd : X.A.guards = some []) (hr : Room k X.A) (hg : Gl X x) (hm : X.mg x = some (.ref f)) (hk : PySem.W.keepIn X.K (.ref f) = true) (hb : KBn X.K fd ps 0 ks g gV) (hx : Passes CX X E)
    (hkw : PK X kws tk) (hall : (backToKw pos (keywordEach kws X.env)).all (·.1.isSome) = true := by rfl) (hks : (backToKw pos (keywordEach kws X.env)).filterMap (·.1) = ks := by rfl)
    (hdb : (x == ("__debug__" : Str)) = false := by decide) (hpl : ((backTo pos (starEach [] X.env)).any (·.1) || (backToKw pos (keywordEach kws X.env)).any (·.1.isNone)) = false := by rfl) :
    PE X (.Call (.Name x p) [] kws pos) (tGK 0 ks.length sp gV E tNil tk) := by
  refine ⟨fun pins s σ H Q I h => wpAny_Call_Name_kw (ld_glob I hg hm (PySem.W.callWith_KW0 (h₀ := X.base) I.ok.mod.kin hk hall ?_ hpl) hdb)⟩
  refine thn (hkw.run pos pins s σ H _ I h) fun ws s2 ⟨zs, H2, I2, rz, l1, l2, q2⟩ => ⟨I2.kIn, ?_⟩
  rw [hks]
  exact run_gk (us := []) (vs := []) F hgd hr hb hx I2 .nil rz rfl l2 q2
/-- o.m(e, ..), o.m() -/
theorem pe_gm {pl : Sem Bool} (he : PE X o ta) (c : Cls X.K C) (hm : Meth X.K C m f) (F : GOk X.prog X.w X.K X.mg X.base CX k f fd ps sp) (hgd : X.A.guards = some []) (hr : Room k X.A) (hb : Binds X.K fd ps ds) (hd : Vals dvs ds) (hx : Passes CX X E) (ha : PA X (e :: es) t)
    (hst : starEach (e :: es) X.env = (false, eval e X.env) :: starEach es X.env := by rfl) (hpl : (backTo pos (starEach es X.env)).any (·.1) = false := by rfl)
    (ht : eval (.Call (.Attribute o m apos) (e :: es) [] pos) X.env = (do
      let ov ← eval o X.env
      standAt apos.atName
      let (f, first) ← holding [ov] (getMethod ov m pl)
      callWith pos f first (backTo pos (starEach (e :: es) X.env)) (backToKw pos (keywordEach [] X.env))) := by rfl) :
    PE X (.Call (.Attribute o m apos) (e :: es) [] pos) (tMeth C m sp dvs E ta t) := by
  refine ⟨fun pins s σ H Q I h => PySem.W.methodCall_KW (pl := pl) (thn (he.run pins s σ H _ I h) fun u s1 ⟨x, H1, I1, rx, a, dx, fs, ex, ea, l, q⟩ => ?_) ht⟩
  subst ex
  cases rx
  exact getmeth_ok I1 ea c hm l (PySem.W.callWith_K (first := [.ref a]) (h₀ := X.base) I.ok.mod.kin hm.kp (thn (ha.run pos pins s1 σ H1 _ I1 q) fun us s2 ⟨vs, H2, I2, r, q2⟩ =>
    ⟨I2.kIn, run_gp (us := .ref a :: us) (vs := .ref a :: vs) F hgd hr hb hd hx I2 (.cons rfl r) q2⟩) hst hpl)
theorem pe_gm0 {pl : Sem Bool} (he : PE X o ta) (c : Cls X.K C) (hm : Meth X.K C m f) (F : GOk X.prog X.w X.K X.mg X.base CX k f fd ps sp) (hgd : X.A.guards = some []) (hr : Room k X.A) (hb : Binds X.K fd ps ds) (hd : Vals dvs ds) (hx : Passes CX X E)
    (ht : eval (.Call (.Attribute o m apos) [] [] pos) X.env = (do
      let ov ← eval o X.env
      standAt apos.atName
      let (f, first) ← holding [ov] (getMethod ov m pl)
      callWith pos f first (backTo pos (starEach [] X.env)) (backToKw pos (keywordEach [] X.env))) := by rfl) :
    PE X (.Call (.Attribute o m apos) [] [] pos) (tMeth C m sp dvs E ta tNil) := by
  refine ⟨fun pins s σ H Q I h => PySem.W.methodCall_KW (pl := pl) (thn (he.run pins s σ H _ I h) fun u s1 ⟨x, H1, I1, rx, a, dx, fs, ex, ea, l, q⟩ => ?_) ht⟩
  subst ex
  cases rx
  exact getmeth_ok I1 ea c hm l (PySem.W.callWith_K0 (first := [.ref a]) I1.kIn hm.kp (run_gp (us := [.ref a]) (vs := [.ref a]) F hgd hr hb hd hx I1 (.cons rfl .nil) q))
/-- a new instance -/
theorem guards_make {A : Around} (h : A.guards = some []) (us : List Value) (kw : List (Str × Value)) : (A.under (.builtin "type.__call__" ⟨.ref C :: us, kw⟩)).guards = some [] := by
  first
    | (simp [Around.under, h, pushGuards, Code.guards, Code.isGuard, guardIds]; done)
    | (unfold Around.under; simp [h, pushGuards, Code.guards, Code.isGuard, guardIds]; done)
    | (simp only [Around.under, h]; rfl)
theorem run_gmake {pins : List (Addr × Obj)} {σ : L2.St} {H : Hp} {s : Shared} {Q : VK} {us ws bs : List Value} {vs zs : List V} (M : Mk X.K C f) (F : GOk X.prog X.w X.K X.mg X.base CX k f fd ps sp) (hgd : X.A.guards = some []) (hr : Room (k + 1) X.A) (hx : Passes CX X E)
    (I : Inv X pins σ H s) (hb : ∀ (s' : Shared) (v : Value), X.K.In s'.heap → BindsTo s' fd ⟨v :: us, ks.zip ws⟩ (ps.zip (v :: bs))) (r : Vals zs bs)
    (h : ∀ x dx, H x = none → H dx = none → dx ≠ x → sp (.ref x :: zs) (upd (upd H dx (.own x)) x (.ins C dx [])) (fun v H2 => v = .non ∧ Q (.ref x) H2) E) :
    wpAny (model X.prog X.w) X.A (call (.ref C) us (ks.zip ws)) (EP X pins σ Q) X.xe s := by
  have hq := h (s.heap.objs.size + 1) s.heap.objs.size (I.hok.fresh (Nat.le_succ _)) (I.hok.fresh (Nat.le_refl _)) (Nat.ne_of_lt (Nat.lt_succ_self _))
  have J := Inv.made (C := C) I
  have rr : Vals (V.ref (s.heap.objs.size + 1) :: zs) (Value.ref (s.heap.objs.size + 1) :: bs) := .cons rfl r
  refine wpAny_call (make_map (f := f) I.kIn M.makes M.init (beq_iff_eq.mp M.fn) (codeAny_mono (F.run _ X.stack _ _ ⟨.ref (s.heap.objs.size + 1) :: us, ks.zip ws⟩ (.ref (s.heap.objs.size + 1) :: bs) _ _ E (guards_make hgd us (ks.zip ws)) (hr.make C us (ks.zip ws))
    (J.env0.make C us (ks.zip ws)) (hb _ _ J.kIn) rr hq) fun res s' hq' => ?_))
  match res, hq' with
  | .error e, z => exact hx pins σ _ _ e s' J z
  | .ok (.ret u), z =>
    obtain ⟨v, H', I3, rv, ev, q3⟩ := J.after z
    subst ev
    exact ⟨rv, .ref (s.heap.objs.size + 1), H', I3, rfl, q3⟩
  | .ok .next, z => exact z.elim
  | .ok .brk, z => exact z.elim
  | .ok .cont, z => exact z.elim
end
end Ev

/-! ### defs, methods, classes as facts of the module -/
namespace Ev
open PySem PySem.Spec PyProof.Rows L2
section
variable (P : Program) (w : World) (K : PySem.W.Frag) (mg : Str → Option Value) (base : Heap)
/-- a def under its name, with these defaults -/
structure GC (k : Nat) (x : Str) (sp : Sp) (dvs : List V) : Prop where
  ex : ∃ (f : Addr) (fd : FuncData) (ps : List Str) (ds : List Value), GOk P w K mg base (L2.CX P w) k f fd ps sp ∧ mg x = some (.ref f) ∧ PySem.W.keepIn K (.ref f) = true ∧ Binds K fd ps ds ∧ Vals dvs ds
/-- .. called with n positional values and the keywords ks -/
structure GCK (k : Nat) (x : Str) (sp : Sp) (n : Nat) (ks : List Str) (gV : List V → List V → List V) : Prop where
  ex : ∃ (f : Addr) (fd : FuncData) (ps : List Str) (g : List Value → List Value → List Value), GOk P w K mg base (L2.CX P w) k f fd ps sp ∧ mg x = some (.ref f) ∧ PySem.W.keepIn K (.ref f) = true ∧ KBn K fd ps n ks g gV
/-- a method -/
structure GM (k : Nat) (C : Addr) (m : Str) (sp : Sp) (dvs : List V) : Prop where
  ex : ∃ (f : Addr) (fd : FuncData) (ps : List Str) (ds : List Value), Cls K C ∧ Meth K C m f ∧ GOk P w K mg base (L2.CX P w) k f fd ps sp ∧ Binds K fd ps ds ∧ Vals dvs ds
/-- a class, made by n positional values and the keywords ks -/
structure GN (k : Nat) (x : Str) (C : Addr) (sp : Sp) (n : Nat) (ks : List Str) (gV : List V → List V → List V) : Prop where
  ex : ∃ (f : Addr) (fd : FuncData) (ps : List Str) (g : List Value → List Value → List Value), Mk K C f ∧ GOk P w K mg base (L2.CX P w) k f fd ps sp ∧ mg x = some (.ref C) ∧ KBn K fd ps (n + 1) ks g gV
end
section
variable {X : Cx} {k j n : Nat} {C : Addr} {x m : Str} {sp : Sp} {dvs : List V} {E : XK} {p pos apos : Pos} {e o : Expr} {es : List Expr} {ta : TE} {t tk : TA} {kws : List Keyword} {ks : List Str} {gV : List V → List V → List V}
theorem pe_cE (c : GC X.prog X.w X.K X.mg X.base k x sp dvs) (hgd : X.A.guards = some []) (hr : Room j X.A) (hk : k ≤ j) (hx : Passes (L2.CX X.prog X.w) X E) (hg : Gl X x) (ha : PA X (e :: es) t)
    (hdb : (x == ("__debug__" : Str)) = false := by decide) (he : starEach (e :: es) X.env = (false, eval e X.env) :: starEach es X.env := by rfl) (hpl : (backTo pos (starEach es X.env)).any (·.1) = false := by rfl) :
    PE X (.Call (.Name x p) (e :: es) [] pos) (tCall sp dvs E t) :=
  let ⟨_, _, _, _, F, hm, kp, b, d⟩ := c.ex
  pe_g F hgd (hr.mono hk) hg hm kp b d hx ha hdb he hpl
theorem pe_c (c : GC X.prog X.w X.K X.mg X.base k x sp dvs) (hgd : X.A.guards = some []) (hr : Room j X.A) (hk : k ≤ j) (hg : Gl X x) (ha : PA X (e :: es) t)
    (hdb : (x == ("__debug__" : Str)) = false := by decide) (he : starEach (e :: es) X.env = (false, eval e X.env) :: starEach es X.env := by rfl) (hpl : (backTo pos (starEach es X.env)).any (·.1) = false := by rfl) :
    PE X (.Call (.Name x p) (e :: es) [] pos) (tCall sp dvs E0 t) := pe_cE c hgd hr hk passL hg ha hdb he hpl
theorem pe_c0E (c : GC X.prog X.w X.K X.mg X.base k x sp dvs) (hgd : X.A.guards = some []) (hr : Room j X.A) (hk : k ≤ j) (hx : Passes (L2.CX X.prog X.w) X E) (hg : Gl X x)
    (hdb : (x == ("__debug__" : Str)) = false := by decide) : PE X (.Call (.Name x p) [] [] pos) (tCall sp dvs E tNil) :=
  let ⟨_, _, _, _, F, hm, kp, b, d⟩ := c.ex
  pe_g0 F hgd (hr.mono hk) hg hm kp b d hx hdb
theorem pe_c0 (c : GC X.prog X.w X.K X.mg X.base k x sp dvs) (hgd : X.A.guards = some []) (hr : Room j X.A) (hk : k ≤ j) (hg : Gl X x)
    (hdb : (x == ("__debug__" : Str)) = false := by decide) : PE X (.Call (.Name x p) [] [] pos) (tCall sp dvs E0 tNil) := pe_c0E c hgd hr hk passL hg hdb
theorem pe_cKE (c : GCK X.prog X.w X.K X.mg X.base k x sp n ks gV) (hgd : X.A.guards = some []) (hr : Room j X.A) (hk : k ≤ j) (hx : Passes (L2.CX X.prog X.w) X E) (hg : Gl X x)
    (ha : PA X (e :: es) t) (hkw : PK X kws tk) (hall : (backToKw pos (keywordEach kws X.env)).all (·.1.isSome) = true := by rfl) (hks : (backToKw pos (keywordEach kws X.env)).filterMap (·.1) = ks := by rfl)
    (hdb : (x == ("__debug__" : Str)) = false := by decide) (he : starEach (e :: es) X.env = (false, eval e X.env) :: starEach es X.env := by rfl)
    (hpl : ((backTo pos (starEach (e :: es) X.env)).any (·.1) || (backToKw pos (keywordEach kws X.env)).any (·.1.isNone)) = false := by rfl) :
    PE X (.Call (.Name x p) (e :: es) kws pos) (tGK n ks.length sp gV E t tk) :=
  let ⟨_, _, _, _, F, hm, kp, b⟩ := c.ex
  pe_gK F hgd (hr.mono hk) hg hm kp b hx ha hkw hall hks hdb he hpl
theorem pe_cK (c : GCK X.prog X.w X.K X.mg X.base k x sp n ks gV) (hgd : X.A.guards = some []) (hr : Room j X.A) (hk : k ≤ j) (hg : Gl X x)
    (ha : PA X (e :: es) t) (hkw : PK X kws tk) (hall : (backToKw pos (keywordEach kws X.env)).all (·.1.isSome) = true := by rfl) (hks : (backToKw pos (keywordEach kws X.env)).filterMap (·.1) = ks := by rfl)
    (hdb : (x == ("__debug__" : Str)) = false := by decide) (he : starEach (e :: es) X.env = (false, eval e X.env) :: starEach es X.env := by rfl)
    (hpl : ((backTo pos (starEach (e :: es) X.env)).any (·.1) || (backToKw pos (keywordEach kws X.env)).any (·.1.isNone)) = false := by rfl) :
    PE X (.Call (.Name x p) (e :: es) kws pos) (tGK n ks.length sp gV E0 t tk) := pe_cKE c hgd hr hk passL hg ha hkw hall hks hdb he hpl
theorem pe_cK0E (c : GCK X.prog X.w X.K X.mg X.base k x sp 0 ks gV) (hgd : X.A.guards = some []) (hr : Room j X.A) (hk : k ≤ j) (hx : Passes (L2.CX X.prog X.w) X E) (hg : Gl X x)
    (hkw : PK X kws tk) (hall : (backToKw pos (keywordEach kws X.env)).all (·.1.isSome) = true := by rfl) (hks : (backToKw pos (keywordEach kws X.env)).filterMap (·.1) = ks := by rfl)
    (hdb : (x == ("__debug__" : Str)) = false := by decide) (hpl : ((backTo pos (starEach [] X.env)).any (·.1) || (backToKw pos (keywordEach kws X.env)).any (·.1.isNone)) = false := by rfl) :
    PE X (.Call (.Name x p) [] kws pos) (tGK 0 ks.length sp gV E tNil tk) :=
  let ⟨_, _, _, _, F, hm, kp, b⟩ := c.ex
  pe_gK0 F hgd (hr.mono hk) hg hm kp b hx hkw hall hks hdb hpl
theorem pe_cK0 (c : GCK X.prog X.w X.K X.mg X.base k x sp 0 ks gV) (hgd : X.A.guards = some []) (hr : Room j X.A) (hk : k ≤ j) (hg : Gl X x)
    (hkw : PK X kws tk) (hall : (backToKw pos (keywordEach kws X.env)).all (·.1.isSome) = true := by rfl) (hks : (backToKw pos (keywordEach kws X.env)).filterMap (·.1) = ks := by rfl)
    (hdb : (x == ("__debug__" : Str)) = false := by decide) (hpl : ((backTo pos (starEach [] X.env)).any (·.1) || (backToKw pos (keywordEach kws X.env)).any (·.1.isNone)) = false := by rfl) :
    PE X (.Call (.Name x p) [] kws pos) (tGK 0 ks.length sp gV E0 tNil tk) := pe_cK0E c hgd hr hk passL hg hkw hall hks hdb hpl
/-- methods -/
theorem pe_mE {pl : Sem Bool} (c : GM X.prog X.w X.K X.mg X.base k C m sp dvs) (hgd : X.A.guards = some []) (hr : Room j X.A) (hk : k ≤ j) (hx : Passes (L2.CX X.prog X.w) X E) (he : PE X o ta) (ha : PA X (e :: es) t)
    (hst : starEach (e :: es) X.env = (false, eval e X.env) :: starEach es X.env := by rfl) (hpl : (backTo pos (starEach es X.env)).any (·.1) = false := by rfl)
    (ht : eval (.Call (.Attribute o m apos) (e :: es) [] pos) X.env = (do
      let ov ← eval o X.env
      standAt apos.atName
      let (f, first) ← holding [ov] (getMethod ov m pl)
      callWith pos f first (backTo pos (starEach (e :: es) X.env)) (backToKw pos (keywordEach [] X.env))) := by rfl) :
    PE X (.Call (.Attribute o m apos) (e :: es) [] pos) (tMeth C m sp dvs E ta t) :=
  let ⟨_, _, _, _, hc, hm, F, b, d⟩ := c.ex
  pe_gm (pl := pl) he hc hm F hgd (hr.mono hk) b d hx ha hst hpl ht
theorem pe_m {pl : Sem Bool} (c : GM X.prog X.w X.K X.mg X.base k C m sp dvs) (hgd : X.A.guards = some []) (hr : Room j X.A) (hk : k ≤ j) (he : PE X o ta) (ha : PA X (e :: es) t)
    (hst : starEach (e :: es) X.env = (false, eval e X.env) :: starEach es X.env := by rfl) (hpl : (backTo pos (starEach es X.env)).any (·.1) = false := by rfl)
    (ht : eval (.Call (.Attribute o m apos) (e :: es) [] pos) X.env = (do
      let ov ← eval o X.env
      standAt apos.atName
      let (f, first) ← holding [ov] (getMethod ov m pl)
      callWith pos f first (backTo pos (starEach (e :: es) X.env)) (backToKw pos (keywordEach [] X.env))) := by rfl) :
    PE X (.Call (.Attribute o m apos) (e :: es) [] pos) (tMeth C m sp dvs E0 ta t) := pe_mE (pl := pl) c hgd hr hk passL he ha hst hpl ht
theorem pe_m0E {pl : Sem Bool} (c : GM X.prog X.w X.K X.mg X.base k C m sp dvs) (hgd : X.A.guards = some []) (hr : Room j X.A) (hk : k ≤ j) (hx : Passes (L2.CX X.prog X.w) X E) (he : PE X o ta)
    (ht : eval (.Call (.Attribute o m apos) [] [] pos) X.env = (do
      let ov ← eval o X.env
      standAt apos.atName
      let (f, first) ← holding [ov] (getMethod ov m pl)
      callWith pos f first (backTo pos (starEach [] X.env)) (backToKw pos (keywordEach [] X.env))) := by rfl) :
    PE X (.Call (.Attribute o m apos) [] [] pos) (tMeth C m sp dvs E ta tNil) :=
  let ⟨_, _, _, _, hc, hm, F, b, d⟩ := c.ex
  pe_gm0 (pl := pl) he hc hm F hgd (hr.mono hk) b d hx ht
theorem pe_m0 {pl : Sem Bool} (c : GM X.prog X.w X.K X.mg X.base k C m sp dvs) (hgd : X.A.guards = some []) (hr : Room j X.A) (hk : k ≤ j) (he : PE X o ta)
    (ht : eval (.Call (.Attribute o m apos) [] [] pos) X.env = (do
      let ov ← eval o X.env
      standAt apos.atName
      let (f, first) ← holding [ov] (getMethod ov m pl)
      callWith pos f first (backTo pos (starEach [] X.env)) (backToKw pos (keywordEach [] X.env))) := by rfl) :
    PE X (.Call (.Attribute o m apos) [] [] pos) (tMeth C m sp dvs E0 ta tNil) := pe_m0E (pl := pl) c hgd hr hk passL he ht
/-- classes -/
theorem run_gnK {f : Addr} {fd : FuncData} {ps : List Str} {g : List Value → List Value → List Value} {pins : List (Addr × Obj)} {σ : L2.St} {H : Hp} {s : Shared} {Q : VK} {us ws : List Value} {vs zs : List V} (M : Mk X.K C f) (F : GOk X.prog X.w X.K X.mg X.base (L2.CX X.prog X.w) k f fd ps sp)
    (hgd : X.A.guards = some []) (hr : Room (k + 1) X.A) (hb : KBn X.K fd ps (n + 1) ks g gV) (hx : Passes (L2.CX X.prog X.w) X E) (I : Inv X pins σ H s) (r : Vals vs us) (rz : Vals zs ws) (l1 : vs.length = n) (l2 : zs.length = ks.length)
    (h : ∀ x dx, H x = none → H dx = none → dx ≠ x → sp (gV (.ref x :: vs) zs) (upd (upd H dx (.own x)) x (.ins C dx [])) (fun v H2 => v = .non ∧ Q (.ref x) H2) E) :
    wpAny (model X.prog X.w) X.A (call (.ref C) us (ks.zip ws)) (EP X pins σ Q) X.xe s := by
  have hq := h (s.heap.objs.size + 1) s.heap.objs.size (I.hok.fresh (Nat.le_succ _)) (I.hok.fresh (Nat.le_refl _)) (Nat.ne_of_lt (Nat.lt_succ_self _))
  have J := Inv.made (C := C) I
  have rr : Vals (V.ref (s.heap.objs.size + 1) :: vs) (Value.ref (s.heap.objs.size + 1) :: us) := .cons rfl r
  have len1 : (Value.ref (s.heap.objs.size + 1) :: us).length = n + 1 := by
    have := r.length
    simp only [List.length_cons]
    omega
  refine wpAny_call (make_map (f := f) I.kIn M.makes M.init (beq_iff_eq.mp M.fn) (codeAny_mono (F.run _ X.stack _ _ ⟨.ref (s.heap.objs.size + 1) :: us, ks.zip ws⟩ (g (.ref (s.heap.objs.size + 1) :: us) ws) _ _ E (guards_make hgd us (ks.zip ws)) (hr.make C us (ks.zip ws))
    (J.env0.make C us (ks.zip ws)) (hb.to _ _ ws J.kIn len1 (rz.length.symm.trans l2)) (hb.rel rr rz) hq) fun res s' hq' => ?_))
  match res, hq' with
  | .error e, z => exact hx pins σ _ _ e s' J z
  | .ok (.ret u), z =>
    obtain ⟨v, H', I3, rv, ev, q3⟩ := J.after z
    subst ev
    exact ⟨rv, .ref (s.heap.objs.size + 1), H', I3, rfl, q3⟩
  | .ok .next, z => exact z.elim
  | .ok .brk, z => exact z.elim
  | .ok .cont, z => exact z.elim
theorem pe_nE (c : GN X.prog X.w X.K X.mg X.base k x C sp n ks gV) (hgd : X.A.guards = some []) (hr : Room j X.A) (hk : k + 1 ≤ j) (hx : Passes (L2.CX X.prog X.w) X E) (hg : Gl X x)
    (ha : PA X (e :: es) t) (hkw : PK X kws tk) (hall : (backToKw pos (keywordEach kws X.env)).all (·.1.isSome) = true := by rfl) (hks : (backToKw pos (keywordEach kws X.env)).filterMap (·.1) = ks := by rfl)
    (hdb : (x == ("__debug__" : Str)) = false := by decide) (he : starEach (e :: es) X.env = (false, eval e X.env) :: starEach es X.env := by rfl)
    (hpl : ((backTo pos (starEach (e :: es) X.env)).any (·.1) || (backToKw pos (keywordEach kws X.env)).any (·.1.isNone)) = false := by rfl) :
    PE X (.Call (.Name x p) (e :: es) kws pos) (tMakeK C n ks.length sp gV E t tk) := by
  obtain ⟨_, _, _, _, M, F, hm, b⟩ := c.ex
  refine ⟨fun pins s σ H Q I h => wpAny_Call_Name_kw (ld_glob I hg hm (PySem.W.callWith_KW (h₀ := X.base) I.ok.mod.kin M.kp hall (thn (ha.run pos pins s σ H _ I h) fun us s1 ⟨vs, H1, I1, r, q⟩ => ?_) hpl he) hdb)⟩
  refine thn (hkw.run pos pins s1 σ H1 _ I1 q) fun ws s2 ⟨zs, H2, I2, rz, l1, l2, q2⟩ => ⟨I2.kIn, ?_⟩
  rw [hks]
  exact run_gnK M F hgd (hr.mono hk) b hx I2 r rz l1 l2 q2
theorem pe_n (c : GN X.prog X.w X.K X.mg X.base k x C sp n ks gV) (hgd : X.A.guards = some []) (hr : Room j X.A) (hk : k + 1 ≤ j) (hg : Gl X x)
    (ha : PA X (e :: es) t) (hkw : PK X kws tk) (hall : (backToKw pos (keywordEach kws X.env)).all (·.1.isSome) = true := by rfl) (hks : (backToKw pos (keywordEach kws X.env)).filterMap (·.1) = ks := by rfl)
    (hdb : (x == ("__debug__" : Str)) = false := by decide) (he : starEach (e :: es) X.env = (false, eval e X.env) :: starEach es X.env := by rfl)
    (hpl : ((backTo pos (starEach (e :: es) X.env)).any (·.1) || (backToKw pos (keywordEach kws X.env)).any (·.1.isNone)) = false := by rfl) :
    PE X (.Call (.Name x p) (e :: es) kws pos) (tMakeK C n ks.length sp gV E0 t tk) := pe_nE c hgd hr hk passL hg ha hkw hall hks hdb he hpl
theorem pe_n0E (c : GN X.prog X.w X.K X.mg X.base k x C sp 0 ks gV) (hgd : X.A.guards = some []) (hr : Room j X.A) (hk : k + 1 ≤ j) (hx : Passes (L2.CX X.prog X.w) X E) (hg : Gl X x)
    (hkw : PK X kws tk) (hall : (backToKw pos (keywordEach kws X.env)).all (·.1.isSome) = true := by rfl) (hks : (backToKw pos (keywordEach kws X.env)).filterMap (·.1) = ks := by rfl)
    (hdb : (x == ("__debug__" : Str)) = false := by decide) (hpl : ((backTo pos (starEach [] X.env)).any (·.1) || (backToKw pos (keywordEach kws X.env)).any (·.1.isNone)) = false := by rfl) :
    PE X (.Call (.Name x p) [] kws pos) (tMakeK C 0 ks.length sp gV E tNil tk) := by
  obtain ⟨_, _, _, _, M, F, hm, b⟩ := c.ex
  refine ⟨fun pins s σ H Q I h => wpAny_Call_Name_kw (ld_glob I hg hm (PySem.W.callWith_KW0 (h₀ := X.base) I.ok.mod.kin M.kp hall ?_ hpl) hdb)⟩
  refine thn (hkw.run pos pins s σ H _ I h) fun ws s2 ⟨zs, H2, I2, rz, l1, l2, q2⟩ => ⟨I2.kIn, ?_⟩
  rw [hks]
  exact run_gnK (us := []) (vs := []) M F hgd (hr.mono hk) b hx I2 .nil rz rfl l2 q2
end
/-- every parameter is given by its place -/
theorem kbn_pos {K : PySem.W.Frag} {fd : FuncData} {ps : List Str} (b : Binds K fd ps []) : KBn K fd ps ps.length [] (fun us _ => us) (fun vs _ => vs) :=
  ⟨fun s us ws X h1 h2 => by
    have := b s us X (by rw [List.append_nil]; exact h1)
    rw [List.append_nil] at this
    exact this, fun r _ => r⟩
end Ev

/-! ### the law's own call, with no guard around it -/
namespace Ev
open PySem PySem.Spec PyProof.Rows L2
theorem law_g {P : Program} {w : World} {K : PySem.W.Frag} {mg mb : Str → Option Value} {CX : CXT} {k : Nat} {fa a : Addr} {fd : FuncData} {x : Str} {sp : Sp} {s₁ : Shared} {vs : List Value} {ns : List Int}
    (KX : K.In s₁.heap) (hns : s₁.heap.Ns mainGlobals mg) (hb : s₁.heap.Ns builtinsNs mb) (hbb : ∀ y : Str, y ≠ "__name__" → mb y = bootBuiltins y) (hlim : s₁.heap.NoLimit) (hg : s₁.gens = #[])
    (ha : s₁.heap.get? a = some { cls := .type "list", data := .seq vs.toArray }) (hi : IntsAre vs ns) (hl : ns.length ≤ sizeLine) (hr : Room k callerA)
    (F : ∀ base : Heap, K.In base → base.Ns mainGlobals mg → GOk P w K mg base CX k fa fd [x] sp) (hbind : ∀ (s : Shared) (u : Value), BindsTo s fd ⟨[u], []⟩ [(x, u)])
    (hsp : ∀ H : Hp, Only H → SqL K H a (ns.map V.int) → sp [.ref a] H (fun v _ => v = .bl true) fun _ _ _ => False)
    (hCX : ∀ H e s', CX [] H s₁ (fun _ _ _ => False) e s' → False) :
    codeAny (model P w) callerA (.call (.ref fa) ⟨[.ref a], []⟩) (fun r s' => r = .ok (.ret (.bool true)) ∧ OldK s₁.heap s'.heap ∧ s'.os = s₁.os ∧ AllBare s'.gens) s₁ := by
  have rv := vals_ints hi
  obtain ⟨H, hO, hS, hok, hA, hK⟩ : ∃ H : Hp, Only H ∧ SqL K H a (ns.map V.int) ∧ HOk P w H s₁.heap ∧ (∀ b, H b ≠ none → b = a) ∧ (H a ≠ none → K.lookup a = none) := by
    cases hk : K.lookup a with
    | some o =>
      have eo : o = { cls := .type "list", data := .seq vs.toArray } := Option.some.inj ((KX a o hk).symm.trans ha)
      subst eo
      refine ⟨fun _ => none, fun _ => Or.inl rfl, Or.inr ⟨_, vs.toArray, _, hk, rfl, rfl, rfl, ?_, ?_⟩, fun b u z => (nomatch z), fun b z => (z rfl).elim, fun z => (z rfl).elim⟩
      · rw [List.size_toArray, hi.length]
        exact hl
      · simpa using rv
    | none =>
      refine ⟨fun b => if b = a then some (.frz { cls := .type "list", data := .seq vs.toArray } (.lst (ns.map V.int))) else none, fun b => ?_, Or.inl (Or.inr ⟨{ cls := .type "list", data := .seq vs.toArray }, if_pos rfl⟩), fun b u z => ?_, fun b z => ?_, fun _ => rfl⟩
      · by_cases e : b = a
        · exact Or.inr ⟨_, _, if_pos e⟩
        · exact Or.inl (if_neg e)
      · by_cases e : b = a
        · subst e
          cases (if_pos rfl).symm.trans z
          exact ⟨ha, (List.length_map (as := ns) V.int).symm ▸ hl, vs, _, rv, ha⟩
        · cases (if_neg e).symm.trans z
      · by_cases e : b = a
        · exact e
        · exact (z (if_neg e)).elim
  have keep : ∀ {b : Addr} {o : Obj}, s₁.heap.get? b = some o → H b = none → (hidT s₁.heap H).get? b = some o := fun e n => hidT_get e n
  have nodict : ∀ {b : Addr} {o : Obj} {es : Array DictEntry} {ep : Nat}, s₁.heap.get? b = some o → o.data = .dict es ep → H b = none := by
    intro b o es ep e d
    refine Classical.byContradiction fun z => ?_
    have e' := hA b z
    subst e'
    cases ha.symm.trans e
    cases d
  have nsK : ∀ {b : Addr} {m : Str → Option Value}, s₁.heap.Ns b m → (hidT s₁.heap H).Ns b m := fun ⟨o, es, ep, e, d, r⟩ => ⟨o, es, ep, keep e (nodict e d), d, r⟩
  have kb : K.In (hidT s₁.heap H) := fun b o e => keep (KX b o e) (Classical.byContradiction fun z => by
    have e' := hA b z
    subst e'
    rw [hK z] at e
    cases e)
  have mod : Mod K mg (hidT s₁.heap H) := ⟨kb, nsK hns, ⟨mb, nsK hb, hbb⟩, let ⟨mc, h1, h2⟩ := hlim; ⟨mc, nsK h1, h2⟩⟩
  have e0 : Env0 P w K mg (hidT s₁.heap H) callerA [] s₁ H := ⟨rfl, mod, fun _ _ e => of_hidT e, Nat.le_of_eq (hidT_size _ _), trivial, fun b hb => (nomatch (show b ∈ ([] : List Addr) from hb)), hok, .of_eq hg⟩
  refine codeAny_mono ((F _ kb (nsK hns)).run callerA [] s₁ H ⟨[.ref a], []⟩ [.ref a] [.ref a] _ _ rfl hr e0 (hbind s₁ (.ref a)) (.cons rfl .nil) (hsp H hO hS)) fun r s' h => ?_
  match r, h with
  | .error e, z => exact (hCX H e s' z).elim
  | .ok .next, z => exact z.elim
  | .ok .brk, z => exact z.elim
  | .ok .cont, z => exact z.elim
  | .ok (.ret u), ⟨v, H', os, bare, un, hok', r', (q : v = .bl true)⟩ =>
    subst q
    cases (show u = Value.bool true from r')
    refine ⟨rfl, OldK.of_keep fun b o e => ?_, os, bare⟩
    rcases hO b with z | ⟨ob, xs, z⟩
    · exact un.keep b o e z (fun y => (nomatch (show b ∈ ([] : List Addr) from y))) (by simp)
    · have o1 := (hok b _ z).1
      have o2 := (hok' b _ (un.frzs b ob _ z)).1
      exact o2.trans (o1.symm.trans e)
/-- the goal that k_head leaves, from the law's promise -/
theorem walk_g {l : PySem.W.OpenLaw} {n k : Nat} {q : Program} {loose : List Str} {XP : (Str → Option Value) → Heap → Prop} {YP : World → Heap → Prop} {d : DefRec} {K : Params → PySem.W.Frag} {sp : PySem.W.Frag → Sp} {x : Str}
    (hn : l.most = some n) (hn2 : n ≤ sizeLine) (hdf : d.params.defaults = []) (hr : Room k callerA) (hY : ∀ (w : World) (h : Heap), YP w h → (K w.params).In h)
    (F : ∀ (w : World) (mg : Str → Option Value) (fa : Addr) (h : Heap), (K w.params).In h → h.Ns mainGlobals mg → mg d.name = some (.ref fa) →
      ∃ fd : FuncData, (∀ (s : Shared) (u : Value), BindsTo s fd ⟨[u], []⟩ [(x, u)]) ∧
        ∀ base : Heap, (K w.params).In base → base.Ns mainGlobals mg → GOk l.prog w (K w.params) mg base (L2.CX l.prog w) k fa fd [x] (sp (K w.params)))
    (hsp : ∀ (K : PySem.W.Frag) (H : Hp) (a : Addr) (ns : List Int), ns.length ≤ n → (∀ z ∈ ns, Builtin.Int.intBits z ≤ 1048576) → Only H → SqL K H a (ns.map V.int) → sp K [.ref a] H (fun v _ => v = .bl true) fun _ _ _ => False) :
    PySem.W.WalkO q loose XP YP l.row.toRowW d [] (fun f vs => PySem.call f vs) := by
  refine Att.attach_callB hn hdf fun w s₀ s₁ mg mb fa o pm cd doc a vs ns G Y ho hd hcd hmg hobj hints hlen hbits hg => ?_
  obtain ⟨fd, b, hF⟩ := F w mg fa _ (hY w _ Y) G.T.g hmg
  refine law_g (hY w _ Y) G.T.g G.T.b G.T.builtins G.T.nolimit hg hobj hints (Nat.le_trans hlen hn2) hr hF b (fun H hO hS => hsp _ H a ns hlen hbits hO hS) fun H e s' z => ?_
  obtain ⟨_, _, _, _, _, _, _, _, _, _, _, _, y⟩ := z
  exact y.elim
end Ev

/-! ### repr of data -/
namespace Ev
open PySem PySem.Spec PyProof.Rows L2
mutual
def cost : PyData → Nat
  | .none => 4
  | .bool _ => 5
  | .int _ => 1921
  | .str x => (reprText x).length
  | .list xs => costs xs + 2
  | .tuple xs => costs xs + 2
  | .dict _ => 0
def costs : List PyData → Nat
  | [] => 0
  | x :: xs => cost x + 2 + costs xs
end
theorem listText_le (ts : List Str) : (listText ts).length ≤ piled ts + 2 := by
  have h1 : (listText ts).length = (textFrom 0 "[" ts).length + 1 := by
    show (textFrom 0 "[" ts ++ "]").length = _
    rw [strLen_append]
    rfl
  rw [h1]
  cases ts with
  | nil =>
    show (Str.ofString "[").length + 1 ≤ _
    decide +kernel
  | cons t r =>
    have e : ((("[" : Str) ++ (if (0 : Nat) > 0 then ", " else "" : String) ++ t)).length = 1 + t.length := by
      rw [strLen_append, strLen_append]
      rfl
    have h2 : (textFrom 0 "[" (t :: r)).length = ((("[" : Str) ++ (if (0 : Nat) > 0 then ", " else "" : String) ++ t)).length + piled r := textFrom_length_pos r 1 _ (Nat.succ_pos 0)
    rw [h2, e, piled_cons]
    omega
mutual
theorem shown_le : ∀ d : PyData, d.showable = true → d.hasDict = false → (PyData.shown d).length ≤ cost d
  | .none, _, _ => by
    show (Str.ofString "None").length ≤ 4
    decide +kernel
  | .bool true, _, _ => by
    show (PyData.shown (.bool true)).length ≤ 5
    decide +kernel
  | .bool false, _, _ => by
    show (PyData.shown (.bool false)).length ≤ 5
    decide +kernel
  | .int i, h, _ => PyProof.Rows.int_text_len_1921 (of_decide_eq_true h)
  | .str x, _, _ => Nat.le_refl _
  | .list xs, h, hd => by
    have a := shown_les xs (by simpa [PyData.showable] using h) (by simpa [PyData.hasDict] using hd)
    have b := listText_le (PyData.shownAll xs)
    show (listText (PyData.shownAll xs)).length ≤ costs xs + 2
    omega
  | .tuple xs, h, hd => by
    have a := shown_les xs (by simpa [PyData.showable] using h) (by simpa [PyData.hasDict] using hd)
    have b := fmt_text (PyData.shownAll xs)
    show (tupleText (PyData.shownAll xs)).length ≤ costs xs + 2
    omega
  | .dict _, _, hd => by simp [PyData.hasDict] at hd
theorem shown_les : ∀ ds : List PyData, PyData.showableAll ds = true → PyData.hasDictAll ds = false → piled (PyData.shownAll ds) ≤ costs ds
  | [], _, _ => Nat.le_refl _
  | d :: ds, h, hd => by
    have h1 : d.showable = true ∧ PyData.showableAll ds = true := by simpa [PyData.showableAll] using h
    have h2 : d.hasDict = false ∧ PyData.hasDictAll ds = false := by simpa [PyData.hasDictAll] using hd
    have a := shown_le d h1.1 h2.1
    have b := shown_les ds h1.2 h2.2
    show piled (PyData.shown d :: PyData.shownAll ds) ≤ cost d + 2 + costs ds
    rw [piled_cons]
    omega
end
mutual
theorem nodict : ∀ d : PyData, d.canLay0 = true → d.hasDict = false
  | .none, _ => rfl
  | .bool _, _ => rfl
  | .int _, _ => rfl
  | .str _, _ => rfl
  | .list xs, h => by
    show PyData.hasDictAll xs = false
    exact nodicts xs (by simpa [PyData.canLay0] using h)
  | .tuple xs, h => by
    show PyData.hasDictAll xs = false
    exact nodicts xs (by simpa [PyData.canLay0] using h)
  | .dict _, h => by simp [PyData.canLay0] at h
theorem nodicts : ∀ ds : List PyData, PyData.canLayAll0 ds = true → PyData.hasDictAll ds = false
  | [], _ => rfl
  | d :: ds, h => by
    have h1 : d.canLay0 = true ∧ PyData.canLayAll0 ds = true := by simpa [PyData.canLayAll0] using h
    show (d.hasDict || PyData.hasDictAll ds) = false
    rw [nodict d h1.1, nodicts ds h1.2]
    rfl
end
/-- what is asked of data that are shown -/
structure Shows (d : PyData) : Prop where
  sh : d.showable = true
  nd : d.hasDict = false
  dp : d.depth ≤ 64
  ct : cost d ≤ 16777216
section
variable {X : Cx}
def rRepr (K : PySem.W.Frag) : List V → Hp → VK → Prop := fun vs H Q => ∃ (x : V) (d : PyData), vs = [x] ∧ Dp K H x d ∧ Shows d ∧ Q (.str d.shown) H
theorem call_repr (hgd : X.A.guards = some []) (hu : X.A.units + 64 < cLine) (hu2 : X.A.units + 200 < cLine) : CallR X (.builtin "repr") (rRepr X.K) := by
  intro pins s σ H vs us Q I r h
  obtain ⟨x, d, rfl, hd, S, q⟩ := h
  cases r with
  | cons rx rn =>
    cases rn
    rename_i u
    have hz : d.shown.length ≤ sizeLine := by
      have a := shown_le d S.sh S.nd
      have b := S.ct
      rw [sizeLine_eq]
      omega
    obtain ⟨as, hr⟩ := Dp.reads I d x u hd rx
    cases hd with
    | non =>
      cases rx
      exact P.repr_of_none ⟨.str _, H, I.tok _, ⟨_, rfl⟩, q⟩
    | bl b =>
      cases rx
      exact P.repr_of_bool ⟨.str _, H, I.tok _, ⟨_, rfl⟩, q⟩
    | int i =>
      obtain ⟨t, rfl⟩ := rx
      exact P.repr_of_int (of_decide_eq_true S.sh) ⟨.str _, H, I.tok _, ⟨_, rfl⟩, q⟩
    | str z =>
      obtain ⟨t, rfl⟩ := rx
      exact P.repr_of_str ⟨.str _, H, I.tok _, ⟨_, rfl⟩, q⟩ hz
    | lst a b =>
      cases rx
      exact repr_of_reads' hr S.sh (PyData.noDict_hsm S.nd) hgd (by have := S.dp; omega) (fun _ _ e => e) (fun h' t tk hk => ⟨.str _, H, I.kept hk, ⟨_, rfl⟩, q⟩) hz
    | tup a b =>
      cases rx
      exact repr_of_reads' hr S.sh (PyData.noDict_hsm S.nd) hgd (by have := S.dp; omega) (fun _ _ e => e) (fun h' t tk hk => ⟨.str _, H, I.kept hk, ⟨_, rfl⟩, q⟩) hz
end
end Ev

/-! ### comprehensions and loops that leave what was tracked as it was -/
namespace Ev
open PySem L2
theorem Same.new {H H1 : Hp} {q : Addr} {o : HO} (a : Same H H1) (h : H1 q = none) : Same H (upd H1 q o) := fun c u e => get_new (a c u e) h
theorem Same.seqT {K : PySem.W.Frag} {H H' : Hp} {a : Addr} {xs : List V} (e : Same H H') (h : SqT K H a xs) : SqT K H' a xs := by
  rcases h with (h | ⟨o, h⟩) | h
  · exact .inl (.inl (e _ _ h))
  · exact .inl (.inr ⟨o, e _ _ h⟩)
  · exact .inr h
theorem Same.old {H H1 : Hp} {q : Addr} {o : HO} (a : Same H H1) (h : H q = none) : Same H (upd H1 q o) := fun c u e => get_ne (ne_of_none e h) (a c u e)
theorem Same.but {H H1 : Hp} (a : Same H H1) (p : Addr) : But p H H1 := fun c u e _ => a c u e
/-- what the first n turns put in -/
def outs (f : Nat → Option V) (n : Nat) : List V := (List.range n).filterMap f
theorem outs_succ (f : Nat → Option V) (n : Nat) : outs f (n + 1) = outs f n ++ (f n).toList := by
  unfold outs
  rw [List.range_succ, List.filterMap_append]
  cases h : f n with
  | none => simp [h]
  | some y => simp [h]
theorem outs_len (f : Nat → Option V) : ∀ n, (outs f n).length ≤ n
  | 0 => Nat.le_refl _
  | n + 1 => by
    have := outs_len f n
    rw [outs_succ, List.length_append]
    cases f n with
    | none => simp; omega
    | some y => simp; omega
theorem outs_map (g : Nat → V) (n : Nat) : outs (fun i => some (g i)) n = (List.range n).map g := by
  unfold outs
  exact congrFun (List.filterMap_eq_map (f := g)) _
theorem outs_list {xs : List V} (h : V → V) : outs (fun i => (xs[i]?).map h) xs.length = xs.map h := by
  have z : ∀ n, n ≤ xs.length → outs (fun i => (xs[i]?).map h) n = (xs.take n).map h := by
    intro n
    induction n with
    | zero => intro _; rfl
    | succ n ih =>
      intro hn
      rw [outs_succ, ih (by omega), List.take_add_one, List.map_append]
      congr 1
      rw [List.getElem?_eq_getElem (by omega)]
      rfl
  rw [z _ (Nat.le_refl _), List.take_length]
theorem cat_ne {K : PySem.W.Frag} {H : Hp} {a b : Addr} {xs ys : List V} {Q : VK} (hx : SqT K H a xs) (hy : SqT K H b ys) (h1 : xs ≠ []) (h2 : ys ≠ []) (hz : xs.length + ys.length ≤ 1000)
    (q : ∀ p, H p = none → Q (.ref p) (upd H p (.tup (xs ++ ys)))) : rCatA K (.ref a) (.ref b) H Q :=
  ⟨a, b, xs, ys, rfl, rfl, hx, hy, Nat.le_trans hz (by decide), fun z => (h1 z).elim, fun _ z => (h2 z).elim, fun _ _ => q⟩
theorem sl_part {K : PySem.W.Frag} {H : Hp} {a : Addr} {xs : List V} {lo hi : Option Int} {Q : VK} (hx : SqT K H a xs) (hn : ¬ (HT.sIx xs.length 0 lo = 0 ∧ HT.sIx xs.length xs.length hi = xs.length))
    (q : ∀ p, H p = none → Q (.ref p) (upd H p (.tup (cutV xs lo hi)))) : rSlA K (.ref a) lo hi H Q := ⟨a, xs, rfl, hx, fun z => (hn z).elim, fun _ => q⟩
section
variable {g : TG} {tt : TT} {te : TE} {vs : List Nat} {σ : L2.St} {H1 : Hp} {D : Addr} {Qd : Hp → Prop} {K : PySem.W.Frag} {a : Addr} {xs : List V} {lo : Int} {n : Nat}
/-- the turn of a comprehension, for any R (what a kept element leads to) and N (what a test that fails leads to) -/
def LcTurn (g : TG) (tt : TT) (te : TE) (vs : List Nat) (σ : L2.St) (x : V) (H : Hp) (R : V → Hp → Prop) (N : Hp → Prop) : Prop :=
  g x (wipe σ vs) H fun σ2 H2 => wipe σ2 vs = wipe σ vs ∧ tt σ2 H2 fun b H3 => if b = true then te σ2 H3 R else N H3
theorem lc_step {f : Nat → Option V} {i : Nat} {x : V} {H : Hp} (hz : i < 16777216) (hD : H1 D = none) (hS : Same H1 H) (hI : H D = some (.lst (outs f i)))
    (hs : ∀ (R : V → Hp → Prop) (N : Hp → Prop), (∀ y H4, f i = some y → Same H H4 → R y H4) → (∀ H4, f i = none → Same H H4 → N H4) → LcTurn g tt te vs σ x H R N) :
    g x (wipe σ vs) H fun σ2 H2 => wipe σ2 vs = wipe σ vs ∧ tt σ2 H2 fun b H3 =>
      if b = true then te σ2 H3 fun y H4 => ∃ acc, H4 D = some (.lst acc) ∧ acc.length < sizeLine ∧ (Same H1 (upd H4 D (.lst (acc ++ [y]))) ∧ (upd H4 D (.lst (acc ++ [y]))) D = some (.lst (outs f (i + 1))))
      else (Same H1 H3 ∧ H3 D = some (.lst (outs f (i + 1)))) := by
  refine hs (fun y H4 => ∃ acc, H4 D = some (.lst acc) ∧ acc.length < sizeLine ∧ (Same H1 (upd H4 D (.lst (acc ++ [y]))) ∧ (upd H4 D (.lst (acc ++ [y]))) D = some (.lst (outs f (i + 1))))) (fun H3 => Same H1 H3 ∧ H3 D = some (.lst (outs f (i + 1)))) (fun y H4 e s => ?_) (fun H4 e s => ?_)
  · refine ⟨outs f i, s _ _ hI, ?_, Same.old (hS.trans s) hD, ?_⟩
    · have := outs_len f i
      rw [sizeLine_eq]
      omega
    · rw [upd_same, outs_succ, e]
      rfl
  · refine ⟨hS.trans s, ?_⟩
    rw [outs_succ, e]
    rw [s _ _ hI]
    simp
theorem lcT {f : Nat → Option V} (hx : SqT K H1 a xs) (hD : H1 D = none) (hz : xs.length < 16777216)
    (hs : ∀ i x H (R : V → Hp → Prop) (N : Hp → Prop), xs[i]? = some x → Same H1 H → (∀ y H4, f i = some y → Same H H4 → R y H4) → (∀ H4, f i = none → Same H H4 → N H4) → LcTurn g tt te vs σ x H R N)
    (hd : ∀ H, Same H1 H → H D = some (.lst (outs f xs.length)) → Qd H) :
    ∃ W : Nat → Nat → Hp → Prop, (∃ m, W 0 m (upd H1 D (.lst []))) ∧ ∀ i m H, W i m H →
      ((Itt K a).stop i H ∧ Qd H) ∨ ((Itt K a).go i H ∧ ∃ Nx : Hp → Prop, (∀ H', Nx H' → ∃ m', m' < m ∧ W (i + 1) m' H') ∧ ∀ x H', (Itt K a).yld i H x H' → g x (wipe σ vs) H' fun σ2 H2 => wipe σ2 vs = wipe σ vs ∧ tt σ2 H2 fun b H3 =>
        if b = true then te σ2 H3 fun y H4 => ∃ acc, H4 D = some (.lst acc) ∧ acc.length < sizeLine ∧ Nx (upd H4 D (.lst (acc ++ [y]))) else Nx H3) :=
  lc_tup (fun i H => Same H1 H ∧ H D = some (.lst (outs f i))) ⟨Same.old (Same.refl _) hD, upd_same⟩ (fun i H _ p => Same.seqT p.1 hx)
    (fun i x H hi p => lc_step (by have := (List.getElem?_eq_some_iff.mp hi).1; omega) hD p.1 p.2 fun R N r n => hs i x H R N hi p.1 r n) (fun H p => hd H p.1 p.2)
theorem lcL {f : Nat → Option V} (hx : SqL K H1 a xs) (hD : H1 D = none) (hz : xs.length < 16777216)
    (hs : ∀ i x H (R : V → Hp → Prop) (N : Hp → Prop), xs[i]? = some x → Same H1 H → (∀ y H4, f i = some y → Same H H4 → R y H4) → (∀ H4, f i = none → Same H H4 → N H4) → LcTurn g tt te vs σ x H R N)
    (hd : ∀ H, Same H1 H → H D = some (.lst (outs f xs.length)) → Qd H) :
    ∃ W : Nat → Nat → Hp → Prop, (∃ m, W 0 m (upd H1 D (.lst []))) ∧ ∀ i m H, W i m H →
      ((Itl K a).stop i H ∧ Qd H) ∨ ((Itl K a).go i H ∧ ∃ Nx : Hp → Prop, (∀ H', Nx H' → ∃ m', m' < m ∧ W (i + 1) m' H') ∧ ∀ x H', (Itl K a).yld i H x H' → g x (wipe σ vs) H' fun σ2 H2 => wipe σ2 vs = wipe σ vs ∧ tt σ2 H2 fun b H3 =>
        if b = true then te σ2 H3 fun y H4 => ∃ acc, H4 D = some (.lst acc) ∧ acc.length < sizeLine ∧ Nx (upd H4 D (.lst (acc ++ [y]))) else Nx H3) :=
  lc_list (fun i H => Same H1 H ∧ H D = some (.lst (outs f i))) ⟨Same.old (Same.refl _) hD, upd_same⟩ (fun i H _ p => p.1.seq hx)
    (fun i x H hi p => lc_step (by have := (List.getElem?_eq_some_iff.mp hi).1; omega) hD p.1 p.2 fun R N r n => hs i x H R N hi p.1 r n) (fun H p => hd H p.1 p.2)
theorem lcR {f : Nat → Option V} (hD : H1 D = none) (hz : n < 16777216)
    (hs : ∀ i H (R : V → Hp → Prop) (N : Hp → Prop), i < n → Same H1 H → (∀ y H4, f i = some y → Same H H4 → R y H4) → (∀ H4, f i = none → Same H H4 → N H4) → LcTurn g tt te vs σ (.int (lo + i)) H R N)
    (hd : ∀ H, Same H1 H → H D = some (.lst (outs f n)) → Qd H) :
    ∃ W : Nat → Nat → Hp → Prop, (∃ m, W 0 m (upd H1 D (.lst []))) ∧ ∀ i m H, W i m H →
      ((Itr lo n).stop i H ∧ Qd H) ∨ ((Itr lo n).go i H ∧ ∃ Nx : Hp → Prop, (∀ H', Nx H' → ∃ m', m' < m ∧ W (i + 1) m' H') ∧ ∀ x H', (Itr lo n).yld i H x H' → g x (wipe σ vs) H' fun σ2 H2 => wipe σ2 vs = wipe σ vs ∧ tt σ2 H2 fun b H3 =>
        if b = true then te σ2 H3 fun y H4 => ∃ acc, H4 D = some (.lst acc) ∧ acc.length < sizeLine ∧ Nx (upd H4 D (.lst (acc ++ [y]))) else Nx H3) :=
  lc_range (fun i H => Same H1 H ∧ H D = some (.lst (outs f i))) ⟨Same.old (Same.refl _) hD, upd_same⟩
    (fun i H hi p => lc_step (by omega) hD p.1 p.2 fun R N r n => hs i H R N hi p.1 r n) (fun H p => hd H p.1 p.2)
end
end Ev

namespace K71
open PySem L2
def top (i : Nat) : Stmt := PySem.Challenge.pw_evenrules_k71_whole_two_groups_and_one_a.main.body.getD i (.Pass ⟨0, 0, 0, 0⟩)
/-- what the top has left of names that the defs use -/
structure Tx (K : PySem.W.Frag) (mg : Str → Option Value) (C : Addr) : Prop where
  m_int : mg "int" = none
  m_bool : mg "bool" = none
  m_tuple : mg "tuple" = none
  m_list : mg "list" = none
  m_abs : mg "abs" = none
  m_len : mg "len" = none
  m_isinstance : mg "isinstance" = none
  m_all : mg "all" = none
  m_min : mg "min" = none
  m_range : mg "range" = none
  m_repr : mg "repr" = none
  g_FillRule : mg "FillRule" = some (.ref C)
  cl : Cls K C
  n_times : NoAttr K C "times"
  n_plus : NoAttr K C "plus"
  n_cut : NoAttr K C "cut_of"
  n_join : NoAttr K C "join_of"
  n_width : NoAttr K C "width"
  k_times : ∃ t, mg "MOST_TIMES" = some (.int 12 t)
  k_more : ∃ t, mg "MOST_MORE" = some (.int 12 t)
  k_cut : ∃ t, mg "MOST_CUT" = some (.int 5 t)
  k_join : ∃ t, mg "MOST_JOIN" = some (.int 6 t)
  k_size : ∃ t, mg "MOST_SIZE" = some (.int 1000000000000 t)
def fW (c j : Int) : Int := if j < c then c else j
/-- the attributes of a fill rule -/
def FS (t : Addr) (e c j : Int) : List (Str × V) := putF "width" (.int (fW c j)) (putF "join_of" (.int j) (putF "cut_of" (.int c) (putF "plus" (.int e) (putF "times" (.ref t) []))))
theorem fs_times {t : Addr} {e c j : Int} : (FS t e c j).lookup ("times" : Str) = some (.ref t) := by
  simp only [FS, lookup_putF]
  rfl
theorem fs_plus {t : Addr} {e c j : Int} : (FS t e c j).lookup ("plus" : Str) = some (.int e) := by
  simp only [FS, lookup_putF]
  rfl
theorem fs_cut {t : Addr} {e c j : Int} : (FS t e c j).lookup ("cut_of" : Str) = some (.int c) := by
  simp only [FS, lookup_putF]
  rfl
theorem fs_join {t : Addr} {e c j : Int} : (FS t e c j).lookup ("join_of" : Str) = some (.int j) := by
  simp only [FS, lookup_putF]
  rfl
/-- no other attribute -/
theorem fs_no {t : Addr} {e c j : Int} {m : Str} (h : (m == ("times" : Str) || m == ("plus" : Str) || m == ("cut_of" : Str) || m == ("join_of" : Str) || m == ("width" : Str)) = false) : (FS t e c j).lookup m = none := by
  simp only [Bool.or_eq_false_iff, beq_eq_false_iff_ne, ne_eq] at h
  obtain ⟨⟨⟨⟨h1, h2⟩, h3⟩, h4⟩, h5⟩ := h
  simp only [FS, lookup_putF, if_neg h1, if_neg h2, if_neg h3, if_neg h4, if_neg h5]
  rfl
/-- a fill rule stands at r -/
def Rl (C : Addr) (H : Hp) (r : Addr) (p q e c j : Int) : Prop := ∃ dx t, H r = some (.ins C dx (FS t e c j)) ∧ H t = some (.tup [.int p, .int q])
def Nums (p q e c j : Int) : Prop := (1 ≤ p ∧ p ≤ 12) ∧ (1 ≤ q ∧ q ≤ 12) ∧ (-12 ≤ e ∧ e ≤ 12) ∧ (1 ≤ c ∧ c ≤ 5) ∧ 2 ≤ j ∧ j ≤ 6
/-- the mirror: the least fill, and whether a rule is right for a size -/
def low (p q e M : Int) : Int := (p * M + e) / q
def nar (c j : Int) : Int := if c + 1 < j then c + 1 else j
def right (p q e c j M : Int) : Bool := decide (1 ≤ low p q e M) && decide (nar c j * low p q e M ≤ (nar c j - 1) * M + 1)
end K71

namespace K71
/-- what the law's own test says -/
def lawR (p q e c j M : Int) : Bool :=
  if low p q e M < 1 ∨ (c * M + 1) / (c + 1) < low p q e M then false else decide ((j * low p q e M - 1 + j - 2) / (j - 1) ≤ M)
theorem cut5 {c : Int} (h : 1 ≤ c ∧ c ≤ 5) : c = 1 ∨ c = 2 ∨ c = 3 ∨ c = 4 ∨ c = 5 := by omega
theorem join6 {j : Int} (h : 2 ≤ j ∧ j ≤ 6) : j = 2 ∨ j = 3 ∨ j = 4 ∨ j = 5 ∨ j = 6 := by omega
theorem bool_of {a b : Bool} (h : a = true ↔ b = true) : a = b := by
  cases a <;> cases b <;> simp_all
theorem right_iff {p q e c j M : Int} : right p q e c j M = true ↔ 1 ≤ low p q e M ∧ nar c j * low p q e M ≤ (nar c j - 1) * M + 1 := by
  unfold right
  simp
theorem lawR_iff {p q e c j M : Int} : lawR p q e c j M = true ↔ ¬ (low p q e M < 1 ∨ (c * M + 1) / (c + 1) < low p q e M) ∧ (j * low p q e M - 1 + j - 2) / (j - 1) ≤ M := by
  unfold lawR
  split <;> simp_all
theorem nar_or (c j : Int) : (nar c j = c + 1 ∧ c + 1 < j) ∨ (nar c j = j ∧ j ≤ c + 1) := by
  unfold nar
  split
  · exact Or.inl ⟨rfl, by assumption⟩
  · exact Or.inr ⟨rfl, by omega⟩
theorem law_right {p q e c j M : Int} (hc : 1 ≤ c ∧ c ≤ 5) (hj : 2 ≤ j ∧ j ≤ 6) (hM : 2 ≤ M) : lawR p q e c j M = right p q e c j M := by
  refine bool_of ?_
  rw [lawR_iff, right_iff]
  generalize low p q e M = l
  rcases nar_or c j with ⟨h, z⟩ | ⟨h, z⟩ <;> rw [h] <;> rcases cut5 hc with rfl | rfl | rfl | rfl | rfl <;> rcases join6 hj with rfl | rfl | rfl | rfl | rfl <;> omega
/-- a greater cut or joining than the one that decides -/
def idleC (c j b : Int) : Int := if c + 1 ≤ j then c else (if c + b < 5 then c + b else 5)
def idleJ (c j b : Int) : Int := if c + 1 ≤ j then (if j + b < 6 then j + b else 6) else j
theorem idle_ok {c j b : Int} (hc : 1 ≤ c ∧ c ≤ 5) (hj : 2 ≤ j ∧ j ≤ 6) (hb : 1 ≤ b) : (1 ≤ idleC c j b ∧ idleC c j b ≤ 5) ∧ (2 ≤ idleJ c j b ∧ idleJ c j b ≤ 6) ∧ nar (idleC c j b) (idleJ c j b) = nar c j := by
  unfold idleC idleJ nar
  refine ⟨⟨?_, ?_⟩, ⟨?_, ?_⟩, ?_⟩ <;> (repeat' split) <;> omega
theorem idle_right {p q e c j b M : Int} (hc : 1 ≤ c ∧ c ≤ 5) (hj : 2 ≤ j ∧ j ≤ 6) (hb : 1 ≤ b) : right p q e (idleC c j b) (idleJ c j b) M = right p q e c j M := by
  unfold right
  rw [(idle_ok hc hj hb).2.2]
theorem low_step {p q e M s : Int} (hq : 0 < q) : low p q e (M + q * s) = low p q e M + p * s := by
  unfold low
  have h : p * (M + q * s) + e = p * M + e + p * s * q := by
    rw [Int.mul_add, Int.mul_left_comm, Int.mul_comm q (p * s)]
    omega
  rw [h, Int.add_mul_ediv_right _ _ (by omega)]
theorem nar_range {c j : Int} (hc : 1 ≤ c ∧ c ≤ 5) (hj : 2 ≤ j ∧ j ≤ 6) : 2 ≤ nar c j ∧ nar c j ≤ 6 := by
  rcases nar_or c j with ⟨h, z⟩ | ⟨h, z⟩ <;> omega
theorem between {p q e c j M s : Int} (hq : 0 < q) (hc : 1 ≤ c ∧ c ≤ 5) (hj : 2 ≤ j ∧ j ≤ 6) (h0 : right p q e c j M = true) (h2 : right p q e c j (M + 2 * (q * s)) = true) : right p q e c j (M + 1 * (q * s)) = true := by
  rw [right_iff] at h0 h2 ⊢
  have e2 : M + 2 * (q * s) = M + q * (2 * s) := by
    rw [Int.mul_left_comm]
  have e1 : M + 1 * (q * s) = M + q * s := by omega
  rw [e2, low_step hq] at h2
  rw [e1, low_step hq]
  have e3 : p * (2 * s) = 2 * (p * s) := by rw [Int.mul_left_comm]
  have e4 : q * (2 * s) = 2 * (q * s) := by rw [Int.mul_left_comm]
  rw [e3, e4] at h2
  have hn := nar_range hc hj
  generalize low p q e M = l at *
  generalize p * s = u at *
  generalize q * s = v at *
  generalize nar c j = n at *
  obtain ⟨a0, a1⟩ := h0
  obtain ⟨b0, b1⟩ := h2
  refine ⟨by omega, ?_⟩
  have hc : n = 2 ∨ n = 3 ∨ n = 4 ∨ n = 5 ∨ n = 6 := by omega
  rcases hc with rfl | rfl | rfl | rfl | rfl <;> omega
theorem thin_right : ∀ i : Nat, i < 38 → right 2 3 0 1 3 (2 + (i : Int)) = decide (i = 0 ∨ i = 1 ∨ i = 2 ∨ i = 3 ∨ i = 5) := by decide +kernel
end K71

set_option hygiene false
local macro_rules | `(tactic| walk_at "ev hl") => `(tactic| (repeat (first | assumption | exact upd_same | refine Ev.get_new ?_ (by assumption) | refine Ev.get_ne (by assumption) ?_ | refine Ev.get_but (by assumption) (by walk_at "ev ne") ?_ | refine Ev.get_same (by assumption) ?_)))
local macro_rules | `(tactic| walk_at "ev fr") => `(tactic| (first | assumption | exact Ev.free_upd (by assumption) | exact Ev.free_upd (Ev.free_upd (by assumption)) | exact Ev.free_upd (Ev.free_upd (Ev.free_upd (by assumption))) | exact Ev.free_upd (Ev.free_upd (Ev.free_upd (Ev.free_upd (by assumption)))) | exact Ev.free_upd (Ev.free_upd (Ev.free_upd (Ev.free_upd (Ev.free_upd (by assumption))))) | exact Ev.free_upd (Ev.free_upd (Ev.free_upd (Ev.free_upd (Ev.free_upd (Ev.free_upd (by assumption)))))) | exact Ev.free_upd (Ev.free_upd (Ev.free_upd (Ev.free_upd (Ev.free_upd (Ev.free_upd (Ev.free_upd (by assumption))))))) | exact Ev.free_upd (Ev.free_upd (Ev.free_upd (Ev.free_upd (Ev.free_upd (Ev.free_upd (Ev.free_upd (Ev.free_upd (by assumption)))))))) | exact Ev.free_upd (Ev.free_upd (Ev.free_upd (Ev.free_upd (Ev.free_upd (Ev.free_upd (Ev.free_upd (Ev.free_upd (Ev.free_upd (by assumption)))))))))))
local macro_rules | `(tactic| walk_at "ev pen") => `(tactic| (first | assumption | exact Ev.Pen.new (by assumption) (by assumption) | exact Ev.Pen.new (Ev.Pen.new (by assumption) (by assumption)) (by assumption) | exact Ev.Pen.new (Ev.Pen.new (Ev.Pen.new (by assumption) (by assumption)) (by assumption)) (by assumption) | exact Ev.Pen.new (Ev.Pen.new (Ev.Pen.new (Ev.Pen.new (by assumption) (by assumption)) (by assumption)) (by assumption)) (by assumption) | exact Ev.Pen.new (Ev.Pen.new (Ev.Pen.new (Ev.Pen.new (Ev.Pen.new (by assumption) (by assumption)) (by assumption)) (by assumption)) (by assumption)) (by assumption) | exact Ev.Pen.new (Ev.Pen.new (Ev.Pen.new (Ev.Pen.new (Ev.Pen.new (Ev.Pen.new (by assumption) (by assumption)) (by assumption)) (by assumption)) (by assumption)) (by assumption)) (by assumption) | exact Ev.Pen.new (Ev.Pen.new (Ev.Pen.new (Ev.Pen.new (Ev.Pen.new (Ev.Pen.new (Ev.Pen.new (by assumption) (by assumption)) (by assumption)) (by assumption)) (by assumption)) (by assumption)) (by assumption)) (by assumption) | exact Ev.Pen.new (Ev.Pen.new (Ev.Pen.new (Ev.Pen.new (Ev.Pen.new (Ev.Pen.new (Ev.Pen.new (Ev.Pen.new (by assumption) (by assumption)) (by assumption)) (by assumption)) (by assumption)) (by assumption)) (by assumption)) (by assumption)) (by assumption) | exact Ev.Pen.new (Ev.Pen.new (Ev.Pen.new (Ev.Pen.new (Ev.Pen.new (Ev.Pen.new (Ev.Pen.new (Ev.Pen.new (Ev.Pen.new (by assumption) (by assumption)) (by assumption)) (by assumption)) (by assumption)) (by assumption)) (by assumption)) (by assumption)) (by assumption)) (by assumption) | exact Ev.Pen.new (Ev.Pen.new (Ev.Pen.new (Ev.Pen.new (Ev.Pen.new (Ev.Pen.new (Ev.Pen.new (Ev.Pen.new (Ev.Pen.new (Ev.Pen.new (by assumption) (by assumption)) (by assumption)) (by assumption)) (by assumption)) (by assumption)) (by assumption)) (by assumption)) (by assumption)) (by assumption)) (by assumption) | exact Ev.Pen.new (Ev.Pen.new (Ev.Pen.new (Ev.Pen.new (Ev.Pen.new (Ev.Pen.new (Ev.Pen.new (Ev.Pen.new (Ev.Pen.new (Ev.Pen.new (Ev.Pen.new (by assumption) (by assumption)) (by assumption)) (by assumption)) (by assumption)) (by assumption)) (by assumption)) (by assumption)) (by assumption)) (by assumption)) (by assumption)) (by assumption) | exact Ev.Pen.new (Ev.Pen.new (Ev.Pen.new (Ev.Pen.new (Ev.Pen.new (Ev.Pen.new (Ev.Pen.new (Ev.Pen.new (Ev.Pen.new (Ev.Pen.new (Ev.Pen.new (Ev.Pen.new (by assumption) (by assumption)) (by assumption)) (by assumption)) (by assumption)) (by assumption)) (by assumption)) (by assumption)) (by assumption)) (by assumption)) (by assumption)) (by assumption)) (by assumption)))
local macro_rules | `(tactic| walk_at "ev ne") => `(tactic| (first | assumption | exact Ev.Pen.ne (by assumption) (by walk_at "ev fr")))
local macro_rules | `(tactic| walk_at "ev but") => `(tactic| (repeat (first | assumption | exact Ev.But.refl _ _ | refine Ev.But.new ?_ (by assumption) | refine Ev.But.trans ?_ (by assumption) | refine Ev.But.set ?_)))
local macro_rules | `(tactic| walk_at "ev sz") => `(tactic| (rw [sizeLine_eq]; simp))
local macro_rules | `(tactic| walk_at "ev flen") => `(tactic| (show _ < 1000; refine Nat.lt_of_le_of_lt (?_ : _ ≤ 20) (by decide); repeat (first | exact Nat.zero_le _ | refine Ev.len_putF ?_)))
local macro_rules | `(tactic| walk_at "ev rd") => `(tactic| (repeat (first | refine ⟨_, rfl, ?_⟩ | refine ⟨_, _, rfl, rfl, ?_⟩ | refine Or.inl ⟨_, rfl, ?_⟩ | refine Or.inr ⟨_, rfl, ?_⟩ | refine ⟨_, _, _, _, rfl, rfl, SqL.of (by walk_at "ev hl"), (by rfl), ?_⟩ | refine ⟨_, _, _, _, rfl, rfl, SqT.of (by walk_at "ev hl"), (by rfl), ?_⟩ | refine ⟨_, _, rfl, Or.inl (SqL.of (by walk_at "ev hl")), ?_⟩ | refine ⟨_, _, rfl, Or.inr (SqT.of (by walk_at "ev hl")), ?_⟩ | refine ⟨_, _, _, _, rfl, rfl, (by walk_at "ev hl"), (by rfl), ?_⟩ | (refine ⟨Nat.zero_le _, fun _ hfr => ?_⟩; try (have := Ev.Pen.ne (by walk_at "ev pen") hfr)) | (refine ⟨(by walk_at "ev sz"), fun _ hfr => ?_⟩; try (have := Ev.Pen.ne (by walk_at "ev pen") hfr)) | refine ⟨(by show (0 : Int) < _; omega), ?_⟩ | refine ⟨(by show CMul _ _; unfold CMul; omega), ?_⟩ | refine ⟨(by show CPow _ _; unfold CPow; omega), ?_⟩ | refine ⟨(by show CDiv _ _; unfold CDiv; omega), ?_⟩ | refine ⟨⟨_, SqT.of (by walk_at "ev hl")⟩, ?_⟩ | refine ⟨⟨_, SqL.of (by walk_at "ev hl")⟩, ?_⟩ | refine ⟨rfl, ?_⟩ | refine iteT ?_ | refine iteF ?_ | refine ⟨_, _, _, _, _, rfl, .ty _, .base (.int _), kit_ty rfl, ?_⟩ | refine ⟨_, _, _, _, _, rfl, .ty _, .base (.tup (by walk_at "ev hl")), kit_ty rfl, ?_⟩ | refine ⟨_, _, _, _, _, rfl, .ty _, .base (.lst (by walk_at "ev hl")), kit_ty rfl, ?_⟩ | refine ⟨_, _, rfl, ?_⟩ | refine ⟨_, _, _, rfl, ?_⟩)))

namespace K71
open PySem L2

theorem sc_draw : FnScope ["_law_pen_here", "_law_many", "_law_digit", "_law_spot", "_law_cell", "_law_great", "_law_mixed"] ["_law_pen_here", "_law_many"] (C8.fnScope (top 27)) := C8.fnScope_by (by decide +kernel)
def spDraw : Sp := fun vs H Q _ => ∃ (p : Addr) (m n : Int), vs = [.ref p, .int m] ∧ Ev.Pen H p n ∧ n ≤ 100000 ∧ 0 < m ∧ m ≤ 10000000000000000000000000000000000000000000000000000000000000000000000 ∧
  ∀ (d : Int) (H' : Hp), 0 ≤ d → d < m → Ev.But p H H' → Ev.Pen H' p (n + 1) → Q (.int d) H'
section
variable {P : Program} {w : World} {K : PySem.W.Frag} {mg : Str → Option Value} {base : Heap} {C : Addr}
theorem ok_draw {f : Addr} {fd : FuncData} (F : Ev.Fn K "_law_draw" "_law_draw" (top 27) f fd) (T : Tx K mg C) : Ev.GOk P w K mg base (L2.CX P w) 1 f fd ["_law_pen_here", "_law_many"] spDraw := by
  refine Ev.gfn0 F sc_draw (fun vs H Q E h => ?_) (fun cdv A outer s H vs Q E hgd hr h => ?_)
  · obtain ⟨p, m, n, rfl, ⟨c, t, g, ns, hp, hc, t0, t1, g0, hcp, hl⟩, hn, m0, m1, k⟩ := h
    rfl
  · obtain ⟨p, m, n, rfl, ⟨c, t, g, ns, hp, hc, t0, t1, g0, hcp, hl⟩, hn, m0, m1, k⟩ := h
    have hu : _ + 64 < cLine := hr.units
    refine ⟨_, (pss_cons (ps_if (pt_cmpR op_gt (pe_ix ix_list (pv 0) pe_int (fun _ _ => rfl)) pe_int (nomark _))
  (pss_cons (ps_set (i := 2) sc_draw.nd rfl (.inl rfl) (pe_op op_mod (pe_callTy call_int1 (by rfl) T.m_int (by decide +kernel) (pa_cons (pe_ix ix_list (pv 0) pe_int (fun _ _ => rfl)) pa_nil)) (pv 1)))
  (pss_cons (ps_asg (pe_op op_fdivW (pe_callTy call_int1 (by rfl) T.m_int (by decide +kernel) (pa_cons (pe_ix ix_list (pv 0) pe_int (fun _ _ => rfl)) pa_nil)) (pv 1)) (pg_sub (pv 0) pe_int set_list))
  (pss_one (ps_ret (pv 2)))))
  pss_nil)
  (pss_cons (ps_set (i := 3) sc_draw.nd rfl (.inl rfl) (pe_ix ix_list (pv 0) pe_int (fun _ _ => rfl)))
  (pss_cons (ps_asg (pe_op op_add (pv 3) pe_int) (pg_sub (pv 0) pe_int set_list))
  (pss_cons (ps_set (i := 4) sc_draw.nd rfl (.inl rfl) (pe_op op_add (pe_op op_mul pe_int (pv 3)) pe_int))
  (pss_cons (ps_if (pt_cmpR (op_neD hu) (pe_ix ix_list (pv 0) pe_int (fun _ _ => rfl)) (pe_lst pa_nil) (nomark _))
  (pss_one (ps_set (i := 4) sc_draw.nd rfl (.inl rfl) (pe_ix ix_list (pe_ix ix_list (pv 0) pe_int (fun _ _ => rfl)) (pe_op op_mod (pe_callTy call_int1 (by rfl) T.m_int (by decide +kernel) (pa_cons (pv 3) pa_nil)) (pe_callB call_len_seq (by rfl) T.m_len (by decide +kernel) (pa_cons (pe_ix ix_list (pv 0) pe_int (fun _ _ => rfl)) pa_nil))) (fun _ _ => rfl))))
  pss_nil)
  (pss_cons (ps_if (pw_and (pt_cmpR op_lt (pv 3) (pe_callB call_len_seq (by rfl) T.m_len (by decide +kernel) (pa_cons (pe_ix ix_list (pv 0) pe_int (fun _ _ => rfl)) pa_nil)) (nomark _)) (pw_and1 (pt_cmpR op_ge (pe_callB call_abs (by rfl) T.m_abs (by decide +kernel) (pa_cons (pv 4) pa_nil)) (pe_op op_pow pe_int pe_int) (nomark _)))).pt
  (pss_cons (ps_set (i := 5) sc_draw.nd rfl (.inl rfl) (pe_op op_add (pe_op op_mul pe_int (pe_op op_sub (pe_callB call_abs (by rfl) T.m_abs (by decide +kernel) (pa_cons (pv 4) pa_nil)) (pe_op op_pow pe_int pe_int))) (pe_callTy call_int1 (by rfl) T.m_int (by decide +kernel) (pa_cons (pe_cmpR op_lt (pv 4) pe_int (nomark _)) pa_nil))))
  (pss_cons (ps_asg (pe_op op_fdivW (pe_callTy call_int1 (by rfl) T.m_int (by decide +kernel) (pa_cons (pv 5) pa_nil)) (pv 1)) (pg_sub (pv 0) pe_int set_list))
  (pss_one (ps_ret (pe_op op_mod (pe_callTy call_int1 (by rfl) T.m_int (by decide +kernel) (pa_cons (pv 5) pa_nil)) (pv 1))))))
  pss_nil)
  (pss_cons (ps_set (i := 6) sc_draw.nd rfl (.inl rfl) (pe_op op_mod (pe_callTy call_int1 (by rfl) T.m_int (by decide +kernel) (pa_cons (pe_op op_pow (pe_op op_add (pe_op op_add (pe_op op_mod (pe_callTy call_int1 (by rfl) T.m_int (by decide +kernel) (pa_cons (pv 4) pa_nil)) pe_int) (pe_op op_mul pe_int (pv 3))) pe_int) pe_int) pa_nil)) pe_int))
  (pss_cons (ps_set (i := 6) sc_draw.nd rfl (.inl rfl) (pe_op op_mod (pe_callTy call_int1 (by rfl) T.m_int (by decide +kernel) (pa_cons (pe_op op_pow (pe_op op_add (pe_op op_add (pe_op op_mul (pv 6) (pe_op op_add (pe_op op_mul pe_int (pv 3)) pe_int)) (pe_op op_mul (pe_op op_mul pe_int (pv 3)) (pv 3))) pe_int) pe_int) pa_nil)) pe_int))
  (pss_one (ps_ret (pe_op op_mod (pe_callTy call_int1 (by rfl) T.m_int (by decide +kernel) (pa_cons (pe_op op_fdiv (pv 6) pe_int) pa_nil)) (pv 1)))))))))))), ?_⟩
    have hw : ∀ z, CDivW z m := fun z => wide_div (b := 256) m0 (by omega) (by decide) (by decide)
    walk_at "ev rd"
    refine ite2 (fun hg => ?_) (fun hg => ?_)
    · walk_at "ev rd"
      refine ⟨hw _, ?_⟩
      walk_at "ev rd"
      exact k (g % m) _ (Int.emod_nonneg _ (by omega)) (Int.emod_lt_of_pos _ m0) (Ev.But.refl p H).set ⟨c, t, g / m, ns, upd_same, Ev.get_ne hcp hc, t0, by omega, Int.ediv_nonneg g0 (by omega), hcp, hl⟩
    · walk_at "ev rd"
      refine Ev.ne_ints (ns := ns) (ms := []) (SqL.of (by walk_at "ev hl")) (SqL.of (by walk_at "ev hl")) ?_
      walk_at "ev rd"
      have hlen : ((ns.map V.int).length : Int) = (ns.length : Int) := by rw [List.length_map]
      refine ite2 (fun h0 => ?_) (fun h0 => ?_)
      · have hne : 0 < ns.length := by
          cases ns with
          | nil => simp at h0
          | cons _ _ => simp
        walk_at "ev rd"
        obtain ⟨z, hz, hat⟩ := Ev.at_int (ns := ns) (i := t % ((ns.map V.int).length : Int)) (Int.emod_nonneg _ (by omega)) (by have := Int.emod_lt_of_pos t (show (0 : Int) < ((ns.map V.int).length : Int) by omega); omega)
        refine ⟨_, _, _, _, rfl, rfl, SqL.of (by walk_at "ev hl"), hat, ?_⟩
        walk_at "ev rd"
        refine ite2 (fun h1 => ?_) (fun h1 => ?_)
        · walk_at "ev rd"
          refine ite2 (fun h2 => ?_) (fun h2 => ?_)
          · walk_at "ev rd"
            refine ⟨hw _, ?_⟩
            walk_at "ev rd"
            exact k _ _ (Int.emod_nonneg _ (by omega)) (Int.emod_lt_of_pos _ m0) ((Ev.But.refl p H).set.new (by assumption)).set ⟨c, t + 1, _, ns, upd_same, (by walk_at "ev hl"), by omega, by omega, Int.ediv_nonneg (Ev.great_nn (of_decide_eq_true h2)) (by omega), hcp, hl⟩
          · walk_at "ev rd"
            refine ⟨Ev.pow3 (by omega) (by omega) t0 (by omega) (by decide) (by decide) (by decide) (by decide) (by decide) (by decide), ?_⟩
            walk_at "ev rd"
            exact k _ _ (Int.emod_nonneg _ (by omega)) (Int.emod_lt_of_pos _ m0) ((Ev.But.refl p H).set.new (by assumption)) ⟨c, t + 1, g, ns, (by walk_at "ev hl"), (by walk_at "ev hl"), by omega, by omega, g0, hcp, hl⟩
        · refine iteF ?_
          walk_at "ev rd"
          refine ⟨Ev.pow3 (by omega) (by omega) t0 (by omega) (by decide) (by decide) (by decide) (by decide) (by decide) (by decide), ?_⟩
          walk_at "ev rd"
          exact k _ _ (Int.emod_nonneg _ (by omega)) (Int.emod_lt_of_pos _ m0) ((Ev.But.refl p H).set.new (by assumption)) ⟨c, t + 1, g, ns, (by walk_at "ev hl"), (by walk_at "ev hl"), by omega, by omega, g0, hcp, hl⟩
      · walk_at "ev rd"
        refine ite2 (fun h1 => ?_) (fun h1 => ?_)
        · walk_at "ev rd"
          refine ite2 (fun h2 => ?_) (fun h2 => ?_)
          · walk_at "ev rd"
            refine ⟨hw _, ?_⟩
            walk_at "ev rd"
            exact k _ _ (Int.emod_nonneg _ (by omega)) (Int.emod_lt_of_pos _ m0) ((Ev.But.refl p H).set.new (by assumption)).set ⟨c, t + 1, _, ns, upd_same, (by walk_at "ev hl"), by omega, by omega, Int.ediv_nonneg (Ev.great_nn (of_decide_eq_true h2)) (by omega), hcp, hl⟩
          · walk_at "ev rd"
            refine ⟨Ev.pow3 (by omega) (by omega) t0 (by omega) (by decide) (by decide) (by decide) (by decide) (by decide) (by decide), ?_⟩
            walk_at "ev rd"
            exact k _ _ (Int.emod_nonneg _ (by omega)) (Int.emod_lt_of_pos _ m0) ((Ev.But.refl p H).set.new (by assumption)) ⟨c, t + 1, g, ns, (by walk_at "ev hl"), (by walk_at "ev hl"), by omega, by omega, g0, hcp, hl⟩
        · refine iteF ?_
          walk_at "ev rd"
          refine ⟨Ev.pow3 (by omega) (by omega) t0 (by omega) (by decide) (by decide) (by decide) (by decide) (by decide) (by decide), ?_⟩
          walk_at "ev rd"
          exact k _ _ (Int.emod_nonneg _ (by omega)) (Int.emod_lt_of_pos _ m0) ((Ev.But.refl p H).set.new (by assumption)) ⟨c, t + 1, g, ns, (by walk_at "ev hl"), (by walk_at "ev hl"), by omega, by omega, g0, hcp, hl⟩
end
end K71

namespace K71
open PySem L2

theorem sc_pen : FnScope ["_law_script"] ["_law_script"] (C8.fnScope (top 26)) := C8.fnScope_by (by decide +kernel)
def spPen (K : PySem.W.Frag) : Sp := fun vs H Q _ => ∃ (a : Addr) (ns : List Int), vs = [.ref a] ∧ SqL K H a (ns.map V.int) ∧ ns.length ≤ 63 ∧
  ∀ (p : Addr) (H' : Hp), Same H H' → H p = none → Ev.Pen H' p 0 → Q (.ref p) H'
section
variable {P : Program} {w : World} {K : PySem.W.Frag} {mg : Str → Option Value} {base : Heap} {C : Addr}
theorem ok_pen {f : Addr} {fd : FuncData} (F : Ev.Fn K "_law_pen" "_law_pen" (top 26) f fd) (T : Tx K mg C) : Ev.GOk P w K mg base (L2.CX P w) 1 f fd ["_law_script"] (spPen K) := by
  refine Ev.gfn0 F sc_pen (fun vs H Q E h => ?_) (fun cdv A outer s H vs Q E hgd hr h => ?_)
  · obtain ⟨a, ns, rfl, hS, hl, k⟩ := h
    rfl
  · obtain ⟨a, ns, rfl, hS, hl, k⟩ := h
    have hu : _ + 64 < cLine := hr.units
    refine ⟨_, (pss_one (ps_ret (pe_lst (pa_cons (pe_callTy call_list_of (by rfl) T.m_list (by decide +kernel) (pa_cons (pe_slice sl_list (pv 0) po_none (po_some pe_int)) pa_nil)) (pa_cons pe_int (pa_cons pe_int pa_nil)))))), ?_⟩
    obtain ⟨ms, e, hm, _⟩ := Ev.cut_ints ns none (some 63)
    walk_at "ev rd"
    refine ⟨_, _, rfl, hS, fun c nc => ?_⟩
    rw [e]
    refine ⟨_, _, rfl, Or.inl (SqL.of (by walk_at "ev hl")), fun l nl => ⟨(by walk_at "ev sz"), fun p np => ?_⟩⟩
    refine k p _ (fun b o h => by walk_at "ev hl") ?_ ⟨l, 0, 0, ms, upd_same, (by walk_at "ev hl"), by decide, by decide, by decide, ?_, by omega⟩
    · cases z : H p with
      | none => rfl
      | some o =>
        rw [Ev.get_new (Ev.get_new z nc) nl] at np
        cases np
    · intro z
      subst z
      rw [upd_same] at np
      cases np
end
end K71

namespace K71
open PySem L2

theorem sc_lesser : FnScope ["one", "other"] ["one", "other"] (C8.fnScope (top 10)) := C8.fnScope_by (by decide +kernel)
def spLesser : Sp := fun vs H Q _ => ∃ i j : Int, vs = [.int i, .int j] ∧ Q (.int (if i < j then i else j)) H
section
variable {P : Program} {w : World} {K : PySem.W.Frag} {mg : Str → Option Value} {base : Heap} {C : Addr}
theorem ok_lesser {f : Addr} {fd : FuncData} (F : Ev.Fn K "lesser" "lesser" (top 10) f fd) (T : Tx K mg C) : Ev.GOk P w K mg base (L2.CX P w) 1 f fd ["one", "other"] spLesser := by
  refine Ev.gfn0 F sc_lesser (fun vs H Q E h => ?_) (fun cdv A outer s H vs Q E hgd hr h => ?_)
  · obtain ⟨i, j, rfl, k⟩ := h
    rfl
  · obtain ⟨i, j, rfl, k⟩ := h
    have hu : _ + 64 < cLine := hr.units
    refine ⟨_, (pss_one (ps_ret (pe_ifExp (pt_cmpR op_lt (pv 0) (pv 1) (nomark _)) (pv 0) (pv 1)))), ?_⟩
    walk_at "ev rd"
    refine ite2 (fun h => ?_) (fun h => ?_)
    · walk_at "ev rd"
      rw [if_pos (of_decide_eq_true h)] at k
      exact k
    · walk_at "ev rd"
      rw [if_neg (fun z => h (decide_eq_true z))] at k
      exact k
end
end K71

namespace K71
open PySem L2

theorem sc_isint : FnScope ["value"] ["value"] (C8.fnScope (top 7)) := C8.fnScope_by (by decide +kernel)
def spIsInt : Sp := fun vs H Q _ => ∃ i : Int, vs = [.int i] ∧ Q (.bl true) H
section
variable {P : Program} {w : World} {K : PySem.W.Frag} {mg : Str → Option Value} {base : Heap} {C : Addr}
theorem ok_isint {f : Addr} {fd : FuncData} (F : Ev.Fn K "is_integer" "is_integer" (top 7) f fd) (T : Tx K mg C) : Ev.GOk P w K mg base (L2.CX P w) 1 f fd ["value"] spIsInt := by
  refine Ev.gfn0 F sc_isint (fun vs H Q E h => ?_) (fun cdv A outer s H vs Q E hgd hr h => ?_)
  · obtain ⟨i, rfl, k⟩ := h
    rfl
  · obtain ⟨i, rfl, k⟩ := h
    have hu : _ + 64 < cLine := hr.units
    refine ⟨_, (pss_one (ps_ret (pe_and (pe_callB call_isi (by rfl) T.m_isinstance (by decide +kernel) (pa_cons (pv 0) (pa_cons (pe_bltn (v := .ty "int") (u := .type "int") rfl T.m_int (by decide +kernel) rfl) pa_nil))) (pe_one (pe_not (pe_callB call_isi (by rfl) T.m_isinstance (by decide +kernel) (pa_cons (pv 0) (pa_cons (pe_bltn (v := .ty "bool") (u := .type "bool") rfl T.m_bool (by decide +kernel) rfl) pa_nil)))))))), ?_⟩
    walk_at "ev rd"
    exact k
end
end K71

namespace K71
open PySem L2

theorem sc_within : FnScope ["value", "least", "most"] ["value", "least", "most"] (C8.fnScope (top 8)) := C8.fnScope_by (by decide +kernel)
def spWithin : Sp := fun vs H Q _ => ∃ i a b : Int, vs = [.int i, .int a, .int b] ∧ Q (.bl (decide (a ≤ i ∧ i ≤ b))) H
section
variable {P : Program} {w : World} {K : PySem.W.Frag} {mg : Str → Option Value} {base : Heap} {C : Addr}
theorem ok_within {f : Addr} {fd : FuncData} (F : Ev.Fn K "is_within" "is_within" (top 8) f fd) (T : Tx K mg C) (c_isint : Ev.GC P w K mg base 1 "is_integer" spIsInt []) : Ev.GOk P w K mg base (L2.CX P w) 2 f fd ["value", "least", "most"] spWithin := by
  refine Ev.gfn0 F sc_within (fun vs H Q E h => ?_) (fun cdv A outer s H vs Q E hgd hr h => ?_)
  · obtain ⟨i, a, b, rfl, k⟩ := h
    rfl
  · obtain ⟨i, a, b, rfl, k⟩ := h
    have hu : _ + 64 < cLine := hr.units
    refine ⟨_, (pss_one (ps_ret (pe_and (Ev.pe_c c_isint hgd hr (by decide) (by rfl) (pa_cons (pv 0) pa_nil)) (pe_one (pe_chain op_le op_le (pv 1) (pv 0) (pv 2)))))), ?_⟩
    walk_at "ev rd"
    refine ite2 (fun h => ?_) (fun h => ?_)
    · walk_at "ev rd"
      have h1 := of_decide_eq_true h
      have e : decide (a ≤ i ∧ i ≤ b) = decide (i ≤ b) := by simp [h1]
      rw [e] at k
      exact k
    · have h1 : ¬ a ≤ i := fun z => h (decide_eq_true z)
      have e : decide (a ≤ i ∧ i ≤ b) = false := by simp [h1]
      rw [e] at k
      exact k
end
end K71

namespace K71
open PySem L2

theorem sc_istimes : FnScope ["value", "most", "each"] ["value", "most"] (C8.fnScope (top 13)) := C8.fnScope_by (by decide +kernel)
def spIsTimes : Sp := fun vs H Q _ => ∃ (t : Addr) (x y m : Int), vs = [.ref t, .int m] ∧ H t = some (.tup [.int x, .int y]) ∧ (1 ≤ x ∧ x ≤ m ∧ 1 ≤ y ∧ y ≤ m) ∧ ∀ H', Same H H' → Q (.bl true) H'
section
variable {P : Program} {w : World} {K : PySem.W.Frag} {mg : Str → Option Value} {base : Heap} {C : Addr}
theorem ok_istimes {f : Addr} {fd : FuncData} (F : Ev.Fn K "is_times" "is_times" (top 13) f fd) (T : Tx K mg C) (c_within : Ev.GC P w K mg base 2 "is_within" spWithin []) : Ev.GOk P w K mg base (L2.CX P w) 3 f fd ["value", "most"] spIsTimes := by
  refine Ev.gfn0 F sc_istimes (fun vs H Q E h => ?_) (fun cdv A outer s H vs Q E hgd hr h => ?_)
  · obtain ⟨t, x, y, m, rfl, ht, hb, k⟩ := h
    rfl
  · obtain ⟨t, x, y, m, rfl, ht, hb, k⟩ := h
    have hu : _ + 64 < cLine := hr.units
    refine ⟨_, (pss_one (ps_ret (pe_and (pe_callB call_isi (by rfl) T.m_isinstance (by decide +kernel) (pa_cons (pv 0) (pa_cons (pe_bltn (v := .ty "tuple") (u := .type "tuple") rfl T.m_tuple (by decide +kernel) rfl) pa_nil))) (pe_and (pe_cmpR op_eq (pe_callB call_len_seq (by rfl) T.m_len (by decide +kernel) (pa_cons (pv 0) pa_nil)) pe_int (nomark _)) (pe_one (pe_callB (cr_all rfl) (by rfl) T.m_all (by decide +kernel) (pa_cons (pe_lc (own := [("each", 2)]) rfl sc_istimes.nd (pi_tup (pv 0)) (blkOk_by (N := ["value", "most", "each"]) (sc := (C8.fnScope (top 13))) (by decide +kernel)) (fun _ _ _ _ _ => (pg_name (i := 2) sc_istimes.nd rfl (.inl rfl))) (fun _ _ _ _ _ => pts_nil) (fun _ _ _ _ _ => (Ev.pe_c c_within hgd hr (by decide) (by rfl) (pa_cons (pv 2) (pa_cons pe_int (pa_cons (pv 1) pa_nil)))))) pa_nil))))))), ?_⟩
    walk_at "ev rd"
    refine fun D hD => Ev.lcT (f := fun i => if i < 2 then some (.bl true) else none) (SqT.of ht) hD (by simp) (fun i z H1 R N hi hS hR hN => ?_) (fun H1 hS h1 => ?_)
    · have hi2 : i < 2 := by
        have := (List.getElem?_eq_some_iff.mp hi).1
        simpa using this
      obtain ⟨n, rfl, n1, n2⟩ : ∃ n : Int, z = .int n ∧ 1 ≤ n ∧ n ≤ m := by
        match i, hi2 with
        | 0, _ => exact ⟨x, (Option.some.inj hi).symm, by omega, by omega⟩
        | 1, _ => exact ⟨y, (Option.some.inj hi).symm, by omega, by omega⟩
      refine ⟨rfl, ?_⟩
      walk_at "ev rd"
      rw [decide_eq_true (show 1 ≤ n ∧ n ≤ m from ⟨n1, n2⟩)]
      exact hR _ _ (if_pos hi2) (Same.refl _)
    · refine ⟨D, [true, true], rfl, SqL.of h1, ?_⟩
      exact k _ hS
end
end K71

set_option hygiene false
local macro_rules | `(tactic| walk_at "ev hl") => `(tactic| (repeat (first | assumption | exact upd_same | refine Ev.get_new ?_ (by assumption) | refine Ev.get_ne (by assumption) ?_ | refine Ev.get_but (by assumption) (by walk_at "ev ne") ?_ | refine Ev.get_same (by assumption) ?_)))
local macro_rules | `(tactic| walk_at "ev fr") => `(tactic| (first | assumption | exact Ev.free_upd (by assumption) | exact Ev.free_upd (Ev.free_upd (by assumption)) | exact Ev.free_upd (Ev.free_upd (Ev.free_upd (by assumption))) | exact Ev.free_upd (Ev.free_upd (Ev.free_upd (Ev.free_upd (by assumption)))) | exact Ev.free_upd (Ev.free_upd (Ev.free_upd (Ev.free_upd (Ev.free_upd (by assumption))))) | exact Ev.free_upd (Ev.free_upd (Ev.free_upd (Ev.free_upd (Ev.free_upd (Ev.free_upd (by assumption)))))) | exact Ev.free_upd (Ev.free_upd (Ev.free_upd (Ev.free_upd (Ev.free_upd (Ev.free_upd (Ev.free_upd (by assumption))))))) | exact Ev.free_upd (Ev.free_upd (Ev.free_upd (Ev.free_upd (Ev.free_upd (Ev.free_upd (Ev.free_upd (Ev.free_upd (by assumption)))))))) | exact Ev.free_upd (Ev.free_upd (Ev.free_upd (Ev.free_upd (Ev.free_upd (Ev.free_upd (Ev.free_upd (Ev.free_upd (Ev.free_upd (by assumption)))))))))))
local macro_rules | `(tactic| walk_at "ev pen") => `(tactic| (first | assumption | exact Ev.Pen.new (by assumption) (by assumption) | exact Ev.Pen.new (Ev.Pen.new (by assumption) (by assumption)) (by assumption) | exact Ev.Pen.new (Ev.Pen.new (Ev.Pen.new (by assumption) (by assumption)) (by assumption)) (by assumption) | exact Ev.Pen.new (Ev.Pen.new (Ev.Pen.new (Ev.Pen.new (by assumption) (by assumption)) (by assumption)) (by assumption)) (by assumption) | exact Ev.Pen.new (Ev.Pen.new (Ev.Pen.new (Ev.Pen.new (Ev.Pen.new (by assumption) (by assumption)) (by assumption)) (by assumption)) (by assumption)) (by assumption) | exact Ev.Pen.new (Ev.Pen.new (Ev.Pen.new (Ev.Pen.new (Ev.Pen.new (Ev.Pen.new (by assumption) (by assumption)) (by assumption)) (by assumption)) (by assumption)) (by assumption)) (by assumption) | exact Ev.Pen.new (Ev.Pen.new (Ev.Pen.new (Ev.Pen.new (Ev.Pen.new (Ev.Pen.new (Ev.Pen.new (by assumption) (by assumption)) (by assumption)) (by assumption)) (by assumption)) (by assumption)) (by assumption)) (by assumption) | exact Ev.Pen.new (Ev.Pen.new (Ev.Pen.new (Ev.Pen.new (Ev.Pen.new (Ev.Pen.new (Ev.Pen.new (Ev.Pen.new (by assumption) (by assumption)) (by assumption)) (by assumption)) (by assumption)) (by assumption)) (by assumption)) (by assumption)) (by assumption) | exact Ev.Pen.new (Ev.Pen.new (Ev.Pen.new (Ev.Pen.new (Ev.Pen.new (Ev.Pen.new (Ev.Pen.new (Ev.Pen.new (Ev.Pen.new (by assumption) (by assumption)) (by assumption)) (by assumption)) (by assumption)) (by assumption)) (by assumption)) (by assumption)) (by assumption)) (by assumption) | exact Ev.Pen.new (Ev.Pen.new (Ev.Pen.new (Ev.Pen.new (Ev.Pen.new (Ev.Pen.new (Ev.Pen.new (Ev.Pen.new (Ev.Pen.new (Ev.Pen.new (by assumption) (by assumption)) (by assumption)) (by assumption)) (by assumption)) (by assumption)) (by assumption)) (by assumption)) (by assumption)) (by assumption)) (by assumption) | exact Ev.Pen.new (Ev.Pen.new (Ev.Pen.new (Ev.Pen.new (Ev.Pen.new (Ev.Pen.new (Ev.Pen.new (Ev.Pen.new (Ev.Pen.new (Ev.Pen.new (Ev.Pen.new (by assumption) (by assumption)) (by assumption)) (by assumption)) (by assumption)) (by assumption)) (by assumption)) (by assumption)) (by assumption)) (by assumption)) (by assumption)) (by assumption) | exact Ev.Pen.new (Ev.Pen.new (Ev.Pen.new (Ev.Pen.new (Ev.Pen.new (Ev.Pen.new (Ev.Pen.new (Ev.Pen.new (Ev.Pen.new (Ev.Pen.new (Ev.Pen.new (Ev.Pen.new (by assumption) (by assumption)) (by assumption)) (by assumption)) (by assumption)) (by assumption)) (by assumption)) (by assumption)) (by assumption)) (by assumption)) (by assumption)) (by assumption)) (by assumption)))
local macro_rules | `(tactic| walk_at "ev ne") => `(tactic| (first | assumption | exact Ev.Pen.ne (by assumption) (by walk_at "ev fr")))
local macro_rules | `(tactic| walk_at "ev but") => `(tactic| (repeat (first | assumption | exact Ev.But.refl _ _ | refine Ev.But.new ?_ (by assumption) | refine Ev.But.trans ?_ (by assumption) | refine Ev.But.set ?_)))
local macro_rules | `(tactic| walk_at "ev sz") => `(tactic| (rw [sizeLine_eq]; simp))
local macro_rules | `(tactic| walk_at "ev flen") => `(tactic| (show _ < 1000; refine Nat.lt_of_le_of_lt (?_ : _ ≤ 20) (by decide); repeat (first | exact Nat.zero_le _ | refine Ev.len_putF ?_)))
local macro_rules | `(tactic| walk_at "ev rd") => `(tactic| (repeat (first | refine ⟨_, rfl, ?_⟩ | refine ⟨_, _, rfl, rfl, ?_⟩ | refine Or.inl ⟨_, rfl, ?_⟩ | refine Or.inr ⟨_, rfl, ?_⟩ | refine ⟨_, _, _, _, rfl, rfl, SqL.of (by walk_at "ev hl"), (by rfl), ?_⟩ | refine ⟨_, _, _, _, rfl, rfl, SqT.of (by walk_at "ev hl"), (by rfl), ?_⟩ | refine ⟨_, _, rfl, Or.inl (SqL.of (by walk_at "ev hl")), ?_⟩ | refine ⟨_, _, rfl, Or.inr (SqT.of (by walk_at "ev hl")), ?_⟩ | refine ⟨_, _, _, _, rfl, rfl, (by walk_at "ev hl"), (by rfl), ?_⟩ | (refine ⟨Nat.zero_le _, fun _ hfr => ?_⟩; try (have := Ev.Pen.ne (by walk_at "ev pen") hfr)) | (refine ⟨(by walk_at "ev sz"), fun _ hfr => ?_⟩; try (have := Ev.Pen.ne (by walk_at "ev pen") hfr)) | refine ⟨(by show (0 : Int) < _; omega), ?_⟩ | refine ⟨(by show CMul _ _; unfold CMul; omega), ?_⟩ | refine ⟨(by show CPow _ _; unfold CPow; omega), ?_⟩ | refine ⟨(by show CDiv _ _; unfold CDiv; omega), ?_⟩ | refine ⟨⟨_, SqT.of (by walk_at "ev hl")⟩, ?_⟩ | refine ⟨⟨_, SqL.of (by walk_at "ev hl")⟩, ?_⟩ | refine ⟨rfl, ?_⟩ | refine iteT ?_ | refine iteF ?_ | refine ⟨_, _, _, _, _, rfl, .ty _, .base (.int _), kit_ty rfl, ?_⟩ | refine ⟨_, _, _, _, _, rfl, .ty _, .base (.tup (by walk_at "ev hl")), kit_ty rfl, ?_⟩ | refine ⟨_, _, _, _, _, rfl, .ty _, .base (.lst (by walk_at "ev hl")), kit_ty rfl, ?_⟩ | refine ⟨_, _, rfl, ?_⟩ | refine ⟨_, _, _, rfl, ?_⟩ | refine ⟨_, _, _, _, _, rfl, (by walk_at "ev hl"), T.cl, T.n_times, fs_times, ?_⟩ | refine ⟨_, _, _, _, _, rfl, (by walk_at "ev hl"), T.cl, T.n_plus, fs_plus, ?_⟩ | refine ⟨_, _, _, _, _, rfl, (by walk_at "ev hl"), T.cl, T.n_cut, fs_cut, ?_⟩ | refine ⟨_, _, _, _, _, rfl, (by walk_at "ev hl"), T.cl, T.n_join, fs_join, ?_⟩ | refine ⟨_, _, _, _, rfl, (by walk_at "ev hl"), T.cl, T.n_times, (by walk_at "ev flen"), ?_⟩ | refine ⟨_, _, _, _, rfl, (by walk_at "ev hl"), T.cl, T.n_plus, (by walk_at "ev flen"), ?_⟩ | refine ⟨_, _, _, _, rfl, (by walk_at "ev hl"), T.cl, T.n_cut, (by walk_at "ev flen"), ?_⟩ | refine ⟨_, _, _, _, rfl, (by walk_at "ev hl"), T.cl, T.n_join, (by walk_at "ev flen"), ?_⟩ | refine ⟨_, _, _, _, rfl, (by walk_at "ev hl"), T.cl, T.n_width, (by walk_at "ev flen"), ?_⟩ | refine ⟨_, _, _, rfl, (by walk_at "ev hl"), fs_no (by decide +kernel), ?_⟩)))

namespace K71
open PySem L2

theorem sc_needsize : FnScope ["value"] ["value"] (C8.fnScope (top 22)) := C8.fnScope_by (by decide +kernel)
def spNeed : Sp := fun vs H Q _ => ∃ i : Int, vs = [.int i] ∧ 2 ≤ i ∧ i ≤ 1000000000000 ∧ Q .non H
section
variable {P : Program} {w : World} {K : PySem.W.Frag} {mg : Str → Option Value} {base : Heap} {C : Addr}
theorem ok_needsize {f : Addr} {fd : FuncData} (F : Ev.Fn K "need_size" "need_size" (top 22) f fd) (T : Tx K mg C) (c_within : Ev.GC P w K mg base 2 "is_within" spWithin []) : Ev.GOk P w K mg base (L2.CX P w) 3 f fd ["value"] spNeed := by
  refine Ev.gfn0 F sc_needsize (fun vs H Q E h => ?_) (fun cdv A outer s H vs Q E hgd hr h => ?_)
  · obtain ⟨i, rfl, h1, h2, k⟩ := h
    rfl
  · obtain ⟨i, rfl, h1, h2, k⟩ := h
    have hu : _ + 64 < cLine := hr.units
    obtain ⟨t1, hk1⟩ := T.k_times
    obtain ⟨t2, hk2⟩ := T.k_more
    obtain ⟨t3, hk3⟩ := T.k_cut
    obtain ⟨t4, hk4⟩ := T.k_join
    obtain ⟨t5, hk5⟩ := T.k_size
    have e12 : (10 : Int) ^ Int.toNat 12 = 1000000000000 := by decide
    refine ⟨_, (pss_one (ps_if (pt_not (pt_val (Ev.pe_c c_within hgd hr (by decide) (by rfl) (pa_cons (pv 0) (pa_cons pe_int (pa_cons (pe_glob rfl hk5 Ev.rel_int) pa_nil))))))
  pss_never
  pss_nil)), ?_⟩
    walk_at "ev rd"
    rw [decide_eq_true (show 2 ≤ i ∧ i ≤ 1000000000000 from ⟨h1, h2⟩)]
    walk_at "ev rd"
    exact k
end
end K71

namespace K71
open PySem L2

theorem sc_init : FnScope ["self", "times", "plus", "cut_of", "join_of"] ["self", "times", "plus", "cut_of", "join_of"] (C8.fnScope (inClass (top 23) 0)) := C8.fnScope_by (by decide +kernel)
def spInit (C : Addr) : Sp := fun vs H Q _ => ∃ (x dx t : Addr) (p q e c j : Int), vs = [.ref x, .ref t, .int e, .int c, .int j] ∧ H x = some (.ins C dx []) ∧ H t = some (.tup [.int p, .int q]) ∧ Nums p q e c j ∧
  ∀ H', Ev.But x H H' → Rl C H' x p q e c j → Q .non H'
section
variable {P : Program} {w : World} {K : PySem.W.Frag} {mg : Str → Option Value} {base : Heap} {C : Addr}
theorem ok_init {f : Addr} {fd : FuncData} (F : Ev.Fn K "__init__" "FillRule.__init__" (inClass (top 23) 0) f fd) (T : Tx K mg C) (c_istimes : Ev.GC P w K mg base 3 "is_times" spIsTimes []) (c_within : Ev.GC P w K mg base 2 "is_within" spWithin []) : Ev.GOk P w K mg base (L2.CX P w) 4 f fd ["self", "times", "plus", "cut_of", "join_of"] (spInit C) := by
  refine Ev.gfn0 F sc_init (fun vs H Q E h => ?_) (fun cdv A outer s H vs Q E hgd hr h => ?_)
  · obtain ⟨x, dx, t, p, q, e, c, j, rfl, hx, ht, ⟨hp, hq, he, hc, hj⟩, k⟩ := h
    rfl
  · obtain ⟨x, dx, t, p, q, e, c, j, rfl, hx, ht, ⟨hp, hq, he, hc, hj⟩, k⟩ := h
    have hu : _ + 64 < cLine := hr.units
    obtain ⟨t1, hk1⟩ := T.k_times
    obtain ⟨t2, hk2⟩ := T.k_more
    obtain ⟨t3, hk3⟩ := T.k_cut
    obtain ⟨t4, hk4⟩ := T.k_join
    obtain ⟨t5, hk5⟩ := T.k_size
    have e12 : (10 : Int) ^ Int.toNat 12 = 1000000000000 := by decide
    refine ⟨_, (pss_cons (ps_if (pt_not (pt_val (Ev.pe_c c_istimes hgd hr (by decide) (by rfl) (pa_cons (pv 1) (pa_cons (pe_glob rfl hk1 Ev.rel_int) pa_nil)))))
  pss_never
  pss_nil)
  (pss_cons (ps_if (pt_not (pt_val (Ev.pe_c c_within hgd hr (by decide) (by rfl) (pa_cons (pv 2) (pa_cons (pe_un un_neg (pe_glob rfl hk2 Ev.rel_int)) (pa_cons (pe_glob rfl hk2 Ev.rel_int) pa_nil))))))
  pss_never
  pss_nil)
  (pss_cons (ps_if (pt_not (pt_val (Ev.pe_c c_within hgd hr (by decide) (by rfl) (pa_cons (pv 3) (pa_cons pe_int (pa_cons (pe_glob rfl hk3 Ev.rel_int) pa_nil))))))
  pss_never
  pss_nil)
  (pss_cons (ps_if (pt_not (pt_val (Ev.pe_c c_within hgd hr (by decide) (by rfl) (pa_cons (pv 4) (pa_cons pe_int (pa_cons (pe_glob rfl hk4 Ev.rel_int) pa_nil))))))
  pss_never
  pss_nil)
  (pss_cons (ps_fld (pv 0) (pv 1) rfl)
  (pss_cons (ps_fld (pv 0) (pv 2) rfl)
  (pss_cons (ps_fld (pv 0) (pv 3) rfl)
  (pss_cons (ps_fld (pv 0) (pv 4) rfl)
  (pss_one (ps_fld (pv 0) (pe_ifExp (pt_cmpR op_gt (pv 3) (pv 4) (nomark _)) (pv 3) (pv 4)) rfl)))))))))), ?_⟩
    walk_at "ev rd"
    refine ⟨t, p, q, 12, rfl, ht, ⟨hp.1, hp.2, hq.1, hq.2⟩, fun H1 s1 => ?_⟩
    have hx1 := s1 _ _ hx
    have ht1 := s1 _ _ ht
    have htx : t ≠ x := ne_of ht hx (by intro z; cases z)
    walk_at "ev rd"
    refine iteNS he ?_
    walk_at "ev rd"
    refine iteNS hc ?_
    walk_at "ev rd"
    refine iteNS hj ?_
    walk_at "ev rd"
    have fin : ∀ H', Ev.But x H1 H' → H' x = some (.ins C dx (FS t e c j)) → Q .non H' := fun H' b h => k H' ((Ev.Same.but s1 x).trans b) ⟨dx, t, h, b _ _ ht1 htx⟩
    refine ite2 (fun h => ?_) (fun h => ?_)
    · walk_at "ev rd"
      refine fin _ ((((((Ev.But.refl x H1).set).set).set).set).set) ?_
      rw [upd_same]
      unfold FS fW
      rw [if_pos (of_decide_eq_true h)]
    · walk_at "ev rd"
      refine fin _ ((((((Ev.But.refl x H1).set).set).set).set).set) ?_
      rw [upd_same]
      unfold FS fW
      rw [if_neg (fun z => h (decide_eq_true z))]
end
end K71

namespace K71
open PySem L2

theorem sc_fillat : FnScope ["self", "most"] ["self", "most"] (C8.fnScope (inClass (top 23) 2)) := C8.fnScope_by (by decide +kernel)
def spFillAt (C : Addr) : Sp := fun vs H Q _ => ∃ (x : Addr) (p q e c j M : Int), vs = [.ref x, .int M] ∧ Rl C H x p q e c j ∧ (Nums p q e c j ∧ 2 ≤ M ∧ M ≤ 1000000000000) ∧ Q (.int (low p q e M)) H
section
variable {P : Program} {w : World} {K : PySem.W.Frag} {mg : Str → Option Value} {base : Heap} {C : Addr}
theorem ok_fillat {f : Addr} {fd : FuncData} (F : Ev.Fn K "fill_at" "FillRule.fill_at" (inClass (top 23) 2) f fd) (T : Tx K mg C) : Ev.GOk P w K mg base (L2.CX P w) 1 f fd ["self", "most"] (spFillAt C) := by
  refine Ev.gfn0 F sc_fillat (fun vs H Q E h => ?_) (fun cdv A outer s H vs Q E hgd hr h => ?_)
  · obtain ⟨x, p, q, e, c, j, M, rfl, ⟨dx, t, hx, ht⟩, hn, k⟩ := h
    rfl
  · obtain ⟨x, p, q, e, c, j, M, rfl, ⟨dx, t, hx, ht⟩, hn, k⟩ := h
    have hu : _ + 64 < cLine := hr.units
    obtain ⟨t1, hk1⟩ := T.k_times
    obtain ⟨t2, hk2⟩ := T.k_more
    obtain ⟨t3, hk3⟩ := T.k_cut
    obtain ⟨t4, hk4⟩ := T.k_join
    obtain ⟨t5, hk5⟩ := T.k_size
    have e12 : (10 : Int) ^ Int.toNat 12 = 1000000000000 := by decide
    refine ⟨_, (pss_one (ps_ret (pe_op op_fdiv (pe_op op_add (pe_op op_mul (pe_ix ix_tup (pe_fld (pv 0) rfl) pe_int (fun _ _ => rfl)) (pv 1)) (pe_fld (pv 0) rfl)) (pe_ix ix_tup (pe_fld (pv 0) rfl) pe_int (fun _ _ => rfl))))), ?_⟩
    obtain ⟨⟨hp, hq, he, hc, hj⟩, m1, m2⟩ := hn
    walk_at "ev rd"
    exact k
end
end K71

namespace K71
open PySem L2

theorem sc_leastfill : FnScope ["self", "most"] ["self", "most"] (C8.fnScope (inClass (top 23) 3)) := C8.fnScope_by (by decide +kernel)

section
variable {P : Program} {w : World} {K : PySem.W.Frag} {mg : Str → Option Value} {base : Heap} {C : Addr}
theorem ok_leastfill {f : Addr} {fd : FuncData} (F : Ev.Fn K "least_fill" "FillRule.least_fill" (inClass (top 23) 3) f fd) (T : Tx K mg C) (c_needsize : Ev.GC P w K mg base 3 "need_size" spNeed []) (c_fillat : Ev.GM P w K mg base 1 C "fill_at" (spFillAt C) []) : Ev.GOk P w K mg base (L2.CX P w) 4 f fd ["self", "most"] (spFillAt C) := by
  refine Ev.gfn0 F sc_leastfill (fun vs H Q E h => ?_) (fun cdv A outer s H vs Q E hgd hr h => ?_)
  · obtain ⟨x, p, q, e, c, j, M, rfl, ⟨dx, t, hx, ht⟩, hn, k⟩ := h
    rfl
  · obtain ⟨x, p, q, e, c, j, M, rfl, ⟨dx, t, hx, ht⟩, hn, k⟩ := h
    have hu : _ + 64 < cLine := hr.units
    obtain ⟨t1, hk1⟩ := T.k_times
    obtain ⟨t2, hk2⟩ := T.k_more
    obtain ⟨t3, hk3⟩ := T.k_cut
    obtain ⟨t4, hk4⟩ := T.k_join
    obtain ⟨t5, hk5⟩ := T.k_size
    have e12 : (10 : Int) ^ Int.toNat 12 = 1000000000000 := by decide
    refine ⟨_, (pss_cons (ps_expr (Ev.pe_c c_needsize hgd hr (by decide) (by rfl) (pa_cons (pv 1) pa_nil)))
  (pss_one (ps_ret (Ev.pe_m c_fillat hgd hr (by decide) (pv 0) (pa_cons (pv 1) pa_nil))))), ?_⟩
    have h2 := hn.2
    walk_at "ev rd"
    refine ⟨h2.1, h2.2, ?_⟩
    walk_at "ev rd"
    refine ⟨x, p, q, e, c, j, M, rfl, ⟨dx, t, hx, ht⟩, hn, ?_⟩
    exact k
end
end K71

namespace K71
open PySem L2

theorem sc_narrow : FnScope ["self"] ["self"] (C8.fnScope (inClass (top 23) 4)) := C8.fnScope_by (by decide +kernel)
def spNarrow (C : Addr) : Sp := fun vs H Q _ => ∃ (x : Addr) (p q e c j : Int), vs = [.ref x] ∧ Rl C H x p q e c j ∧ Q (.int (nar c j)) H
section
variable {P : Program} {w : World} {K : PySem.W.Frag} {mg : Str → Option Value} {base : Heap} {C : Addr}
theorem ok_narrow {f : Addr} {fd : FuncData} (F : Ev.Fn K "narrow" "FillRule.narrow" (inClass (top 23) 4) f fd) (T : Tx K mg C) (c_lesser : Ev.GC P w K mg base 1 "lesser" spLesser []) : Ev.GOk P w K mg base (L2.CX P w) 2 f fd ["self"] (spNarrow C) := by
  refine Ev.gfn0 F sc_narrow (fun vs H Q E h => ?_) (fun cdv A outer s H vs Q E hgd hr h => ?_)
  · obtain ⟨x, p, q, e, c, j, rfl, ⟨dx, t, hx, ht⟩, k⟩ := h
    rfl
  · obtain ⟨x, p, q, e, c, j, rfl, ⟨dx, t, hx, ht⟩, k⟩ := h
    have hu : _ + 64 < cLine := hr.units
    obtain ⟨t1, hk1⟩ := T.k_times
    obtain ⟨t2, hk2⟩ := T.k_more
    obtain ⟨t3, hk3⟩ := T.k_cut
    obtain ⟨t4, hk4⟩ := T.k_join
    obtain ⟨t5, hk5⟩ := T.k_size
    have e12 : (10 : Int) ^ Int.toNat 12 = 1000000000000 := by decide
    refine ⟨_, (pss_one (ps_ret (Ev.pe_c c_lesser hgd hr (by decide) (by rfl) (pa_cons (pe_op op_add (pe_fld (pv 0) rfl) pe_int) (pa_cons (pe_fld (pv 0) rfl) pa_nil))))), ?_⟩
    walk_at "ev rd"
    exact k
end
end K71

namespace K71
open PySem L2

theorem sc_isright : FnScope ["self", "most", "fill", "many"] ["self", "most"] (C8.fnScope (inClass (top 23) 6)) := C8.fnScope_by (by decide +kernel)
def spIsRight (C : Addr) : Sp := fun vs H Q _ => ∃ (x : Addr) (p q e c j M : Int), vs = [.ref x, .int M] ∧ Rl C H x p q e c j ∧ (Nums p q e c j ∧ 2 ≤ M ∧ M ≤ 1000000000000) ∧ Q (.bl (right p q e c j M)) H
section
variable {P : Program} {w : World} {K : PySem.W.Frag} {mg : Str → Option Value} {base : Heap} {C : Addr}
theorem ok_isright {f : Addr} {fd : FuncData} (F : Ev.Fn K "is_right" "FillRule.is_right" (inClass (top 23) 6) f fd) (T : Tx K mg C) (c_fillat : Ev.GM P w K mg base 1 C "fill_at" (spFillAt C) []) (c_narrow : Ev.GM P w K mg base 2 C "narrow" (spNarrow C) []) : Ev.GOk P w K mg base (L2.CX P w) 3 f fd ["self", "most"] (spIsRight C) := by
  refine Ev.gfn0 F sc_isright (fun vs H Q E h => ?_) (fun cdv A outer s H vs Q E hgd hr h => ?_)
  · obtain ⟨x, p, q, e, c, j, M, rfl, ⟨dx, t, hx, ht⟩, hn, k⟩ := h
    rfl
  · obtain ⟨x, p, q, e, c, j, M, rfl, ⟨dx, t, hx, ht⟩, hn, k⟩ := h
    have hu : _ + 64 < cLine := hr.units
    obtain ⟨t1, hk1⟩ := T.k_times
    obtain ⟨t2, hk2⟩ := T.k_more
    obtain ⟨t3, hk3⟩ := T.k_cut
    obtain ⟨t4, hk4⟩ := T.k_join
    obtain ⟨t5, hk5⟩ := T.k_size
    have e12 : (10 : Int) ^ Int.toNat 12 = 1000000000000 := by decide
    refine ⟨_, (pss_cons (ps_par (i := 2) (j := 3) rfl sc_isright.nd rfl rfl (by decide) rfl rfl (pa_cons (Ev.pe_m c_fillat hgd hr (by decide) (pv 0) (pa_cons (pv 1) pa_nil)) (pa_cons (Ev.pe_m0 c_narrow hgd hr (by decide) (pv 0)) pa_nil)) (by rfl))
  (pss_one (ps_ret (pe_and (pe_cmpR op_ge (pv 2) pe_int (nomark _)) (pe_one (pe_cmpR op_le (pe_op op_mul (pv 3) (pv 2)) (pe_op op_add (pe_op op_mul (pe_op op_sub (pv 3) pe_int) (pv 1)) pe_int) (nomark _))))))), ?_⟩
    walk_at "ev rd"
    refine ⟨x, p, q, e, c, j, M, rfl, ⟨dx, t, hx, ht⟩, hn, ?_⟩
    walk_at "ev rd"
    refine ⟨x, p, q, e, c, j, rfl, ⟨dx, t, hx, ht⟩, ?_⟩
    obtain ⟨⟨hp, hq, he, hc, hj⟩, m1, m2⟩ := hn
    have hnr := nar_range hc hj
    walk_at "ev rd"
    refine ite2 (fun h => ?_) (fun h => ?_)
    · walk_at "ev rd"
      unfold right at k
      rw [h, Bool.true_and] at k
      exact k
    · have h' : decide (1 ≤ low p q e M) = false := by simpa using h
      unfold right at k
      rw [h', Bool.false_and] at k
      exact k
end
end K71

namespace K71
open PySem L2

theorem sc_fits : FnScope ["self", "most"] ["self", "most"] (C8.fnScope (inClass (top 23) 7)) := C8.fnScope_by (by decide +kernel)

section
variable {P : Program} {w : World} {K : PySem.W.Frag} {mg : Str → Option Value} {base : Heap} {C : Addr}
theorem ok_fits {f : Addr} {fd : FuncData} (F : Ev.Fn K "fits" "FillRule.fits" (inClass (top 23) 7) f fd) (T : Tx K mg C) (c_needsize : Ev.GC P w K mg base 3 "need_size" spNeed []) (c_isright : Ev.GM P w K mg base 3 C "is_right" (spIsRight C) []) : Ev.GOk P w K mg base (L2.CX P w) 4 f fd ["self", "most"] (spIsRight C) := by
  refine Ev.gfn0 F sc_fits (fun vs H Q E h => ?_) (fun cdv A outer s H vs Q E hgd hr h => ?_)
  · obtain ⟨x, p, q, e, c, j, M, rfl, ⟨dx, t, hx, ht⟩, hn, k⟩ := h
    rfl
  · obtain ⟨x, p, q, e, c, j, M, rfl, ⟨dx, t, hx, ht⟩, hn, k⟩ := h
    have hu : _ + 64 < cLine := hr.units
    obtain ⟨t1, hk1⟩ := T.k_times
    obtain ⟨t2, hk2⟩ := T.k_more
    obtain ⟨t3, hk3⟩ := T.k_cut
    obtain ⟨t4, hk4⟩ := T.k_join
    obtain ⟨t5, hk5⟩ := T.k_size
    have e12 : (10 : Int) ^ Int.toNat 12 = 1000000000000 := by decide
    refine ⟨_, (pss_cons (ps_expr (Ev.pe_c c_needsize hgd hr (by decide) (by rfl) (pa_cons (pv 1) pa_nil)))
  (pss_one (ps_ret (Ev.pe_m c_isright hgd hr (by decide) (pv 0) (pa_cons (pv 1) pa_nil))))), ?_⟩
    have h2 := hn.2
    walk_at "ev rd"
    refine ⟨h2.1, h2.2, ?_⟩
    walk_at "ev rd"
    refine ⟨x, p, q, e, c, j, M, rfl, ⟨dx, t, hx, ht⟩, hn, ?_⟩
    exact k
end
end K71

namespace K71
open PySem L2

theorem sc_numbers : FnScope ["_law_pen_here", "_law_kind", "_law_pair", "_law_extra"] ["_law_pen_here"] (C8.fnScope (top 29)) := C8.fnScope_by (by decide +kernel)
def spNumbers : Sp := fun vs H Q _ => ∃ (p : Addr) (n : Int), vs = [.ref p] ∧ Ev.Pen H p n ∧ n ≤ 90000 ∧
  ∀ (t : Addr) (H' : Hp) (a b e c j : Int), H t = none → Ev.But p H H' → Ev.Pen H' p (n + 7) → H' t = some (.tup [.int a, .int b, .int e, .int c, .int j]) → Nums a b e c j → t ≠ p → Q (.ref t) H'
section
variable {P : Program} {w : World} {K : PySem.W.Frag} {mg : Str → Option Value} {base : Heap} {C : Addr}
theorem ok_numbers {f : Addr} {fd : FuncData} (F : Ev.Fn K "_law_numbers" "_law_numbers" (top 29) f fd) (T : Tx K mg C) (c_draw : Ev.GC P w K mg base 1 "_law_draw" spDraw []) : Ev.GOk P w K mg base (L2.CX P w) 2 f fd ["_law_pen_here"] spNumbers := by
  refine Ev.gfn0 F sc_numbers (fun vs H Q E h => ?_) (fun cdv A outer s H vs Q E hgd hr h => ?_)
  · obtain ⟨p, n, rfl, hp, hn, k⟩ := h
    rfl
  · obtain ⟨p, n, rfl, hp, hn, k⟩ := h
    have hu : _ + 64 < cLine := hr.units
    obtain ⟨t1, hk1⟩ := T.k_times
    obtain ⟨t2, hk2⟩ := T.k_more
    obtain ⟨t3, hk3⟩ := T.k_cut
    obtain ⟨t4, hk4⟩ := T.k_join
    obtain ⟨t5, hk5⟩ := T.k_size
    have e12 : (10 : Int) ^ Int.toNat 12 = 1000000000000 := by decide
    refine ⟨_, (pss_cons (ps_set (i := 1) sc_numbers.nd rfl (.inl rfl) (Ev.pe_c c_draw hgd hr (by decide) (by rfl) (pa_cons (pv 0) (pa_cons pe_int pa_nil))))
  (pss_cons (ps_set (i := 2) sc_numbers.nd rfl (.inl rfl) (pe_ix ix_list (pe_lst (pa_cons (pe_tup (pa_cons pe_int (pa_cons pe_int pa_nil))) (pa_cons (pe_tup (pa_cons pe_int (pa_cons pe_int pa_nil))) (pa_cons (pe_tup (pa_cons pe_int (pa_cons pe_int pa_nil))) (pa_cons (pe_tup (pa_cons pe_int (pa_cons pe_int pa_nil))) (pa_cons (pe_tup (pa_cons pe_int (pa_cons pe_int pa_nil))) pa_nil)))))) (pv 1) (fun _ _ => rfl)))
  (pss_cons (ps_if (pt_cmpR op_gt (pv 1) pe_int (nomark _))
  (pss_one (ps_set (i := 2) sc_numbers.nd rfl (.inl rfl) (pe_tup (pa_cons (pe_op op_add pe_int (Ev.pe_c c_draw hgd hr (by decide) (by rfl) (pa_cons (pv 0) (pa_cons pe_int pa_nil)))) (pa_cons (pe_op op_add pe_int (Ev.pe_c c_draw hgd hr (by decide) (by rfl) (pa_cons (pv 0) (pa_cons pe_int pa_nil)))) pa_nil)))))
  pss_nil)
  (pss_cons (ps_set (i := 3) sc_numbers.nd rfl (.inl rfl) (pe_ifExp (pt_cmpR op_eq (Ev.pe_c c_draw hgd hr (by decide) (by rfl) (pa_cons (pv 0) (pa_cons pe_int pa_nil))) pe_int (nomark _)) (pe_op op_sub (Ev.pe_c c_draw hgd hr (by decide) (by rfl) (pa_cons (pv 0) (pa_cons pe_int pa_nil))) pe_int) pe_int))
  (pss_one (ps_ret (pe_tup (pa_cons (pe_ix ix_tup (pv 2) pe_int (fun _ _ => rfl)) (pa_cons (pe_ix ix_tup (pv 2) pe_int (fun _ _ => rfl)) (pa_cons (pv 3) (pa_cons (pe_op op_add pe_int (Ev.pe_c c_draw hgd hr (by decide) (by rfl) (pa_cons (pv 0) (pa_cons pe_int pa_nil)))) (pa_cons (pe_op op_add pe_int (Ev.pe_c c_draw hgd hr (by decide) (by rfl) (pa_cons (pv 0) (pa_cons pe_int pa_nil)))) pa_nil)))))))))))), ?_⟩
    walk_at "ev rd"
    refine ⟨_, _, _, rfl, (by walk_at "ev pen"), (by omega), (by omega), (by omega), fun d1 H1 d10 d11 b1 p1 => ?_⟩
    have hd : d1 = 0 ∨ d1 = 1 ∨ d1 = 2 ∨ 2 < d1 := by omega
    rcases hd with rfl | rfl | rfl | hd
    · walk_at "ev rd"
      refine ⟨_, _, _, rfl, (by walk_at "ev pen"), (by omega), (by omega), (by omega), fun d2 H2 d20 d21 b2 p2 => ?_⟩
      walk_at "ev rd"
      refine ite2 (fun h => ?_) (fun h => ?_)
      · walk_at "ev rd"
        refine ⟨_, _, _, rfl, (by walk_at "ev pen"), (by omega), (by omega), (by omega), fun d3 H3 d30 d31 b3 p3 => ?_⟩
        walk_at "ev rd"
        refine ⟨_, _, _, rfl, (by walk_at "ev pen"), (by omega), (by omega), (by omega), fun d4 H4 d40 d41 b4 p4 => ?_⟩
        walk_at "ev rd"
        refine ⟨_, _, _, rfl, (by walk_at "ev pen"), (by omega), (by omega), (by omega), fun d5 H5 d50 d51 b5 p5 => ?_⟩
        walk_at "ev rd"
        exact k _ _ _ _ _ _ _ (Ev.But.free (H1 := H5) (by walk_at "ev but") (by assumption) (by assumption)) (by walk_at "ev but") (Ev.Pen.mono (by walk_at "ev pen") (by omega)) upd_same (by refine ⟨⟨?_, ?_⟩, ⟨?_, ?_⟩, ⟨?_, ?_⟩, ⟨?_, ?_⟩, ?_, ?_⟩ <;> omega) (by assumption)
      · walk_at "ev rd"
        refine ⟨_, _, _, rfl, (by walk_at "ev pen"), (by omega), (by omega), (by omega), fun d4 H4 d40 d41 b4 p4 => ?_⟩
        walk_at "ev rd"
        refine ⟨_, _, _, rfl, (by walk_at "ev pen"), (by omega), (by omega), (by omega), fun d5 H5 d50 d51 b5 p5 => ?_⟩
        walk_at "ev rd"
        exact k _ _ _ _ _ _ _ (Ev.But.free (H1 := H5) (by walk_at "ev but") (by assumption) (by assumption)) (by walk_at "ev but") (Ev.Pen.mono (by walk_at "ev pen") (by omega)) upd_same (by refine ⟨⟨?_, ?_⟩, ⟨?_, ?_⟩, ⟨?_, ?_⟩, ⟨?_, ?_⟩, ?_, ?_⟩ <;> omega) (by assumption)
    · walk_at "ev rd"
      refine ⟨_, _, _, rfl, (by walk_at "ev pen"), (by omega), (by omega), (by omega), fun d2 H2 d20 d21 b2 p2 => ?_⟩
      walk_at "ev rd"
      refine ite2 (fun h => ?_) (fun h => ?_)
      · walk_at "ev rd"
        refine ⟨_, _, _, rfl, (by walk_at "ev pen"), (by omega), (by omega), (by omega), fun d3 H3 d30 d31 b3 p3 => ?_⟩
        walk_at "ev rd"
        refine ⟨_, _, _, rfl, (by walk_at "ev pen"), (by omega), (by omega), (by omega), fun d4 H4 d40 d41 b4 p4 => ?_⟩
        walk_at "ev rd"
        refine ⟨_, _, _, rfl, (by walk_at "ev pen"), (by omega), (by omega), (by omega), fun d5 H5 d50 d51 b5 p5 => ?_⟩
        walk_at "ev rd"
        exact k _ _ _ _ _ _ _ (Ev.But.free (H1 := H5) (by walk_at "ev but") (by assumption) (by assumption)) (by walk_at "ev but") (Ev.Pen.mono (by walk_at "ev pen") (by omega)) upd_same (by refine ⟨⟨?_, ?_⟩, ⟨?_, ?_⟩, ⟨?_, ?_⟩, ⟨?_, ?_⟩, ?_, ?_⟩ <;> omega) (by assumption)
      · walk_at "ev rd"
        refine ⟨_, _, _, rfl, (by walk_at "ev pen"), (by omega), (by omega), (by omega), fun d4 H4 d40 d41 b4 p4 => ?_⟩
        walk_at "ev rd"
        refine ⟨_, _, _, rfl, (by walk_at "ev pen"), (by omega), (by omega), (by omega), fun d5 H5 d50 d51 b5 p5 => ?_⟩
        walk_at "ev rd"
        exact k _ _ _ _ _ _ _ (Ev.But.free (H1 := H5) (by walk_at "ev but") (by assumption) (by assumption)) (by walk_at "ev but") (Ev.Pen.mono (by walk_at "ev pen") (by omega)) upd_same (by refine ⟨⟨?_, ?_⟩, ⟨?_, ?_⟩, ⟨?_, ?_⟩, ⟨?_, ?_⟩, ?_, ?_⟩ <;> omega) (by assumption)
    · walk_at "ev rd"
      refine ⟨_, _, _, rfl, (by walk_at "ev pen"), (by omega), (by omega), (by omega), fun d2 H2 d20 d21 b2 p2 => ?_⟩
      walk_at "ev rd"
      refine ite2 (fun h => ?_) (fun h => ?_)
      · walk_at "ev rd"
        refine ⟨_, _, _, rfl, (by walk_at "ev pen"), (by omega), (by omega), (by omega), fun d3 H3 d30 d31 b3 p3 => ?_⟩
        walk_at "ev rd"
        refine ⟨_, _, _, rfl, (by walk_at "ev pen"), (by omega), (by omega), (by omega), fun d4 H4 d40 d41 b4 p4 => ?_⟩
        walk_at "ev rd"
        refine ⟨_, _, _, rfl, (by walk_at "ev pen"), (by omega), (by omega), (by omega), fun d5 H5 d50 d51 b5 p5 => ?_⟩
        walk_at "ev rd"
        exact k _ _ _ _ _ _ _ (Ev.But.free (H1 := H5) (by walk_at "ev but") (by assumption) (by assumption)) (by walk_at "ev but") (Ev.Pen.mono (by walk_at "ev pen") (by omega)) upd_same (by refine ⟨⟨?_, ?_⟩, ⟨?_, ?_⟩, ⟨?_, ?_⟩, ⟨?_, ?_⟩, ?_, ?_⟩ <;> omega) (by assumption)
      · walk_at "ev rd"
        refine ⟨_, _, _, rfl, (by walk_at "ev pen"), (by omega), (by omega), (by omega), fun d4 H4 d40 d41 b4 p4 => ?_⟩
        walk_at "ev rd"
        refine ⟨_, _, _, rfl, (by walk_at "ev pen"), (by omega), (by omega), (by omega), fun d5 H5 d50 d51 b5 p5 => ?_⟩
        walk_at "ev rd"
        exact k _ _ _ _ _ _ _ (Ev.But.free (H1 := H5) (by walk_at "ev but") (by assumption) (by assumption)) (by walk_at "ev but") (Ev.Pen.mono (by walk_at "ev pen") (by omega)) upd_same (by refine ⟨⟨?_, ?_⟩, ⟨?_, ?_⟩, ⟨?_, ?_⟩, ⟨?_, ?_⟩, ?_, ?_⟩ <;> omega) (by assumption)
    · have hd : d1 = 3 ∨ d1 = 4 := by omega
      rcases hd with rfl | rfl
      · walk_at "ev rd"
        refine ⟨_, _, _, rfl, (by walk_at "ev pen"), (by omega), (by omega), (by omega), fun d6 H6 d60 d61 b6 p6 => ?_⟩
        walk_at "ev rd"
        refine ⟨_, _, _, rfl, (by walk_at "ev pen"), (by omega), (by omega), (by omega), fun d7 H7 d70 d71 b7 p7 => ?_⟩
        walk_at "ev rd"
        refine ⟨_, _, _, rfl, (by walk_at "ev pen"), (by omega), (by omega), (by omega), fun d2 H2 d20 d21 b2 p2 => ?_⟩
        walk_at "ev rd"
        refine ite2 (fun h => ?_) (fun h => ?_)
        · walk_at "ev rd"
          refine ⟨_, _, _, rfl, (by walk_at "ev pen"), (by omega), (by omega), (by omega), fun d3 H3 d30 d31 b3 p3 => ?_⟩
          walk_at "ev rd"
          refine ⟨_, _, _, rfl, (by walk_at "ev pen"), (by omega), (by omega), (by omega), fun d4 H4 d40 d41 b4 p4 => ?_⟩
          walk_at "ev rd"
          refine ⟨_, _, _, rfl, (by walk_at "ev pen"), (by omega), (by omega), (by omega), fun d5 H5 d50 d51 b5 p5 => ?_⟩
          walk_at "ev rd"
          exact k _ _ _ _ _ _ _ (Ev.But.free (H1 := H5) (by walk_at "ev but") (by assumption) (by assumption)) (by walk_at "ev but") (Ev.Pen.mono (by walk_at "ev pen") (by omega)) upd_same (by refine ⟨⟨?_, ?_⟩, ⟨?_, ?_⟩, ⟨?_, ?_⟩, ⟨?_, ?_⟩, ?_, ?_⟩ <;> omega) (by assumption)
        · walk_at "ev rd"
          refine ⟨_, _, _, rfl, (by walk_at "ev pen"), (by omega), (by omega), (by omega), fun d4 H4 d40 d41 b4 p4 => ?_⟩
          walk_at "ev rd"
          refine ⟨_, _, _, rfl, (by walk_at "ev pen"), (by omega), (by omega), (by omega), fun d5 H5 d50 d51 b5 p5 => ?_⟩
          walk_at "ev rd"
          exact k _ _ _ _ _ _ _ (Ev.But.free (H1 := H5) (by walk_at "ev but") (by assumption) (by assumption)) (by walk_at "ev but") (Ev.Pen.mono (by walk_at "ev pen") (by omega)) upd_same (by refine ⟨⟨?_, ?_⟩, ⟨?_, ?_⟩, ⟨?_, ?_⟩, ⟨?_, ?_⟩, ?_, ?_⟩ <;> omega) (by assumption)
      · walk_at "ev rd"
        refine ⟨_, _, _, rfl, (by walk_at "ev pen"), (by omega), (by omega), (by omega), fun d6 H6 d60 d61 b6 p6 => ?_⟩
        walk_at "ev rd"
        refine ⟨_, _, _, rfl, (by walk_at "ev pen"), (by omega), (by omega), (by omega), fun d7 H7 d70 d71 b7 p7 => ?_⟩
        walk_at "ev rd"
        refine ⟨_, _, _, rfl, (by walk_at "ev pen"), (by omega), (by omega), (by omega), fun d2 H2 d20 d21 b2 p2 => ?_⟩
        walk_at "ev rd"
        refine ite2 (fun h => ?_) (fun h => ?_)
        · walk_at "ev rd"
          refine ⟨_, _, _, rfl, (by walk_at "ev pen"), (by omega), (by omega), (by omega), fun d3 H3 d30 d31 b3 p3 => ?_⟩
          walk_at "ev rd"
          refine ⟨_, _, _, rfl, (by walk_at "ev pen"), (by omega), (by omega), (by omega), fun d4 H4 d40 d41 b4 p4 => ?_⟩
          walk_at "ev rd"
          refine ⟨_, _, _, rfl, (by walk_at "ev pen"), (by omega), (by omega), (by omega), fun d5 H5 d50 d51 b5 p5 => ?_⟩
          walk_at "ev rd"
          exact k _ _ _ _ _ _ _ (Ev.But.free (H1 := H5) (by walk_at "ev but") (by assumption) (by assumption)) (by walk_at "ev but") (Ev.Pen.mono (by walk_at "ev pen") (by omega)) upd_same (by refine ⟨⟨?_, ?_⟩, ⟨?_, ?_⟩, ⟨?_, ?_⟩, ⟨?_, ?_⟩, ?_, ?_⟩ <;> omega) (by assumption)
        · walk_at "ev rd"
          refine ⟨_, _, _, rfl, (by walk_at "ev pen"), (by omega), (by omega), (by omega), fun d4 H4 d40 d41 b4 p4 => ?_⟩
          walk_at "ev rd"
          refine ⟨_, _, _, rfl, (by walk_at "ev pen"), (by omega), (by omega), (by omega), fun d5 H5 d50 d51 b5 p5 => ?_⟩
          walk_at "ev rd"
          exact k _ _ _ _ _ _ _ (Ev.But.free (H1 := H5) (by walk_at "ev but") (by assumption) (by assumption)) (by walk_at "ev but") (Ev.Pen.mono (by walk_at "ev pen") (by omega)) upd_same (by refine ⟨⟨?_, ?_⟩, ⟨?_, ?_⟩, ⟨?_, ?_⟩, ⟨?_, ?_⟩, ?_, ?_⟩ <;> omega) (by assumption)
end
end K71

namespace K71
open PySem L2

theorem sc_size : FnScope ["_law_pen_here", "_law_kind"] ["_law_pen_here"] (C8.fnScope (top 33)) := C8.fnScope_by (by decide +kernel)
def spSize : Sp := fun vs H Q _ => ∃ (p : Addr) (n : Int), vs = [.ref p] ∧ Ev.Pen H p n ∧ n ≤ 90000 ∧
  ∀ (M : Int) (H' : Hp), Ev.But p H H' → Ev.Pen H' p (n + 2) → 2 ≤ M → M ≤ 1000000000000 → Q (.int M) H'
section
variable {P : Program} {w : World} {K : PySem.W.Frag} {mg : Str → Option Value} {base : Heap} {C : Addr}
theorem ok_size {f : Addr} {fd : FuncData} (F : Ev.Fn K "_law_size" "_law_size" (top 33) f fd) (T : Tx K mg C) (c_draw : Ev.GC P w K mg base 1 "_law_draw" spDraw []) : Ev.GOk P w K mg base (L2.CX P w) 2 f fd ["_law_pen_here"] spSize := by
  refine Ev.gfn0 F sc_size (fun vs H Q E h => ?_) (fun cdv A outer s H vs Q E hgd hr h => ?_)
  · obtain ⟨p, n, rfl, hp, hn, k⟩ := h
    rfl
  · obtain ⟨p, n, rfl, hp, hn, k⟩ := h
    have hu : _ + 64 < cLine := hr.units
    obtain ⟨t1, hk1⟩ := T.k_times
    obtain ⟨t2, hk2⟩ := T.k_more
    obtain ⟨t3, hk3⟩ := T.k_cut
    obtain ⟨t4, hk4⟩ := T.k_join
    obtain ⟨t5, hk5⟩ := T.k_size
    have e12 : (10 : Int) ^ Int.toNat 12 = 1000000000000 := by decide
    refine ⟨_, (pss_cons (ps_set (i := 1) sc_size.nd rfl (.inl rfl) (Ev.pe_c c_draw hgd hr (by decide) (by rfl) (pa_cons (pv 0) (pa_cons pe_int pa_nil))))
  (pss_cons (ps_if (pt_cmpR op_lt (pv 1) pe_int (nomark _))
  (pss_one (ps_ret (pe_op op_add pe_int (Ev.pe_c c_draw hgd hr (by decide) (by rfl) (pa_cons (pv 0) (pa_cons (pe_ix ix_list (pe_lst (pa_cons pe_int (pa_cons pe_int (pa_cons pe_int pa_nil)))) (pv 1) (fun _ _ => rfl)) pa_nil))))))
  pss_nil)
  (pss_one (ps_ret (pe_ifExp (pt_cmpR op_eq (pv 1) pe_int (nomark _)) (pe_op op_sub (pe_op op_pow pe_int pe_int) (Ev.pe_c c_draw hgd hr (by decide) (by rfl) (pa_cons (pv 0) (pa_cons pe_int pa_nil)))) (pe_op op_add pe_int (Ev.pe_c c_draw hgd hr (by decide) (by rfl) (pa_cons (pv 0) (pa_cons (pe_op op_sub (pe_op op_pow pe_int pe_int) pe_int) pa_nil))))))))), ?_⟩
    walk_at "ev rd"
    refine ⟨_, _, _, rfl, (by walk_at "ev pen"), (by omega), (by omega), (by omega), fun d1 H1 d10 d11 b1 p1 => ?_⟩
    walk_at "ev rd"
    have hd : d1 = 0 ∨ d1 = 1 ∨ d1 = 2 ∨ d1 = 3 ∨ d1 = 4 := by omega
    rcases hd with rfl | rfl | rfl | rfl | rfl
    all_goals
      walk_at "ev rd"
      refine ⟨_, _, _, rfl, (by walk_at "ev pen"), (by omega), (by omega), (by omega), fun d2 H2 d20 d21 b2 p2 => ?_⟩
      walk_at "ev rd"
      exact k _ _ (by walk_at "ev but") (Ev.Pen.mono (by walk_at "ev pen") (by omega)) (by omega) (by omega)
end
end K71

namespace K71
open PySem L2

theorem sc_rule : FnScope ["_law_told"] ["_law_told"] (C8.fnScope (top 30)) := C8.fnScope_by (by decide +kernel)
def spRule (C : Addr) : Sp := fun vs H Q _ => ∃ (t : Addr) (p q e c j : Int), vs = [.ref t] ∧ H t = some (.tup [.int p, .int q, .int e, .int c, .int j]) ∧ Nums p q e c j ∧
  ∀ (r : Addr) (H' : Hp), Same H H' → Rl C H' r p q e c j → Q (.ref r) H'
section
variable {P : Program} {w : World} {K : PySem.W.Frag} {mg : Str → Option Value} {base : Heap} {C : Addr}
theorem ok_rule {f : Addr} {fd : FuncData} (F : Ev.Fn K "_law_rule" "_law_rule" (top 30) f fd) (T : Tx K mg C) (c_make : Ev.GN P w K mg base 4 "FillRule" C (spInit C) 2 ["cut_of", "join_of"] (fun vs zs => vs ++ zs)) : Ev.GOk P w K mg base (L2.CX P w) 6 f fd ["_law_told"] (spRule C) := by
  refine Ev.gfn0 F sc_rule (fun vs H Q E h => ?_) (fun cdv A outer s H vs Q E hgd hr h => ?_)
  · obtain ⟨t, p, q, e, c, j, rfl, ht, hn, k⟩ := h
    rfl
  · obtain ⟨t, p, q, e, c, j, rfl, ht, hn, k⟩ := h
    have hu : _ + 64 < cLine := hr.units
    obtain ⟨t1, hk1⟩ := T.k_times
    obtain ⟨t2, hk2⟩ := T.k_more
    obtain ⟨t3, hk3⟩ := T.k_cut
    obtain ⟨t4, hk4⟩ := T.k_join
    obtain ⟨t5, hk5⟩ := T.k_size
    have e12 : (10 : Int) ^ Int.toNat 12 = 1000000000000 := by decide
    refine ⟨_, (pss_one (ps_ret (Ev.pe_n c_make hgd hr (by decide) (by rfl) (pa_cons (pe_tup (pa_cons (pe_ix ix_tup (pv 0) pe_int (fun _ _ => rfl)) (pa_cons (pe_ix ix_tup (pv 0) pe_int (fun _ _ => rfl)) pa_nil))) (pa_cons (pe_ix ix_tup (pv 0) pe_int (fun _ _ => rfl)) pa_nil)) (pk_cons (pe_ix ix_tup (pv 0) pe_int (fun _ _ => rfl)) (pk_cons (pe_ix ix_tup (pv 0) pe_int (fun _ _ => rfl)) pk_nil))))), ?_⟩
    walk_at "ev rd"
    intro x dx nx ndx nex
    have ht2 : H t = some (.tup [.int p, .int q, .int e, .int c, .int j]) := ht
    rename_i tt
    have htt := hfr
    have hx0 : tt ≠ x := fun z => by
      subst z
      rw [upd_same] at nx
      cases nx
    have hd0 : tt ≠ dx := fun z => by
      subst z
      rw [upd_same] at ndx
      cases ndx
    refine ⟨x, dx, tt, p, q, e, c, j, rfl, upd_same, ?_, hn, fun H1 b1 r1 => ⟨rfl, ?_⟩⟩
    · rw [upd_ne hx0, upd_ne hd0, upd_same]
    · refine k x H1 (fun a o h => ?_) r1
      have h0 := Ev.get_new (u := .tup [.int p, .int q]) h htt
      exact b1 a o (Ev.get_ne (ne_of_none h0 nx) (Ev.get_ne (ne_of_none h0 ndx) h0)) (ne_of_none h0 nx)
end
end K71

namespace K71
open PySem L2

theorem sc_least : FnScope ["_law_told", "_law_top"] ["_law_told", "_law_top"] (C8.fnScope (top 31)) := C8.fnScope_by (by decide +kernel)
def spLeast : Sp := fun vs H Q _ => ∃ (t : Addr) (p q e c j M : Int), vs = [.ref t, .int M] ∧ H t = some (.tup [.int p, .int q, .int e, .int c, .int j]) ∧ (Nums p q e c j ∧ 2 ≤ M ∧ M ≤ 1000000000000) ∧ Q (.int (low p q e M)) H
section
variable {P : Program} {w : World} {K : PySem.W.Frag} {mg : Str → Option Value} {base : Heap} {C : Addr}
theorem ok_least {f : Addr} {fd : FuncData} (F : Ev.Fn K "_law_least" "_law_least" (top 31) f fd) (T : Tx K mg C) : Ev.GOk P w K mg base (L2.CX P w) 1 f fd ["_law_told", "_law_top"] spLeast := by
  refine Ev.gfn0 F sc_least (fun vs H Q E h => ?_) (fun cdv A outer s H vs Q E hgd hr h => ?_)
  · obtain ⟨t, p, q, e, c, j, M, rfl, ht, ⟨⟨hp, hq, he, hc, hj⟩, m1, m2⟩, k⟩ := h
    rfl
  · obtain ⟨t, p, q, e, c, j, M, rfl, ht, ⟨⟨hp, hq, he, hc, hj⟩, m1, m2⟩, k⟩ := h
    have hu : _ + 64 < cLine := hr.units
    obtain ⟨t1, hk1⟩ := T.k_times
    obtain ⟨t2, hk2⟩ := T.k_more
    obtain ⟨t3, hk3⟩ := T.k_cut
    obtain ⟨t4, hk4⟩ := T.k_join
    obtain ⟨t5, hk5⟩ := T.k_size
    have e12 : (10 : Int) ^ Int.toNat 12 = 1000000000000 := by decide
    refine ⟨_, (pss_one (ps_ret (pe_op op_fdiv (pe_op op_add (pe_op op_mul (pe_ix ix_tup (pv 0) pe_int (fun _ _ => rfl)) (pv 1)) (pe_ix ix_tup (pv 0) pe_int (fun _ _ => rfl))) (pe_ix ix_tup (pv 0) pe_int (fun _ _ => rfl))))), ?_⟩
    walk_at "ev rd"
    exact k
end
end K71

namespace K71
open PySem L2

theorem sc_lawright : FnScope ["_law_told", "_law_top", "_law_low", "_law_many", "_law_some"] ["_law_told", "_law_top"] (C8.fnScope (top 32)) := C8.fnScope_by (by decide +kernel)
def spLawRight : Sp := fun vs H Q _ => ∃ (t : Addr) (p q e c j M : Int), vs = [.ref t, .int M] ∧ H t = some (.tup [.int p, .int q, .int e, .int c, .int j]) ∧ (Nums p q e c j ∧ 2 ≤ M ∧ M ≤ 1000000000000) ∧ Q (.bl (right p q e c j M)) H
section
variable {P : Program} {w : World} {K : PySem.W.Frag} {mg : Str → Option Value} {base : Heap} {C : Addr}
theorem ok_lawright {f : Addr} {fd : FuncData} (F : Ev.Fn K "_law_is_right" "_law_is_right" (top 32) f fd) (T : Tx K mg C) (c_least : Ev.GC P w K mg base 1 "_law_least" spLeast []) : Ev.GOk P w K mg base (L2.CX P w) 2 f fd ["_law_told", "_law_top"] spLawRight := by
  refine Ev.gfn0 F sc_lawright (fun vs H Q E h => ?_) (fun cdv A outer s H vs Q E hgd hr h => ?_)
  · obtain ⟨t, p, q, e, c, j, M, rfl, ht, hn, k⟩ := h
    rfl
  · obtain ⟨t, p, q, e, c, j, M, rfl, ht, hn, k⟩ := h
    have hu : _ + 64 < cLine := hr.units
    obtain ⟨t1, hk1⟩ := T.k_times
    obtain ⟨t2, hk2⟩ := T.k_more
    obtain ⟨t3, hk3⟩ := T.k_cut
    obtain ⟨t4, hk4⟩ := T.k_join
    obtain ⟨t5, hk5⟩ := T.k_size
    have e12 : (10 : Int) ^ Int.toNat 12 = 1000000000000 := by decide
    refine ⟨_, (pss_cons (ps_par3 (i := 2) (j := 3) (l := 4) rfl sc_lawright.nd rfl rfl rfl (by decide) (by decide) (by decide) rfl rfl rfl (pa_cons (Ev.pe_c c_least hgd hr (by decide) (by rfl) (pa_cons (pv 0) (pa_cons (pv 1) pa_nil))) (pa_cons (pe_ix ix_tup (pv 0) pe_int (fun _ _ => rfl)) (pa_cons (pe_ix ix_tup (pv 0) pe_int (fun _ _ => rfl)) pa_nil))) (by rfl))
  (pss_cons (ps_if (pw_or (pt_cmpR op_lt (pv 2) pe_int (nomark _)) (pw_or1 (pt_cmpR op_lt (pe_op op_fdiv (pe_op op_add (pe_op op_mul (pv 3) (pv 1)) pe_int) (pe_op op_add (pv 3) pe_int)) (pv 2) (nomark _)))).pt
  (pss_one (ps_ret pe_bl))
  pss_nil)
  (pss_one (ps_ret (pe_cmpR op_le (pe_op op_fdiv (pe_op op_sub (pe_op op_add (pe_op op_sub (pe_op op_mul (pv 4) (pv 2)) pe_int) (pv 4)) pe_int) (pe_op op_sub (pv 4) pe_int)) (pv 1) (nomark _)))))), ?_⟩
    walk_at "ev rd"
    refine ⟨t, p, q, e, c, j, M, rfl, ht, hn, ?_⟩
    obtain ⟨⟨hp, hq, he, hc, hj⟩, m1, m2⟩ := hn
    rw [← law_right hc hj m1] at k
    unfold lawR at k
    walk_at "ev rd"
    refine ite2 (fun h => ?_) (fun h => ?_)
    · walk_at "ev rd"
      rw [if_pos (Or.inl (of_decide_eq_true h))] at k
      exact k
    · have h' : ¬ low p q e M < 1 := fun z => h (decide_eq_true z)
      walk_at "ev rd"
      refine ite2 (fun h2 => ?_) (fun h2 => ?_)
      · walk_at "ev rd"
        rw [if_pos (Or.inr (of_decide_eq_true h2))] at k
        exact k
      · have h2' : ¬ (c * M + 1) / (c + 1) < low p q e M := fun z => h2 (decide_eq_true z)
        walk_at "ev rd"
        rw [if_neg (fun z => z.elim h' h2')] at k
        exact k
end
end K71

namespace K71
open PySem L2

theorem sc_idle : FnScope ["_law_told", "_law_by"] ["_law_told", "_law_by"] (C8.fnScope (top 34)) := C8.fnScope_by (by decide +kernel)
def spIdle : Sp := fun vs H Q _ => ∃ (t : Addr) (p q e c j b : Int), vs = [.ref t, .int b] ∧ H t = some (.tup [.int p, .int q, .int e, .int c, .int j]) ∧ (Nums p q e c j ∧ 1 ≤ b ∧ b ≤ 100) ∧
  ∀ (t' : Addr) (H' : Hp), Same H H' → H' t' = some (.tup [.int p, .int q, .int e, .int (idleC c j b), .int (idleJ c j b)]) → Q (.ref t') H'
section
variable {P : Program} {w : World} {K : PySem.W.Frag} {mg : Str → Option Value} {base : Heap} {C : Addr}
theorem ok_idle {f : Addr} {fd : FuncData} (F : Ev.Fn K "_law_idle" "_law_idle" (top 34) f fd) (T : Tx K mg C) : Ev.GOk P w K mg base (L2.CX P w) 1 f fd ["_law_told", "_law_by"] spIdle := by
  refine Ev.gfn0 F sc_idle (fun vs H Q E h => ?_) (fun cdv A outer s H vs Q E hgd hr h => ?_)
  · obtain ⟨t, p, q, e, c, j, b, rfl, ht, ⟨hn, hb1, hb2⟩, k⟩ := h
    rfl
  · obtain ⟨t, p, q, e, c, j, b, rfl, ht, ⟨hn, hb1, hb2⟩, k⟩ := h
    have hu : _ + 64 < cLine := hr.units
    obtain ⟨t1, hk1⟩ := T.k_times
    obtain ⟨t2, hk2⟩ := T.k_more
    obtain ⟨t3, hk3⟩ := T.k_cut
    obtain ⟨t4, hk4⟩ := T.k_join
    obtain ⟨t5, hk5⟩ := T.k_size
    have e12 : (10 : Int) ^ Int.toNat 12 = 1000000000000 := by decide
    refine ⟨_, (pss_cons (ps_if (pt_cmpR op_le (pe_op op_add (pe_ix ix_tup (pv 0) pe_int (fun _ _ => rfl)) pe_int) (pe_ix ix_tup (pv 0) pe_int (fun _ _ => rfl)) (nomark _))
  (pss_one (ps_ret (pe_op op_catA (pe_slice sl_tupA (pv 0) po_none (po_some pe_int)) (pe_tup (pa_cons (pe_callB (call_min2 rfl) (by rfl) T.m_min (by decide +kernel) (pa_cons pe_int (pa_cons (pe_callTy call_int1 (by rfl) T.m_int (by decide +kernel) (pa_cons (pe_op op_add (pe_ix ix_tup (pv 0) pe_int (fun _ _ => rfl)) (pv 1)) pa_nil)) pa_nil))) pa_nil)))))
  pss_nil)
  (pss_one (ps_ret (pe_op op_catA (pe_slice sl_tupA (pv 0) po_none (po_some pe_int)) (pe_tup (pa_cons (pe_callB (call_min2 rfl) (by rfl) T.m_min (by decide +kernel) (pa_cons pe_int (pa_cons (pe_callTy call_int1 (by rfl) T.m_int (by decide +kernel) (pa_cons (pe_op op_add (pe_ix ix_tup (pv 0) pe_int (fun _ _ => rfl)) (pv 1)) pa_nil)) pa_nil))) (pa_cons (pe_ix ix_tup (pv 0) pe_int (fun _ _ => rfl)) pa_nil))))))), ?_⟩
    walk_at "ev rd"
    refine ite2 (fun h => ?_) (fun h => ?_)
    · have h' := of_decide_eq_true h
      walk_at "ev rd"
      refine Ev.sl_part (SqT.of ht) (fun z => absurd (show (0 : Nat) = 0 ∧ (4 : Nat) = 5 from z) (by decide)) fun t1 n1 => ?_
      walk_at "ev rd"
      rename_i t2
      refine Ev.cat_ne (xs := [.int p, .int q, .int e, .int c]) (SqT.of (by walk_at "ev hl")) (SqT.of (by walk_at "ev hl")) (by simp) (by simp) (by simp) fun t3 n3 => ?_
      refine k t3 _ (Ev.Same.new (Ev.Same.new (Ev.Same.new (Same.refl H) n1) (by assumption)) n3) ?_
      rw [upd_same]
      unfold idleC idleJ
      rw [if_pos h', if_pos h']
      rfl
    · have h' : ¬ c + 1 ≤ j := fun z => h (decide_eq_true z)
      walk_at "ev rd"
      refine Ev.sl_part (SqT.of ht) (fun z => absurd (show (0 : Nat) = 0 ∧ (3 : Nat) = 5 from z) (by decide)) fun t1 n1 => ?_
      walk_at "ev rd"
      rename_i t2
      refine Ev.cat_ne (xs := [.int p, .int q, .int e]) (SqT.of (by walk_at "ev hl")) (SqT.of (by walk_at "ev hl")) (by simp) (by simp) (by simp) fun t3 n3 => ?_
      refine k t3 _ (Ev.Same.new (Ev.Same.new (Ev.Same.new (Same.refl H) n1) (by assumption)) n3) ?_
      rw [upd_same]
      unfold idleC idleJ
      rw [if_neg h', if_neg h']
      rfl
end
end K71

namespace K71
open PySem L2

theorem sc_between : FnScope ["_law_made", "_law_top", "_law_step", "_law_some", "_law_lap"] ["_law_made", "_law_top", "_law_step"] (C8.fnScope (top 35)) := C8.fnScope_by (by decide +kernel)
def spBetween (C : Addr) : Sp := fun vs H Q _ => ∃ (x : Addr) (p q e c j M s : Int), vs = [.ref x, .int M, .int (q * s)] ∧ Rl C H x p q e c j ∧ (Nums p q e c j ∧ 2 ≤ M ∧ 0 ≤ q * s ∧ M + 2 * (q * s) ≤ 1000000000000) ∧ ∀ H', Same H H' → Q (.bl true) H'
section
variable {P : Program} {w : World} {K : PySem.W.Frag} {mg : Str → Option Value} {base : Heap} {C : Addr}
theorem ok_between {f : Addr} {fd : FuncData} (F : Ev.Fn K "_law_between_right" "_law_between_right" (top 35) f fd) (T : Tx K mg C) (c_fits : Ev.GM P w K mg base 4 C "fits" (spIsRight C) []) (c_leastfill : Ev.GM P w K mg base 4 C "least_fill" (spFillAt C) []) : Ev.GOk P w K mg base (L2.CX P w) 5 f fd ["_law_made", "_law_top", "_law_step"] (spBetween C) := by
  refine Ev.gfn0 F sc_between (fun vs H Q E h => ?_) (fun cdv A outer s H vs Q E hgd hr h => ?_)
  · obtain ⟨x, p, q, e, c, j, M, s, rfl, ⟨dx, t, hx, ht⟩, hn, k⟩ := h
    rfl
  · obtain ⟨x, p, q, e, c, j, M, s, rfl, ⟨dx, t, hx, ht⟩, hn, k⟩ := h
    have hu : _ + 64 < cLine := hr.units
    obtain ⟨t1, hk1⟩ := T.k_times
    obtain ⟨t2, hk2⟩ := T.k_more
    obtain ⟨t3, hk3⟩ := T.k_cut
    obtain ⟨t4, hk4⟩ := T.k_join
    obtain ⟨t5, hk5⟩ := T.k_size
    have e12 : (10 : Int) ^ Int.toNat 12 = 1000000000000 := by decide
    refine ⟨_, (pss_cons (ps_setLc (i := 3) (own := [("_law_lap", 4)]) rfl sc_between.nd rfl rfl (sw_true rfl rfl rfl (by decide +kernel)) (pi_range1 (by rfl) T.m_range (pa_cons pe_int pa_nil)) (blkOk_by (N := ["_law_made", "_law_top", "_law_step", "_law_some", "_law_lap"]) (sc := (C8.fnScope (top 35))) (by decide +kernel)) (fun _ _ _ _ _ => (pg_name (i := 4) sc_between.nd rfl (.inl rfl))) (fun _ _ _ _ _ => pts_nil) (fun _ _ _ _ _ => (Ev.pe_m c_fits hgd hr (by decide) (pv 0) (pa_cons (pe_op op_add (pv 1) (pe_op op_mul (pv 4) (pv 2))) pa_nil))))
  (pss_one (ps_ret (pe_or (pe_cmpR op_lt (Ev.pe_m c_leastfill hgd hr (by decide) (pv 0) (pa_cons (pv 1) pa_nil)) pe_int (nomark _)) (pe_or (pe_not (pe_and (pe_ix ix_list (pv 3) pe_int (fun _ _ => rfl)) (pe_one (pe_ix ix_list (pv 3) pe_int (fun _ _ => rfl))))) (pe_one (pe_ix ix_list (pv 3) pe_int (fun _ _ => rfl)))))))), ?_⟩
    obtain ⟨hN, m1, m2, m3⟩ := hn
    walk_at "ev rd"
    refine ⟨by decide, by decide, fun D hD => Ev.lcR (f := fun i => some (.bl (right p q e c j (M + (0 + (i : Int)) * (q * s))))) hD (by decide) (fun i H1 R N hi hS hR hN => ?_) (fun H1 hS h1 => ?_)⟩
    · have hx1 := hS _ _ hx
      have ht1 := hS _ _ ht
      have hi3 : i < 3 := hi
      refine ⟨rfl, ?_⟩
      walk_at "ev rd"
      refine ⟨x, p, q, e, c, j, _, rfl, ⟨dx, t, hx1, ht1⟩, ⟨by assumption, ?_⟩, ?_⟩
      · have h3 : i = 0 ∨ i = 1 ∨ i = 2 := by omega
        rcases h3 with rfl | rfl | rfl
        · refine ⟨?_, ?_⟩ <;> simp <;> omega
        · refine ⟨?_, ?_⟩ <;> simp <;> omega
        · refine ⟨?_, ?_⟩ <;> simp <;> omega
      · exact hR _ _ rfl (Same.refl _)
    · have hx1 := hS _ _ hx
      have ht1 := hS _ _ ht
      have h1' : H1 D = some (.lst [.bl (right p q e c j (M + 0 * (q * s))), .bl (right p q e c j (M + 1 * (q * s))), .bl (right p q e c j (M + 2 * (q * s)))]) := by
        rw [h1, Ev.outs_map]
        rfl
      have hk := k _ hS
      walk_at "ev rd"
      refine ⟨x, p, q, e, c, j, M, rfl, ⟨dx, t, hx1, ht1⟩, ⟨by assumption, by omega, by omega⟩, ?_⟩
      have e0 : M + 0 * (q * s) = M := by omega
      rw [e0] at h1'
      walk_at "ev rd"
      refine ite2 (fun h => ?_) (fun h => ?_)
      · exact hk
      · walk_at "ev rd"
        cases r0 : right p q e c j M with
        | false =>
          walk_at "ev rd"
          exact hk
        | true =>
          walk_at "ev rd"
          cases r2 : right p q e c j (M + 2 * (q * s)) with
          | false =>
            walk_at "ev rd"
            exact hk
          | true =>
            walk_at "ev rd"
            rw [between (by obtain ⟨_, ⟨hq, _⟩, _⟩ := hN; omega) hN.2.2.2.1 hN.2.2.2.2 r0 r2]
            exact hk
end
end K71

namespace K71
open PySem L2
theorem Rl.same {C : Addr} {H H1 : Hp} {r : Addr} {p q e c j : Int} (h : Rl C H r p q e c j) (s : Same H H1) : Rl C H1 r p q e c j := by
  obtain ⟨dx, t, a, b⟩ := h
  exact ⟨dx, t, s _ _ a, s _ _ b⟩
theorem Rl.but {C : Addr} {H H1 : Hp} {r z : Addr} {n p q e c j : Int} (h : Rl C H r p q e c j) (pn : Ev.Pen H z n) (s : Ev.But z H H1) : Rl C H1 r p q e c j := by
  obtain ⟨dx, t, a, b⟩ := h
  obtain ⟨_, _, _, _, e, _⟩ := pn
  exact ⟨dx, t, s _ _ a (ne_of a e (by intro y; cases y)), s _ _ b (ne_of b e (by intro y; cases y))⟩
theorem shows_bool (b : Bool) : Ev.Shows (.bool b) := ⟨rfl, rfl, by show (0 : Nat) ≤ 64; decide, by show (5 : Nat) ≤ 16777216; decide⟩
theorem sc_law : FnScope ["_law_script", "_law_pen_here", "_law_turn", "_law_told", "_law_top", "_law_made", "_law_other", "_law_size_here", "_law_due", "_law_step", "_law_thin"] ["_law_script"] (C8.fnScope (top 36)) := C8.fnScope_by (by decide +kernel)
def spLaw (K : PySem.W.Frag) : Sp := fun vs H Q _ => ∃ (a : Addr) (ns : List Int), vs = [.ref a] ∧ SqL K H a (ns.map V.int) ∧ ns.length ≤ 63 ∧ ∀ H', Q (.bl true) H'
section
variable {P : Program} {w : World} {K : PySem.W.Frag} {mg : Str → Option Value} {base : Heap} {C : Addr}
theorem ok_law {f : Addr} {fd : FuncData} (F : Ev.Fn K "law" "law" (top 36) f fd) (T : Tx K mg C) (c_pen : Ev.GC P w K mg base 1 "_law_pen" (spPen K) []) (c_numbers : Ev.GC P w K mg base 2 "_law_numbers" spNumbers []) (c_size : Ev.GC P w K mg base 2 "_law_size" spSize []) (c_rule : Ev.GC P w K mg base 6 "_law_rule" (spRule C) []) (c_idle : Ev.GC P w K mg base 1 "_law_idle" spIdle []) (c_draw : Ev.GC P w K mg base 1 "_law_draw" spDraw []) (c_lawright : Ev.GC P w K mg base 2 "_law_is_right" spLawRight []) (c_fits : Ev.GM P w K mg base 4 C "fits" (spIsRight C) []) (c_between : Ev.GC P w K mg base 5 "_law_between_right" (spBetween C) []) (c_make1 : Ev.GN P w K mg base 4 "FillRule" C (spInit C) 1 ["join_of"] (fun vs zs => vs ++ [.int 0] ++ [.int 1] ++ zs)) : Ev.GOk P w K mg base (L2.CX P w) 7 f fd ["_law_script"] (spLaw K) := by
  refine Ev.gfn0 F sc_law (fun vs H Q E h => ?_) (fun cdv A outer s H vs Q E hgd hr h => ?_)
  · obtain ⟨a, ns, rfl, hS, hl, k⟩ := h
    rfl
  · obtain ⟨a, ns, rfl, hS, hl, k⟩ := h
    have hu : _ + 64 < cLine := hr.units
    obtain ⟨t1, hk1⟩ := T.k_times
    obtain ⟨t2, hk2⟩ := T.k_more
    obtain ⟨t3, hk3⟩ := T.k_cut
    obtain ⟨t4, hk4⟩ := T.k_join
    obtain ⟨t5, hk5⟩ := T.k_size
    have e12 : (10 : Int) ^ Int.toNat 12 = 1000000000000 := by decide
    refine ⟨_, (pss_cons (ps_set (i := 1) sc_law.nd rfl (.inl rfl) (Ev.pe_c c_pen hgd hr (by decide) (by rfl) (pa_cons (pv 0) pa_nil)))
  (pss_cons (ps_for PassesOwn.never rfl (pi_range1 (by rfl) T.m_range (pa_cons pe_int pa_nil)) (pg_name (i := 2) sc_law.nd rfl (.inl rfl))
  (pss_cons (ps_par (i := 3) (j := 4) rfl sc_law.nd rfl rfl (by decide) rfl rfl (pa_cons (Ev.pe_c c_numbers hgd hr (by decide) (by rfl) (pa_cons (pv 1) pa_nil)) (pa_cons (Ev.pe_c c_size hgd hr (by decide) (by rfl) (pa_cons (pv 1) pa_nil)) pa_nil)) (by rfl))
  (pss_cons (ps_par (i := 5) (j := 6) rfl sc_law.nd rfl rfl (by decide) rfl rfl (pa_cons (Ev.pe_c c_rule hgd hr (by decide) (by rfl) (pa_cons (pv 3) pa_nil)) (pa_cons (Ev.pe_c c_rule hgd hr (by decide) (by rfl) (pa_cons (Ev.pe_c c_idle hgd hr (by decide) (by rfl) (pa_cons (pv 3) (pa_cons (pe_op op_add pe_int (Ev.pe_c c_draw hgd hr (by decide) (by rfl) (pa_cons (pv 1) (pa_cons pe_int pa_nil)))) pa_nil))) pa_nil)) pa_nil)) (by rfl))
  (pss_cons (ps_for PassesOwn.never rfl (pi_range2 (by rfl) T.m_range (pa_cons (pv 4) (pa_cons (pe_op op_add (pe_callB (call_min2 rfl) (by rfl) T.m_min (by decide +kernel) (pa_cons (pe_op op_pow pe_int pe_int) (pa_cons (pe_op op_add (pv 4) pe_int) pa_nil))) pe_int) pa_nil))) (pg_name (i := 7) sc_law.nd rfl (.inl rfl))
  (pss_cons (ps_set (i := 8) sc_law.nd rfl (.inl rfl) (Ev.pe_c c_lawright hgd hr (by decide) (by rfl) (pa_cons (pv 3) (pa_cons (pv 7) pa_nil))))
  (pss_one (ps_if (pw_or (pt_cmpR op_ne (pe_callB (Ev.call_repr hgd hu hr.un0) (by rfl) T.m_repr (by decide +kernel) (pa_cons (Ev.pe_m c_fits hgd hr (by decide) (pv 5) (pa_cons (pv 7) pa_nil)) pa_nil)) (pe_callB (Ev.call_repr hgd hu hr.un0) (by rfl) T.m_repr (by decide +kernel) (pa_cons (pv 8) pa_nil)) (nomark _)) (pw_or1 (pt_cmpR op_ne (Ev.pe_m c_fits hgd hr (by decide) (pv 6) (pa_cons (pv 7) pa_nil)) (pv 8) (nomark _)))).pt
  (pss_one (ps_ret pe_bl))
  pss_nil))))
  (pss_cons (ps_set (i := 9) sc_law.nd rfl (.inl rfl) (pe_op op_mul (pe_ix ix_tup (pv 3) pe_int (fun _ _ => rfl)) (pe_op op_add pe_int (Ev.pe_c c_draw hgd hr (by decide) (by rfl) (pa_cons (pv 1) (pa_cons pe_int pa_nil))))))
  (pss_one (ps_if (pw_and (pt_cmpR op_le (pe_op op_add (pv 4) (pe_op op_mul pe_int (pv 9))) (pe_op op_pow pe_int pe_int) (nomark _)) (pw_and1 (pt_not (pt_val (Ev.pe_c c_between hgd hr (by decide) (by rfl) (pa_cons (pv 5) (pa_cons (pv 4) (pa_cons (pv 9) pa_nil)))))))).pt
  (pss_one (ps_ret pe_bl))
  pss_nil)))))))
  (pss_cons (ps_set (i := 10) sc_law.nd rfl (.inr rfl) (Ev.pe_n c_make1 hgd hr (by decide) (by rfl) (pa_cons (pe_tup (pa_cons pe_int (pa_cons pe_int pa_nil))) pa_nil) (pk_cons pe_int pk_nil)))
  (pss_one (ps_ret (pe_cmpR (op_eqD hu) (pe_lc (own := [("_law_size_here", 7)]) rfl sc_law.nd (pi_range2 (by rfl) T.m_range (pa_cons pe_int (pa_cons pe_int pa_nil))) (blkOk_by (N := ["_law_script", "_law_pen_here", "_law_turn", "_law_told", "_law_top", "_law_made", "_law_other", "_law_size_here", "_law_due", "_law_step", "_law_thin"]) (sc := (C8.fnScope (top 36))) (by decide +kernel)) (fun _ _ _ _ _ => (pg_name (i := 7) sc_law.nd rfl (.inl rfl))) (fun _ _ _ _ _ => (pts_one (pt_val (Ev.pe_m c_fits hgd hr (by decide) (pv 10) (pa_cons (pv 7) pa_nil))))) (fun _ _ _ _ _ => (pv 7))) (pe_lst (pa_cons pe_int (pa_cons pe_int (pa_cons pe_int (pa_cons pe_int (pa_cons pe_int pa_nil)))))) (nomark _))))))), ?_⟩
    walk_at "ev rd"
    refine ⟨a, ns, rfl, hS, hl, fun p H1 s1 np pen1 => ?_⟩
    walk_at "ev rd"
    refine ⟨by decide, by decide, for_range (fun i σ H' => ∃ v2 v3 v4 v5 v6 v7 v8 v9 v10, σ = [some (.ref a), some (.ref p), v2, v3, v4, v5, v6, v7, v8, v9, v10] ∧ Ev.Pen H' p ((i : Int) * 100)) ⟨_, _, _, _, _, _, _, _, _, rfl, pen1.mono (by omega)⟩ ?_ ?_⟩
    · rintro i σ H2 hi ⟨v2, v3, v4, v5, v6, v7, v8, v9, v10, rfl, pen2⟩
      have hi2 : i < 12 := hi
      walk_at "ev rd"
      refine ⟨p, _, rfl, pen2, by omega, fun t H3 pa q e c j ft b3 pen3 ht hN htp => ?_⟩
      walk_at "ev rd"
      refine ⟨p, _, rfl, pen3, by omega, fun M H4 b4 pen4 m1 m2 => ?_⟩
      have ht4 := b4 _ _ ht htp
      walk_at "ev rd"
      refine ⟨t, pa, q, e, c, j, rfl, ht4, hN, fun r H5 s5 r5 => ?_⟩
      have pen5 := pen4.same s5
      have ht5 := s5 _ _ ht4
      walk_at "ev rd"
      refine ⟨_, _, _, rfl, (by walk_at "ev pen"), (by omega), (by omega), (by omega), fun d H6 d0 d1 b6 pen6 => ?_⟩
      have ht6 := b6 _ _ ht5 htp
      walk_at "ev rd"
      refine ⟨t, pa, q, e, c, j, _, rfl, ht6, ⟨hN, by omega, by omega⟩, fun t' H7 s7 ht' => ?_⟩
      obtain ⟨nP, nQ, nE, nC, nJ⟩ := id hN
      have hid := idle_ok nC nJ (show 1 ≤ 1 + d by omega)
      walk_at "ev rd"
      refine ⟨t', pa, q, e, _, _, rfl, ht', ⟨nP, nQ, nE, hid.1, hid.2.1⟩, fun r' H8 s8 r8 => ?_⟩
      have ra8 : Rl C H8 r pa q e c j := ((r5.but pen5 b6).same s7).same s8
      have ht8 := s8 _ _ (s7 _ _ ht6)
      have pen8 := (pen6.same s7).same s8
      walk_at "ev rd"
      generalize hU : ((if M + 7 < 10 ^ Int.toNat 12 then M + 7 else 10 ^ Int.toNat 12) + 1 : Int) = U
      have hU2 : U ≤ 1000000000001 := by
        rw [← hU]
        split <;> omega
      have hU1 : M < U := by
        rw [← hU]
        split <;> omega
      refine ⟨⟨by omega, by omega, by omega, by omega⟩, for_range (fun k σ H' => ∃ v7 v8, σ = [some (.ref a), some (.ref p), some (.int (0 + (i : Int))), some (.ref t), some (.int M), some (.ref r), some (.ref r'), v7, v8, v9, v10] ∧ Same H8 H') ⟨_, _, rfl, Same.refl _⟩ ?_ ?_⟩
      · rintro z σ H9 hz ⟨v7, v8, rfl, s9⟩
        have hz2 : z < (U - M).toNat := hz
        obtain ⟨dxa, tta, ha1, ha2⟩ := ra8.same s9
        obtain ⟨dxb, ttb, hb1, hb2⟩ := r8.same s9
        have ht9 := s9 _ _ ht8
        have hM : 2 ≤ M + (z : Int) ∧ M + (z : Int) ≤ 1000000000000 := by omega
        walk_at "ev rd"
        refine ⟨t, pa, q, e, c, j, _, rfl, ht9, ⟨hN, hM⟩, ?_⟩
        walk_at "ev rd"
        refine ⟨r, pa, q, e, c, j, _, rfl, ⟨dxa, tta, ha1, ha2⟩, ⟨hN, hM⟩, ?_⟩
        walk_at "ev rd"
        refine ⟨_, _, rfl, .bl _, shows_bool _, ?_⟩
        walk_at "ev rd"
        refine ⟨_, _, rfl, .bl _, shows_bool _, ?_⟩
        walk_at "ev rd"
        refine iteNS rfl ?_
        walk_at "ev rd"
        refine ⟨r', pa, q, e, _, _, _, rfl, ⟨dxb, ttb, hb1, hb2⟩, ⟨⟨nP, nQ, nE, hid.1, hid.2.1⟩, hM⟩, ?_⟩
        walk_at "ev rd"
        rw [idle_right nC nJ (show 1 ≤ 1 + d by omega)]
        walk_at "ev rd"
        refine iteNS rfl ?_
        exact ⟨_, _, rfl, s9⟩
      · rintro σ H9 ⟨v7, v8, rfl, s9⟩
        have ht9 := s9 _ _ ht8
        have pen9 := pen8.same s9
        obtain ⟨dxa, tta, ha1, ha2⟩ := ra8.same s9
        walk_at "ev rd"
        refine ⟨_, _, _, rfl, (by walk_at "ev pen"), (by omega), (by omega), (by omega), fun d' H10 e0 e1 b10 pen10 => ?_⟩
        walk_at "ev rd"
        have pn : ∀ (K : Nat), (K : Int) * 100 + 7 + 2 + 1 + 1 ≤ ((K + 1 : Nat) : Int) * 100 := fun K => by omega
        refine ite2 (fun h => ?_) (fun h => ?_)
        · have h' := of_decide_eq_true h
          rw [e12] at h'
          walk_at "ev rd"
          refine ⟨r, pa, q, e, c, j, M, 1 + d', rfl, (ra8.same s9).but pen9 b10, ⟨hN, m1, Int.mul_nonneg (by omega) (by omega), h'⟩, fun H11 s11 => ?_⟩
          walk_at "ev rd"
          exact ⟨_, _, _, _, _, _, _, _, _, rfl, (pen10.same s11).mono (pn i)⟩
        · refine iteF ?_
          exact ⟨_, _, _, _, _, _, _, _, _, rfl, pen10.mono (pn i)⟩
    · rintro σ H2 ⟨v2, v3, v4, v5, v6, v7, v8, v9, v10, rfl, pen2⟩
      walk_at "ev rd"
      rename_i tt
      intro x dx nx ndx nex
      have hx0 : tt ≠ x := fun z => by
        subst z
        rw [upd_same] at nx
        cases nx
      have hd0 : tt ≠ dx := fun z => by
        subst z
        rw [upd_same] at ndx
        cases ndx
      refine ⟨x, dx, tt, 2, 3, 0, 1, 3, rfl, upd_same, ?_, ⟨⟨by decide, by decide⟩, ⟨by decide, by decide⟩, ⟨by decide, by decide⟩, ⟨by decide, by decide⟩, by decide, by decide⟩, fun H3 b3 r3 => ⟨rfl, ?_⟩⟩
      · rw [upd_ne hx0, upd_ne hd0, upd_same]
      · walk_at "ev rd"
        refine ⟨⟨by decide, by decide, by decide, by decide⟩, fun D hD => Ev.lcR (f := fun i => if right 2 3 0 1 3 (2 + (i : Int)) = true then some (.int (2 + (i : Int))) else none) hD (by decide) (fun i H4 R N hi s4 hR hN => ?_) (fun H4 s4 h4 => ?_)⟩
        · obtain ⟨dxa, tta, ha1, ha2⟩ := r3.same s4
          have hi2 : i < 38 := hi
          refine ⟨rfl, ?_⟩
          walk_at "ev rd"
          refine ⟨x, 2, 3, 0, 1, 3, _, rfl, ⟨dxa, tta, ha1, ha2⟩, ⟨⟨⟨by decide, by decide⟩, ⟨by decide, by decide⟩, ⟨by decide, by decide⟩, ⟨by decide, by decide⟩, by decide, by decide⟩, by omega, by omega⟩, ?_⟩
          walk_at "ev rd"
          cases hb : right 2 3 0 1 3 (2 + (i : Int)) with
          | true =>
            walk_at "ev rd"
            exact hR _ _ (if_pos hb) (Same.refl _)
          | false =>
            refine iteF ?_
            exact hN _ (if_neg (by rw [hb]; decide)) (Same.refl _)
        · have h4' : H4 D = some (.lst (([2, 3, 4, 5, 7] : List Int).map V.int)) := by
            rw [h4]
            congr 2
          walk_at "ev rd"
          refine Ev.eq_ints (ns := [2, 3, 4, 5, 7]) (ms := [2, 3, 4, 5, 7]) (SqL.of (by walk_at "ev hl")) (SqL.of (by walk_at "ev hl")) ?_
          exact k _
end
end K71

namespace K71
open PySem L2
theorem all_mk {l : PySem.W.OpenLaw} {w : World} {K : PySem.W.Frag} {h : Heap} {mg : Str → Option Value} {fa : Addr} (X : K.In h) (G : h.Ns mainGlobals mg) (hfa : mg "law" = some (.ref fa))
    {C : Addr} {t1 t2 t3 t4 t5 : Tok}
    {f_draw : Addr} {od_draw an_draw : Option Addr} {sl_draw : Array (Option Value)} {oc_draw kV_draw dc_draw pm_draw cd_draw ct_draw : Value}
    {f_pen : Addr} {od_pen an_pen : Option Addr} {sl_pen : Array (Option Value)} {oc_pen kV_pen dc_pen pm_pen cd_pen ct_pen : Value}
    {f_lesser : Addr} {od_lesser an_lesser : Option Addr} {sl_lesser : Array (Option Value)} {oc_lesser kV_lesser dc_lesser pm_lesser cd_lesser ct_lesser : Value}
    {f_isint : Addr} {od_isint an_isint : Option Addr} {sl_isint : Array (Option Value)} {oc_isint kV_isint dc_isint pm_isint cd_isint ct_isint : Value}
    {f_within : Addr} {od_within an_within : Option Addr} {sl_within : Array (Option Value)} {oc_within kV_within dc_within pm_within cd_within ct_within : Value}
    {f_istimes : Addr} {od_istimes an_istimes : Option Addr} {sl_istimes : Array (Option Value)} {oc_istimes kV_istimes dc_istimes pm_istimes cd_istimes ct_istimes : Value}
    {f_needsize : Addr} {od_needsize an_needsize : Option Addr} {sl_needsize : Array (Option Value)} {oc_needsize kV_needsize dc_needsize pm_needsize cd_needsize ct_needsize : Value}
    {f_init : Addr} {od_init an_init : Option Addr} {sl_init : Array (Option Value)} {oc_init dc_init pm_init cd_init ct_init : Value}
    {DT_init : Addr}
    {DK_init : Addr}
    {f_fillat : Addr} {od_fillat an_fillat : Option Addr} {sl_fillat : Array (Option Value)} {oc_fillat kV_fillat dc_fillat pm_fillat cd_fillat ct_fillat : Value}
    {f_leastfill : Addr} {od_leastfill an_leastfill : Option Addr} {sl_leastfill : Array (Option Value)} {oc_leastfill kV_leastfill dc_leastfill pm_leastfill cd_leastfill ct_leastfill : Value}
    {f_narrow : Addr} {od_narrow an_narrow : Option Addr} {sl_narrow : Array (Option Value)} {oc_narrow kV_narrow dc_narrow pm_narrow cd_narrow ct_narrow : Value}
    {f_isright : Addr} {od_isright an_isright : Option Addr} {sl_isright : Array (Option Value)} {oc_isright kV_isright dc_isright pm_isright cd_isright ct_isright : Value}
    {f_fits : Addr} {od_fits an_fits : Option Addr} {sl_fits : Array (Option Value)} {oc_fits kV_fits dc_fits pm_fits cd_fits ct_fits : Value}
    {f_numbers : Addr} {od_numbers an_numbers : Option Addr} {sl_numbers : Array (Option Value)} {oc_numbers kV_numbers dc_numbers pm_numbers cd_numbers ct_numbers : Value}
    {f_size : Addr} {od_size an_size : Option Addr} {sl_size : Array (Option Value)} {oc_size kV_size dc_size pm_size cd_size ct_size : Value}
    {f_rule : Addr} {od_rule an_rule : Option Addr} {sl_rule : Array (Option Value)} {oc_rule kV_rule dc_rule pm_rule cd_rule ct_rule : Value}
    {f_least : Addr} {od_least an_least : Option Addr} {sl_least : Array (Option Value)} {oc_least kV_least dc_least pm_least cd_least ct_least : Value}
    {f_lawright : Addr} {od_lawright an_lawright : Option Addr} {sl_lawright : Array (Option Value)} {oc_lawright kV_lawright dc_lawright pm_lawright cd_lawright ct_lawright : Value}
    {f_idle : Addr} {od_idle an_idle : Option Addr} {sl_idle : Array (Option Value)} {oc_idle kV_idle dc_idle pm_idle cd_idle ct_idle : Value}
    {f_between : Addr} {od_between an_between : Option Addr} {sl_between : Array (Option Value)} {oc_between kV_between dc_between pm_between cd_between ct_between : Value}
    {f_law : Addr} {od_law an_law : Option Addr} {sl_law : Array (Option Value)} {oc_law kV_law dc_law pm_law cd_law ct_law : Value}
    {oT : Option Addr} {nT : Nat} {slT : Array (Option Value)} {u0 u1 u2 : Tok}
    (y1 : PySem.W.nsIn K mainGlobals "int" = some none)
    (y2 : PySem.W.nsIn K mainGlobals "bool" = some none)
    (y3 : PySem.W.nsIn K mainGlobals "tuple" = some none)
    (y4 : PySem.W.nsIn K mainGlobals "list" = some none)
    (y5 : PySem.W.nsIn K mainGlobals "abs" = some none)
    (y6 : PySem.W.nsIn K mainGlobals "len" = some none)
    (y7 : PySem.W.nsIn K mainGlobals "isinstance" = some none)
    (y8 : PySem.W.nsIn K mainGlobals "all" = some none)
    (y9 : PySem.W.nsIn K mainGlobals "min" = some none)
    (y10 : PySem.W.nsIn K mainGlobals "range" = some none)
    (y11 : PySem.W.nsIn K mainGlobals "repr" = some none)
    (y12 : PySem.W.nsIn K mainGlobals "FillRule" = some (some (.ref C)))
    (y13 : PySem.W.plainGet K C Str.empty = true)
    (y14 : PySem.W.hasDictIn K C = true)
    (y15 : PySem.W.plainOver K C = true)
    (y16 : PySem.W.findIn K (.ref C) "__setattr__" = some (some (.builtin "object.__setattr__")))
    (y17 : PySem.W.makesIn K C = true)
    (y18 : PySem.W.keepIn K (.ref C) = true)
    (y19 : PySem.W.findIn K (.ref C) "times" = some none)
    (y20 : PySem.W.findIn K (.ref C) "plus" = some none)
    (y21 : PySem.W.findIn K (.ref C) "cut_of" = some none)
    (y22 : PySem.W.findIn K (.ref C) "join_of" = some none)
    (y23 : PySem.W.findIn K (.ref C) "width" = some none)
    (y24 : PySem.W.nsIn K mainGlobals "MOST_TIMES" = some (some (.int 12 t1)))
    (y25 : PySem.W.nsIn K mainGlobals "MOST_MORE" = some (some (.int 12 t2)))
    (y26 : PySem.W.nsIn K mainGlobals "MOST_CUT" = some (some (.int 5 t3)))
    (y27 : PySem.W.nsIn K mainGlobals "MOST_JOIN" = some (some (.int 6 t4)))
    (y28 : PySem.W.nsIn K mainGlobals "MOST_SIZE" = some (some (.int 1000000000000 t5)))
    (y29 : PySem.W.nsIn K mainGlobals "_law_draw" = some (some (.ref f_draw)))
    (y30 : K.lookup f_draw = some ⟨oc_draw, od_draw, .func (PySem.W.fnOf "_law_draw" "_law_draw" (C8.fnArgs (top 27)) (C8.fnBody (top 27)) (C8.fnScope (top 27)) .none kV_draw dc_draw pm_draw an_draw cd_draw ct_draw), sl_draw⟩)
    (y31 : PySem.W.codeIn K cd_draw "_law_draw" = true)
    (y32 : PySem.W.keepIn K (.ref f_draw) = true)
    (y33 : PySem.W.nsIn K mainGlobals "_law_pen" = some (some (.ref f_pen)))
    (y34 : K.lookup f_pen = some ⟨oc_pen, od_pen, .func (PySem.W.fnOf "_law_pen" "_law_pen" (C8.fnArgs (top 26)) (C8.fnBody (top 26)) (C8.fnScope (top 26)) .none kV_pen dc_pen pm_pen an_pen cd_pen ct_pen), sl_pen⟩)
    (y35 : PySem.W.codeIn K cd_pen "_law_pen" = true)
    (y36 : PySem.W.keepIn K (.ref f_pen) = true)
    (y37 : PySem.W.nsIn K mainGlobals "lesser" = some (some (.ref f_lesser)))
    (y38 : K.lookup f_lesser = some ⟨oc_lesser, od_lesser, .func (PySem.W.fnOf "lesser" "lesser" (C8.fnArgs (top 10)) (C8.fnBody (top 10)) (C8.fnScope (top 10)) .none kV_lesser dc_lesser pm_lesser an_lesser cd_lesser ct_lesser), sl_lesser⟩)
    (y39 : PySem.W.codeIn K cd_lesser "lesser" = true)
    (y40 : PySem.W.keepIn K (.ref f_lesser) = true)
    (y41 : PySem.W.nsIn K mainGlobals "is_integer" = some (some (.ref f_isint)))
    (y42 : K.lookup f_isint = some ⟨oc_isint, od_isint, .func (PySem.W.fnOf "is_integer" "is_integer" (C8.fnArgs (top 7)) (C8.fnBody (top 7)) (C8.fnScope (top 7)) .none kV_isint dc_isint pm_isint an_isint cd_isint ct_isint), sl_isint⟩)
    (y43 : PySem.W.codeIn K cd_isint "is_integer" = true)
    (y44 : PySem.W.keepIn K (.ref f_isint) = true)
    (y45 : PySem.W.nsIn K mainGlobals "is_within" = some (some (.ref f_within)))
    (y46 : K.lookup f_within = some ⟨oc_within, od_within, .func (PySem.W.fnOf "is_within" "is_within" (C8.fnArgs (top 8)) (C8.fnBody (top 8)) (C8.fnScope (top 8)) .none kV_within dc_within pm_within an_within cd_within ct_within), sl_within⟩)
    (y47 : PySem.W.codeIn K cd_within "is_within" = true)
    (y48 : PySem.W.keepIn K (.ref f_within) = true)
    (y49 : PySem.W.nsIn K mainGlobals "is_times" = some (some (.ref f_istimes)))
    (y50 : K.lookup f_istimes = some ⟨oc_istimes, od_istimes, .func (PySem.W.fnOf "is_times" "is_times" (C8.fnArgs (top 13)) (C8.fnBody (top 13)) (C8.fnScope (top 13)) .none kV_istimes dc_istimes pm_istimes an_istimes cd_istimes ct_istimes), sl_istimes⟩)
    (y51 : PySem.W.codeIn K cd_istimes "is_times" = true)
    (y52 : PySem.W.keepIn K (.ref f_istimes) = true)
    (y53 : PySem.W.nsIn K mainGlobals "need_size" = some (some (.ref f_needsize)))
    (y54 : K.lookup f_needsize = some ⟨oc_needsize, od_needsize, .func (PySem.W.fnOf "need_size" "need_size" (C8.fnArgs (top 22)) (C8.fnBody (top 22)) (C8.fnScope (top 22)) .none kV_needsize dc_needsize pm_needsize an_needsize cd_needsize ct_needsize), sl_needsize⟩)
    (y55 : PySem.W.codeIn K cd_needsize "need_size" = true)
    (y56 : PySem.W.keepIn K (.ref f_needsize) = true)
    (y57 : PySem.W.findIn K (.ref C) "__init__" = some (some (.ref f_init)))
    (y58 : K.lookup f_init = some ⟨oc_init, od_init, .func (PySem.W.fnOf "__init__" "FillRule.__init__" (C8.fnArgs (inClass (top 23) 0)) (C8.fnBody (inClass (top 23) 0)) (C8.fnScope (inClass (top 23) 0)) (.ref DT_init) (.ref DK_init) dc_init pm_init an_init cd_init ct_init), sl_init⟩)
    (y59 : PySem.W.codeIn K cd_init "FillRule.__init__" = true)
    (y60 : PySem.W.keepIn K (.ref f_init) = true)
    (y61 : PySem.W.isFn K (.ref f_init) = true)
    (y62 : PySem.W.findIn K (.ref C) "fill_at" = some (some (.ref f_fillat)))
    (y63 : K.lookup f_fillat = some ⟨oc_fillat, od_fillat, .func (PySem.W.fnOf "fill_at" "FillRule.fill_at" (C8.fnArgs (inClass (top 23) 2)) (C8.fnBody (inClass (top 23) 2)) (C8.fnScope (inClass (top 23) 2)) .none kV_fillat dc_fillat pm_fillat an_fillat cd_fillat ct_fillat), sl_fillat⟩)
    (y64 : PySem.W.codeIn K cd_fillat "FillRule.fill_at" = true)
    (y65 : PySem.W.keepIn K (.ref f_fillat) = true)
    (y66 : PySem.W.isFn K (.ref f_fillat) = true)
    (y67 : PySem.W.findIn K (.ref C) "least_fill" = some (some (.ref f_leastfill)))
    (y68 : K.lookup f_leastfill = some ⟨oc_leastfill, od_leastfill, .func (PySem.W.fnOf "least_fill" "FillRule.least_fill" (C8.fnArgs (inClass (top 23) 3)) (C8.fnBody (inClass (top 23) 3)) (C8.fnScope (inClass (top 23) 3)) .none kV_leastfill dc_leastfill pm_leastfill an_leastfill cd_leastfill ct_leastfill), sl_leastfill⟩)
    (y69 : PySem.W.codeIn K cd_leastfill "FillRule.least_fill" = true)
    (y70 : PySem.W.keepIn K (.ref f_leastfill) = true)
    (y71 : PySem.W.isFn K (.ref f_leastfill) = true)
    (y72 : PySem.W.findIn K (.ref C) "narrow" = some (some (.ref f_narrow)))
    (y73 : K.lookup f_narrow = some ⟨oc_narrow, od_narrow, .func (PySem.W.fnOf "narrow" "FillRule.narrow" (C8.fnArgs (inClass (top 23) 4)) (C8.fnBody (inClass (top 23) 4)) (C8.fnScope (inClass (top 23) 4)) .none kV_narrow dc_narrow pm_narrow an_narrow cd_narrow ct_narrow), sl_narrow⟩)
    (y74 : PySem.W.codeIn K cd_narrow "FillRule.narrow" = true)
    (y75 : PySem.W.keepIn K (.ref f_narrow) = true)
    (y76 : PySem.W.isFn K (.ref f_narrow) = true)
    (y77 : PySem.W.findIn K (.ref C) "is_right" = some (some (.ref f_isright)))
    (y78 : K.lookup f_isright = some ⟨oc_isright, od_isright, .func (PySem.W.fnOf "is_right" "FillRule.is_right" (C8.fnArgs (inClass (top 23) 6)) (C8.fnBody (inClass (top 23) 6)) (C8.fnScope (inClass (top 23) 6)) .none kV_isright dc_isright pm_isright an_isright cd_isright ct_isright), sl_isright⟩)
    (y79 : PySem.W.codeIn K cd_isright "FillRule.is_right" = true)
    (y80 : PySem.W.keepIn K (.ref f_isright) = true)
    (y81 : PySem.W.isFn K (.ref f_isright) = true)
    (y82 : PySem.W.findIn K (.ref C) "fits" = some (some (.ref f_fits)))
    (y83 : K.lookup f_fits = some ⟨oc_fits, od_fits, .func (PySem.W.fnOf "fits" "FillRule.fits" (C8.fnArgs (inClass (top 23) 7)) (C8.fnBody (inClass (top 23) 7)) (C8.fnScope (inClass (top 23) 7)) .none kV_fits dc_fits pm_fits an_fits cd_fits ct_fits), sl_fits⟩)
    (y84 : PySem.W.codeIn K cd_fits "FillRule.fits" = true)
    (y85 : PySem.W.keepIn K (.ref f_fits) = true)
    (y86 : PySem.W.isFn K (.ref f_fits) = true)
    (y87 : PySem.W.nsIn K mainGlobals "_law_numbers" = some (some (.ref f_numbers)))
    (y88 : K.lookup f_numbers = some ⟨oc_numbers, od_numbers, .func (PySem.W.fnOf "_law_numbers" "_law_numbers" (C8.fnArgs (top 29)) (C8.fnBody (top 29)) (C8.fnScope (top 29)) .none kV_numbers dc_numbers pm_numbers an_numbers cd_numbers ct_numbers), sl_numbers⟩)
    (y89 : PySem.W.codeIn K cd_numbers "_law_numbers" = true)
    (y90 : PySem.W.keepIn K (.ref f_numbers) = true)
    (y91 : PySem.W.nsIn K mainGlobals "_law_size" = some (some (.ref f_size)))
    (y92 : K.lookup f_size = some ⟨oc_size, od_size, .func (PySem.W.fnOf "_law_size" "_law_size" (C8.fnArgs (top 33)) (C8.fnBody (top 33)) (C8.fnScope (top 33)) .none kV_size dc_size pm_size an_size cd_size ct_size), sl_size⟩)
    (y93 : PySem.W.codeIn K cd_size "_law_size" = true)
    (y94 : PySem.W.keepIn K (.ref f_size) = true)
    (y95 : PySem.W.nsIn K mainGlobals "_law_rule" = some (some (.ref f_rule)))
    (y96 : K.lookup f_rule = some ⟨oc_rule, od_rule, .func (PySem.W.fnOf "_law_rule" "_law_rule" (C8.fnArgs (top 30)) (C8.fnBody (top 30)) (C8.fnScope (top 30)) .none kV_rule dc_rule pm_rule an_rule cd_rule ct_rule), sl_rule⟩)
    (y97 : PySem.W.codeIn K cd_rule "_law_rule" = true)
    (y98 : PySem.W.keepIn K (.ref f_rule) = true)
    (y99 : PySem.W.nsIn K mainGlobals "_law_least" = some (some (.ref f_least)))
    (y100 : K.lookup f_least = some ⟨oc_least, od_least, .func (PySem.W.fnOf "_law_least" "_law_least" (C8.fnArgs (top 31)) (C8.fnBody (top 31)) (C8.fnScope (top 31)) .none kV_least dc_least pm_least an_least cd_least ct_least), sl_least⟩)
    (y101 : PySem.W.codeIn K cd_least "_law_least" = true)
    (y102 : PySem.W.keepIn K (.ref f_least) = true)
    (y103 : PySem.W.nsIn K mainGlobals "_law_is_right" = some (some (.ref f_lawright)))
    (y104 : K.lookup f_lawright = some ⟨oc_lawright, od_lawright, .func (PySem.W.fnOf "_law_is_right" "_law_is_right" (C8.fnArgs (top 32)) (C8.fnBody (top 32)) (C8.fnScope (top 32)) .none kV_lawright dc_lawright pm_lawright an_lawright cd_lawright ct_lawright), sl_lawright⟩)
    (y105 : PySem.W.codeIn K cd_lawright "_law_is_right" = true)
    (y106 : PySem.W.keepIn K (.ref f_lawright) = true)
    (y107 : PySem.W.nsIn K mainGlobals "_law_idle" = some (some (.ref f_idle)))
    (y108 : K.lookup f_idle = some ⟨oc_idle, od_idle, .func (PySem.W.fnOf "_law_idle" "_law_idle" (C8.fnArgs (top 34)) (C8.fnBody (top 34)) (C8.fnScope (top 34)) .none kV_idle dc_idle pm_idle an_idle cd_idle ct_idle), sl_idle⟩)
    (y109 : PySem.W.codeIn K cd_idle "_law_idle" = true)
    (y110 : PySem.W.keepIn K (.ref f_idle) = true)
    (y111 : PySem.W.nsIn K mainGlobals "_law_between_right" = some (some (.ref f_between)))
    (y112 : K.lookup f_between = some ⟨oc_between, od_between, .func (PySem.W.fnOf "_law_between_right" "_law_between_right" (C8.fnArgs (top 35)) (C8.fnBody (top 35)) (C8.fnScope (top 35)) .none kV_between dc_between pm_between an_between cd_between ct_between), sl_between⟩)
    (y113 : PySem.W.codeIn K cd_between "_law_between_right" = true)
    (y114 : PySem.W.keepIn K (.ref f_between) = true)
    (y115 : PySem.W.nsIn K mainGlobals "law" = some (some (.ref f_law)))
    (y116 : K.lookup f_law = some ⟨oc_law, od_law, .func (PySem.W.fnOf "law" "law" (C8.fnArgs (top 36)) (C8.fnBody (top 36)) (C8.fnScope (top 36)) .none kV_law dc_law pm_law an_law cd_law ct_law), sl_law⟩)
    (y117 : PySem.W.codeIn K cd_law "law" = true)
    (y118 : PySem.W.keepIn K (.ref f_law) = true)
    (y119 : K.lookup DT_init = some ⟨.type "tuple", oT, .seq #[.int 0 u0] nT, slT⟩)
    (y120 : PySem.W.nsIn K DK_init "cut_of" = some (some (.int 1 u1)))
    (y121 : PySem.W.nsIn K DK_init "join_of" = some (some (.int 2 u2))) :
    ∃ fd : FuncData, (∀ (s : Shared) (v : Value), BindsTo s fd ⟨[v], []⟩ [("_law_script", v)]) ∧ ∀ base : Heap, K.In base → base.Ns mainGlobals mg → Ev.GOk l.prog w K mg base (L2.CX l.prog w) 7 fa fd ["_law_script"] (spLaw K) := by
  have e : f_law = fa := Value.ref.inj (Option.some.inj ((PySem.W.mg_of X G y115).symm.trans hfa))
  subst e
  have T : Tx K mg C := ⟨PySem.W.mg_none_of X G y1, PySem.W.mg_none_of X G y2, PySem.W.mg_none_of X G y3, PySem.W.mg_none_of X G y4, PySem.W.mg_none_of X G y5, PySem.W.mg_none_of X G y6, PySem.W.mg_none_of X G y7, PySem.W.mg_none_of X G y8, PySem.W.mg_none_of X G y9, PySem.W.mg_none_of X G y10, PySem.W.mg_none_of X G y11, PySem.W.mg_of X G y12, ⟨y13, y14, y15, y16⟩, y19, y20, y21, y22, y23, ⟨_, PySem.W.mg_of X G y24⟩, ⟨_, PySem.W.mg_of X G y25⟩, ⟨_, PySem.W.mg_of X G y26⟩, ⟨_, PySem.W.mg_of X G y27⟩, ⟨_, PySem.W.mg_of X G y28⟩⟩
  have F_draw : Ev.Fn K "_law_draw" "_law_draw" (top 27) f_draw (PySem.W.fnOf "_law_draw" "_law_draw" (C8.fnArgs (top 27)) (C8.fnBody (top 27)) (C8.fnScope (top 27)) .none kV_draw dc_draw pm_draw an_draw cd_draw ct_draw) := ⟨⟨_, _, _, _, _, _, _, _, _, _, rfl, y30, y31⟩⟩
  have b_draw : Binds K (PySem.W.fnOf "_law_draw" "_law_draw" (C8.fnArgs (top 27)) (C8.fnBody (top 27)) (C8.fnScope (top 27)) .none kV_draw dc_draw pm_draw an_draw cd_draw ct_draw) ["_law_pen_here", "_law_many"] [] := Binds.all fun us hl => match us, hl with | [_, _], _ => rfl
  have F_pen : Ev.Fn K "_law_pen" "_law_pen" (top 26) f_pen (PySem.W.fnOf "_law_pen" "_law_pen" (C8.fnArgs (top 26)) (C8.fnBody (top 26)) (C8.fnScope (top 26)) .none kV_pen dc_pen pm_pen an_pen cd_pen ct_pen) := ⟨⟨_, _, _, _, _, _, _, _, _, _, rfl, y34, y35⟩⟩
  have b_pen : Binds K (PySem.W.fnOf "_law_pen" "_law_pen" (C8.fnArgs (top 26)) (C8.fnBody (top 26)) (C8.fnScope (top 26)) .none kV_pen dc_pen pm_pen an_pen cd_pen ct_pen) ["_law_script"] [] := Binds.all fun us hl => match us, hl with | [_], _ => rfl
  have F_lesser : Ev.Fn K "lesser" "lesser" (top 10) f_lesser (PySem.W.fnOf "lesser" "lesser" (C8.fnArgs (top 10)) (C8.fnBody (top 10)) (C8.fnScope (top 10)) .none kV_lesser dc_lesser pm_lesser an_lesser cd_lesser ct_lesser) := ⟨⟨_, _, _, _, _, _, _, _, _, _, rfl, y38, y39⟩⟩
  have b_lesser : Binds K (PySem.W.fnOf "lesser" "lesser" (C8.fnArgs (top 10)) (C8.fnBody (top 10)) (C8.fnScope (top 10)) .none kV_lesser dc_lesser pm_lesser an_lesser cd_lesser ct_lesser) ["one", "other"] [] := Binds.all fun us hl => match us, hl with | [_, _], _ => rfl
  have F_isint : Ev.Fn K "is_integer" "is_integer" (top 7) f_isint (PySem.W.fnOf "is_integer" "is_integer" (C8.fnArgs (top 7)) (C8.fnBody (top 7)) (C8.fnScope (top 7)) .none kV_isint dc_isint pm_isint an_isint cd_isint ct_isint) := ⟨⟨_, _, _, _, _, _, _, _, _, _, rfl, y42, y43⟩⟩
  have b_isint : Binds K (PySem.W.fnOf "is_integer" "is_integer" (C8.fnArgs (top 7)) (C8.fnBody (top 7)) (C8.fnScope (top 7)) .none kV_isint dc_isint pm_isint an_isint cd_isint ct_isint) ["value"] [] := Binds.all fun us hl => match us, hl with | [_], _ => rfl
  have F_within : Ev.Fn K "is_within" "is_within" (top 8) f_within (PySem.W.fnOf "is_within" "is_within" (C8.fnArgs (top 8)) (C8.fnBody (top 8)) (C8.fnScope (top 8)) .none kV_within dc_within pm_within an_within cd_within ct_within) := ⟨⟨_, _, _, _, _, _, _, _, _, _, rfl, y46, y47⟩⟩
  have b_within : Binds K (PySem.W.fnOf "is_within" "is_within" (C8.fnArgs (top 8)) (C8.fnBody (top 8)) (C8.fnScope (top 8)) .none kV_within dc_within pm_within an_within cd_within ct_within) ["value", "least", "most"] [] := Binds.all fun us hl => match us, hl with | [_, _, _], _ => rfl
  have F_istimes : Ev.Fn K "is_times" "is_times" (top 13) f_istimes (PySem.W.fnOf "is_times" "is_times" (C8.fnArgs (top 13)) (C8.fnBody (top 13)) (C8.fnScope (top 13)) .none kV_istimes dc_istimes pm_istimes an_istimes cd_istimes ct_istimes) := ⟨⟨_, _, _, _, _, _, _, _, _, _, rfl, y50, y51⟩⟩
  have b_istimes : Binds K (PySem.W.fnOf "is_times" "is_times" (C8.fnArgs (top 13)) (C8.fnBody (top 13)) (C8.fnScope (top 13)) .none kV_istimes dc_istimes pm_istimes an_istimes cd_istimes ct_istimes) ["value", "most"] [] := Binds.all fun us hl => match us, hl with | [_, _], _ => rfl
  have F_needsize : Ev.Fn K "need_size" "need_size" (top 22) f_needsize (PySem.W.fnOf "need_size" "need_size" (C8.fnArgs (top 22)) (C8.fnBody (top 22)) (C8.fnScope (top 22)) .none kV_needsize dc_needsize pm_needsize an_needsize cd_needsize ct_needsize) := ⟨⟨_, _, _, _, _, _, _, _, _, _, rfl, y54, y55⟩⟩
  have b_needsize : Binds K (PySem.W.fnOf "need_size" "need_size" (C8.fnArgs (top 22)) (C8.fnBody (top 22)) (C8.fnScope (top 22)) .none kV_needsize dc_needsize pm_needsize an_needsize cd_needsize ct_needsize) ["value"] [] := Binds.all fun us hl => match us, hl with | [_], _ => rfl
  have F_init : Ev.Fn K "__init__" "FillRule.__init__" (inClass (top 23) 0) f_init (PySem.W.fnOf "__init__" "FillRule.__init__" (C8.fnArgs (inClass (top 23) 0)) (C8.fnBody (inClass (top 23) 0)) (C8.fnScope (inClass (top 23) 0)) (.ref DT_init) (.ref DK_init) dc_init pm_init an_init cd_init ct_init) := ⟨⟨_, _, _, _, _, _, _, _, _, _, rfl, y58, y59⟩⟩
  have F_fillat : Ev.Fn K "fill_at" "FillRule.fill_at" (inClass (top 23) 2) f_fillat (PySem.W.fnOf "fill_at" "FillRule.fill_at" (C8.fnArgs (inClass (top 23) 2)) (C8.fnBody (inClass (top 23) 2)) (C8.fnScope (inClass (top 23) 2)) .none kV_fillat dc_fillat pm_fillat an_fillat cd_fillat ct_fillat) := ⟨⟨_, _, _, _, _, _, _, _, _, _, rfl, y63, y64⟩⟩
  have b_fillat : Binds K (PySem.W.fnOf "fill_at" "FillRule.fill_at" (C8.fnArgs (inClass (top 23) 2)) (C8.fnBody (inClass (top 23) 2)) (C8.fnScope (inClass (top 23) 2)) .none kV_fillat dc_fillat pm_fillat an_fillat cd_fillat ct_fillat) ["self", "most"] [] := Binds.all fun us hl => match us, hl with | [_, _], _ => rfl
  have F_leastfill : Ev.Fn K "least_fill" "FillRule.least_fill" (inClass (top 23) 3) f_leastfill (PySem.W.fnOf "least_fill" "FillRule.least_fill" (C8.fnArgs (inClass (top 23) 3)) (C8.fnBody (inClass (top 23) 3)) (C8.fnScope (inClass (top 23) 3)) .none kV_leastfill dc_leastfill pm_leastfill an_leastfill cd_leastfill ct_leastfill) := ⟨⟨_, _, _, _, _, _, _, _, _, _, rfl, y68, y69⟩⟩
  have b_leastfill : Binds K (PySem.W.fnOf "least_fill" "FillRule.least_fill" (C8.fnArgs (inClass (top 23) 3)) (C8.fnBody (inClass (top 23) 3)) (C8.fnScope (inClass (top 23) 3)) .none kV_leastfill dc_leastfill pm_leastfill an_leastfill cd_leastfill ct_leastfill) ["self", "most"] [] := Binds.all fun us hl => match us, hl with | [_, _], _ => rfl
  have F_narrow : Ev.Fn K "narrow" "FillRule.narrow" (inClass (top 23) 4) f_narrow (PySem.W.fnOf "narrow" "FillRule.narrow" (C8.fnArgs (inClass (top 23) 4)) (C8.fnBody (inClass (top 23) 4)) (C8.fnScope (inClass (top 23) 4)) .none kV_narrow dc_narrow pm_narrow an_narrow cd_narrow ct_narrow) := ⟨⟨_, _, _, _, _, _, _, _, _, _, rfl, y73, y74⟩⟩
  have b_narrow : Binds K (PySem.W.fnOf "narrow" "FillRule.narrow" (C8.fnArgs (inClass (top 23) 4)) (C8.fnBody (inClass (top 23) 4)) (C8.fnScope (inClass (top 23) 4)) .none kV_narrow dc_narrow pm_narrow an_narrow cd_narrow ct_narrow) ["self"] [] := Binds.all fun us hl => match us, hl with | [_], _ => rfl
  have F_isright : Ev.Fn K "is_right" "FillRule.is_right" (inClass (top 23) 6) f_isright (PySem.W.fnOf "is_right" "FillRule.is_right" (C8.fnArgs (inClass (top 23) 6)) (C8.fnBody (inClass (top 23) 6)) (C8.fnScope (inClass (top 23) 6)) .none kV_isright dc_isright pm_isright an_isright cd_isright ct_isright) := ⟨⟨_, _, _, _, _, _, _, _, _, _, rfl, y78, y79⟩⟩
  have b_isright : Binds K (PySem.W.fnOf "is_right" "FillRule.is_right" (C8.fnArgs (inClass (top 23) 6)) (C8.fnBody (inClass (top 23) 6)) (C8.fnScope (inClass (top 23) 6)) .none kV_isright dc_isright pm_isright an_isright cd_isright ct_isright) ["self", "most"] [] := Binds.all fun us hl => match us, hl with | [_, _], _ => rfl
  have F_fits : Ev.Fn K "fits" "FillRule.fits" (inClass (top 23) 7) f_fits (PySem.W.fnOf "fits" "FillRule.fits" (C8.fnArgs (inClass (top 23) 7)) (C8.fnBody (inClass (top 23) 7)) (C8.fnScope (inClass (top 23) 7)) .none kV_fits dc_fits pm_fits an_fits cd_fits ct_fits) := ⟨⟨_, _, _, _, _, _, _, _, _, _, rfl, y83, y84⟩⟩
  have b_fits : Binds K (PySem.W.fnOf "fits" "FillRule.fits" (C8.fnArgs (inClass (top 23) 7)) (C8.fnBody (inClass (top 23) 7)) (C8.fnScope (inClass (top 23) 7)) .none kV_fits dc_fits pm_fits an_fits cd_fits ct_fits) ["self", "most"] [] := Binds.all fun us hl => match us, hl with | [_, _], _ => rfl
  have F_numbers : Ev.Fn K "_law_numbers" "_law_numbers" (top 29) f_numbers (PySem.W.fnOf "_law_numbers" "_law_numbers" (C8.fnArgs (top 29)) (C8.fnBody (top 29)) (C8.fnScope (top 29)) .none kV_numbers dc_numbers pm_numbers an_numbers cd_numbers ct_numbers) := ⟨⟨_, _, _, _, _, _, _, _, _, _, rfl, y88, y89⟩⟩
  have b_numbers : Binds K (PySem.W.fnOf "_law_numbers" "_law_numbers" (C8.fnArgs (top 29)) (C8.fnBody (top 29)) (C8.fnScope (top 29)) .none kV_numbers dc_numbers pm_numbers an_numbers cd_numbers ct_numbers) ["_law_pen_here"] [] := Binds.all fun us hl => match us, hl with | [_], _ => rfl
  have F_size : Ev.Fn K "_law_size" "_law_size" (top 33) f_size (PySem.W.fnOf "_law_size" "_law_size" (C8.fnArgs (top 33)) (C8.fnBody (top 33)) (C8.fnScope (top 33)) .none kV_size dc_size pm_size an_size cd_size ct_size) := ⟨⟨_, _, _, _, _, _, _, _, _, _, rfl, y92, y93⟩⟩
  have b_size : Binds K (PySem.W.fnOf "_law_size" "_law_size" (C8.fnArgs (top 33)) (C8.fnBody (top 33)) (C8.fnScope (top 33)) .none kV_size dc_size pm_size an_size cd_size ct_size) ["_law_pen_here"] [] := Binds.all fun us hl => match us, hl with | [_], _ => rfl
  have F_rule : Ev.Fn K "_law_rule" "_law_rule" (top 30) f_rule (PySem.W.fnOf "_law_rule" "_law_rule" (C8.fnArgs (top 30)) (C8.fnBody (top 30)) (C8.fnScope (top 30)) .none kV_rule dc_rule pm_rule an_rule cd_rule ct_rule) := ⟨⟨_, _, _, _, _, _, _, _, _, _, rfl, y96, y97⟩⟩
  have b_rule : Binds K (PySem.W.fnOf "_law_rule" "_law_rule" (C8.fnArgs (top 30)) (C8.fnBody (top 30)) (C8.fnScope (top 30)) .none kV_rule dc_rule pm_rule an_rule cd_rule ct_rule) ["_law_told"] [] := Binds.all fun us hl => match us, hl with | [_], _ => rfl
  have F_least : Ev.Fn K "_law_least" "_law_least" (top 31) f_least (PySem.W.fnOf "_law_least" "_law_least" (C8.fnArgs (top 31)) (C8.fnBody (top 31)) (C8.fnScope (top 31)) .none kV_least dc_least pm_least an_least cd_least ct_least) := ⟨⟨_, _, _, _, _, _, _, _, _, _, rfl, y100, y101⟩⟩
  have b_least : Binds K (PySem.W.fnOf "_law_least" "_law_least" (C8.fnArgs (top 31)) (C8.fnBody (top 31)) (C8.fnScope (top 31)) .none kV_least dc_least pm_least an_least cd_least ct_least) ["_law_told", "_law_top"] [] := Binds.all fun us hl => match us, hl with | [_, _], _ => rfl
  have F_lawright : Ev.Fn K "_law_is_right" "_law_is_right" (top 32) f_lawright (PySem.W.fnOf "_law_is_right" "_law_is_right" (C8.fnArgs (top 32)) (C8.fnBody (top 32)) (C8.fnScope (top 32)) .none kV_lawright dc_lawright pm_lawright an_lawright cd_lawright ct_lawright) := ⟨⟨_, _, _, _, _, _, _, _, _, _, rfl, y104, y105⟩⟩
  have b_lawright : Binds K (PySem.W.fnOf "_law_is_right" "_law_is_right" (C8.fnArgs (top 32)) (C8.fnBody (top 32)) (C8.fnScope (top 32)) .none kV_lawright dc_lawright pm_lawright an_lawright cd_lawright ct_lawright) ["_law_told", "_law_top"] [] := Binds.all fun us hl => match us, hl with | [_, _], _ => rfl
  have F_idle : Ev.Fn K "_law_idle" "_law_idle" (top 34) f_idle (PySem.W.fnOf "_law_idle" "_law_idle" (C8.fnArgs (top 34)) (C8.fnBody (top 34)) (C8.fnScope (top 34)) .none kV_idle dc_idle pm_idle an_idle cd_idle ct_idle) := ⟨⟨_, _, _, _, _, _, _, _, _, _, rfl, y108, y109⟩⟩
  have b_idle : Binds K (PySem.W.fnOf "_law_idle" "_law_idle" (C8.fnArgs (top 34)) (C8.fnBody (top 34)) (C8.fnScope (top 34)) .none kV_idle dc_idle pm_idle an_idle cd_idle ct_idle) ["_law_told", "_law_by"] [] := Binds.all fun us hl => match us, hl with | [_, _], _ => rfl
  have F_between : Ev.Fn K "_law_between_right" "_law_between_right" (top 35) f_between (PySem.W.fnOf "_law_between_right" "_law_between_right" (C8.fnArgs (top 35)) (C8.fnBody (top 35)) (C8.fnScope (top 35)) .none kV_between dc_between pm_between an_between cd_between ct_between) := ⟨⟨_, _, _, _, _, _, _, _, _, _, rfl, y112, y113⟩⟩
  have b_between : Binds K (PySem.W.fnOf "_law_between_right" "_law_between_right" (C8.fnArgs (top 35)) (C8.fnBody (top 35)) (C8.fnScope (top 35)) .none kV_between dc_between pm_between an_between cd_between ct_between) ["_law_made", "_law_top", "_law_step"] [] := Binds.all fun us hl => match us, hl with | [_, _, _], _ => rfl
  have F_law : Ev.Fn K "law" "law" (top 36) f_law (PySem.W.fnOf "law" "law" (C8.fnArgs (top 36)) (C8.fnBody (top 36)) (C8.fnScope (top 36)) .none kV_law dc_law pm_law an_law cd_law ct_law) := ⟨⟨_, _, _, _, _, _, _, _, _, _, rfl, y116, y117⟩⟩
  have b_law : Binds K (PySem.W.fnOf "law" "law" (C8.fnArgs (top 36)) (C8.fnBody (top 36)) (C8.fnScope (top 36)) .none kV_law dc_law pm_law an_law cd_law ct_law) ["_law_script"] [] := Binds.all fun us hl => match us, hl with | [_], _ => rfl
  have FD : FunD K "__init__" "FillRule.__init__" (C8.fnArgs (inClass (top 23) 0)) (C8.fnBody (inClass (top 23) 0)) (C8.fnScope (inClass (top 23) 0)) [.int 0] [("cut_of", .int 1), ("join_of", .int 2)] f_init (PySem.W.fnOf "__init__" "FillRule.__init__" (C8.fnArgs (inClass (top 23) 0)) (C8.fnBody (inClass (top 23) 0)) (C8.fnScope (inClass (top 23) 0)) (.ref DT_init) (.ref DK_init) dc_init pm_init an_init cd_init ct_init) := ⟨⟨_, _, _, _, _, _, _, _, _, _, rfl, y58, y59, Or.inr ⟨by simp, DT_init, _, [.int 0 u0], _, rfl, y119, rfl, .cons ⟨_, rfl⟩ .nil⟩, Or.inr ⟨DK_init, rfl, fun q hq => by
    rcases List.mem_cons.mp hq with rfl | hq
    · exact ⟨_, y120, ⟨_, rfl⟩⟩
    · rcases List.mem_cons.mp hq with rfl | hq
      · exact ⟨_, y121, ⟨_, rfl⟩⟩
      · cases hq⟩⟩, y60⟩
  obtain ⟨itsA, mvA, kA⟩ := FD.kbinds (ps := ["self", "times", "plus", "cut_of", "join_of"]) 3 ["cut_of", "join_of"] [] (fun us its mv ws => us ++ ws) (by simp) (by simp) (fun q hq => by cases hq) (fun r1 _ _ r4 => Vals.append r1 r4) (fun T D doc pm an cdv ct us its mv ws l1 l2 l3 l4 => match us, its, mv, ws, l1, l2, l3, l4 with
    | [_, _, _], [_], [], [_, _], _, _, _, _ => ⟨_, rfl, rfl⟩)
  obtain ⟨itsB, mvB, kB⟩ := FD.kbinds (ps := ["self", "times", "plus", "cut_of", "join_of"]) 2 ["join_of"] [("cut_of", .int 1)] (fun us its mv ws => us ++ its ++ mv ++ ws) (by simp) (by simp) (fun q hq => by rcases List.mem_cons.mp hq with rfl | hq; exact List.mem_cons_self; cases hq) (fun r1 r2 r3 r4 => Vals.append (Vals.append (Vals.append r1 r2) r3) r4) (fun T D doc pm an cdv ct us its mv ws l1 l2 l3 l4 => match us, its, mv, ws, l1, l2, l3, l4 with
    | [_, _], [_], [_], [_], _, _, _, _ => ⟨_, rfl, _, _, _, _, _, _, rfl, rfl, rfl⟩)
  refine ⟨(PySem.W.fnOf "law" "law" (C8.fnArgs (top 36)) (C8.fnBody (top 36)) (C8.fnScope (top 36)) .none kV_law dc_law pm_law an_law cd_law ct_law), fun s v => .of_eq rfl, fun base _ _ => ?_⟩
  have c_draw : Ev.GC l.prog w K mg base 1 "_law_draw" spDraw [] := ⟨⟨_, _, _, _, ok_draw F_draw T, PySem.W.mg_of X G y29, y32, b_draw, .nil⟩⟩
  have c_pen : Ev.GC l.prog w K mg base 1 "_law_pen" (spPen K) [] := ⟨⟨_, _, _, _, ok_pen F_pen T, PySem.W.mg_of X G y33, y36, b_pen, .nil⟩⟩
  have c_lesser : Ev.GC l.prog w K mg base 1 "lesser" spLesser [] := ⟨⟨_, _, _, _, ok_lesser F_lesser T, PySem.W.mg_of X G y37, y40, b_lesser, .nil⟩⟩
  have c_isint : Ev.GC l.prog w K mg base 1 "is_integer" spIsInt [] := ⟨⟨_, _, _, _, ok_isint F_isint T, PySem.W.mg_of X G y41, y44, b_isint, .nil⟩⟩
  have c_within : Ev.GC l.prog w K mg base 2 "is_within" spWithin [] := ⟨⟨_, _, _, _, ok_within F_within T c_isint, PySem.W.mg_of X G y45, y48, b_within, .nil⟩⟩
  have c_istimes : Ev.GC l.prog w K mg base 3 "is_times" spIsTimes [] := ⟨⟨_, _, _, _, ok_istimes F_istimes T c_within, PySem.W.mg_of X G y49, y52, b_istimes, .nil⟩⟩
  have c_needsize : Ev.GC l.prog w K mg base 3 "need_size" spNeed [] := ⟨⟨_, _, _, _, ok_needsize F_needsize T c_within, PySem.W.mg_of X G y53, y56, b_needsize, .nil⟩⟩
  have c_make : Ev.GN l.prog w K mg base 4 "FillRule" C (spInit C) 2 ["cut_of", "join_of"] (fun vs zs => vs ++ zs) := ⟨⟨_, _, _, _, ⟨y17, y57, y61, y18⟩, ok_init F_init T c_istimes c_within, PySem.W.mg_of X G y12, kA⟩⟩
  have c_make1 : Ev.GN l.prog w K mg base 4 "FillRule" C (spInit C) 1 ["join_of"] (fun vs zs => vs ++ [.int 0] ++ [.int 1] ++ zs) := ⟨⟨_, _, _, _, ⟨y17, y57, y61, y18⟩, ok_init F_init T c_istimes c_within, PySem.W.mg_of X G y12, kB⟩⟩
  have c_fillat : Ev.GM l.prog w K mg base 1 C "fill_at" (spFillAt C) [] := ⟨⟨_, _, _, _, T.cl, ⟨y62, y66, y65⟩, ok_fillat F_fillat T, b_fillat, .nil⟩⟩
  have c_leastfill : Ev.GM l.prog w K mg base 4 C "least_fill" (spFillAt C) [] := ⟨⟨_, _, _, _, T.cl, ⟨y67, y71, y70⟩, ok_leastfill F_leastfill T c_needsize c_fillat, b_leastfill, .nil⟩⟩
  have c_narrow : Ev.GM l.prog w K mg base 2 C "narrow" (spNarrow C) [] := ⟨⟨_, _, _, _, T.cl, ⟨y72, y76, y75⟩, ok_narrow F_narrow T c_lesser, b_narrow, .nil⟩⟩
  have c_isright : Ev.GM l.prog w K mg base 3 C "is_right" (spIsRight C) [] := ⟨⟨_, _, _, _, T.cl, ⟨y77, y81, y80⟩, ok_isright F_isright T c_fillat c_narrow, b_isright, .nil⟩⟩
  have c_fits : Ev.GM l.prog w K mg base 4 C "fits" (spIsRight C) [] := ⟨⟨_, _, _, _, T.cl, ⟨y82, y86, y85⟩, ok_fits F_fits T c_needsize c_isright, b_fits, .nil⟩⟩
  have c_numbers : Ev.GC l.prog w K mg base 2 "_law_numbers" spNumbers [] := ⟨⟨_, _, _, _, ok_numbers F_numbers T c_draw, PySem.W.mg_of X G y87, y90, b_numbers, .nil⟩⟩
  have c_size : Ev.GC l.prog w K mg base 2 "_law_size" spSize [] := ⟨⟨_, _, _, _, ok_size F_size T c_draw, PySem.W.mg_of X G y91, y94, b_size, .nil⟩⟩
  have c_rule : Ev.GC l.prog w K mg base 6 "_law_rule" (spRule C) [] := ⟨⟨_, _, _, _, ok_rule F_rule T c_make, PySem.W.mg_of X G y95, y98, b_rule, .nil⟩⟩
  have c_least : Ev.GC l.prog w K mg base 1 "_law_least" spLeast [] := ⟨⟨_, _, _, _, ok_least F_least T, PySem.W.mg_of X G y99, y102, b_least, .nil⟩⟩
  have c_lawright : Ev.GC l.prog w K mg base 2 "_law_is_right" spLawRight [] := ⟨⟨_, _, _, _, ok_lawright F_lawright T c_least, PySem.W.mg_of X G y103, y106, b_lawright, .nil⟩⟩
  have c_idle : Ev.GC l.prog w K mg base 1 "_law_idle" spIdle [] := ⟨⟨_, _, _, _, ok_idle F_idle T, PySem.W.mg_of X G y107, y110, b_idle, .nil⟩⟩
  have c_between : Ev.GC l.prog w K mg base 5 "_law_between_right" (spBetween C) [] := ⟨⟨_, _, _, _, ok_between F_between T c_fits c_leastfill, PySem.W.mg_of X G y111, y114, b_between, .nil⟩⟩
  exact ok_law F_law T c_pen c_numbers c_size c_rule c_idle c_draw c_lawright c_fits c_between c_make1
end K71

open PySem PySem.W PyProof.Rows
set_option maxRecDepth 100000 in
set_option maxHeartbeats 0 in
theorem PySem.Challenge.cw_evenrules_k71_whole_two_groups_and_one_a_holds : PySem.Challenge.rw_evenrules_k71_whole_two_groups_and_one_a.Holds := by
  w_on; o_law; k_head; (case hw => w_witness2)
  k_fill
  refine Ev.walk_g (l := PySem.Challenge.rw_evenrules_k71_whole_two_groups_and_one_a) (n := 63) (k := 7) (x := "_law_script") (sp := K71.spLaw) rfl (by decide) rfl ⟨rfl, by decide, by decide⟩ (fun w h Y => PySem.W.kIn_of Y) ?F (fun _ _ a ns hl _ _ hS => ⟨a, ns, rfl, hS, hl, fun _ => rfl⟩)
  case F =>
    intro w mg fa h KX G hmg
    refine' K71.all_mk KX G hmg ?y1 ?y2 ?y3 ?y4 ?y5 ?y6 ?y7 ?y8 ?y9 ?y10 ?y11 ?y12 ?y13 ?y14 ?y15 ?y16 ?y17 ?y18 ?y19 ?y20 ?y21 ?y22 ?y23 ?y24 ?y25 ?y26 ?y27 ?y28 ?y29 ?y30 ?y31 ?y32 ?y33 ?y34 ?y35 ?y36 ?y37 ?y38 ?y39 ?y40 ?y41 ?y42 ?y43 ?y44 ?y45 ?y46 ?y47 ?y48 ?y49 ?y50 ?y51 ?y52 ?y53 ?y54 ?y55 ?y56 ?y57 ?y58 ?y59 ?y60 ?y61 ?y62 ?y63 ?y64 ?y65 ?y66 ?y67 ?y68 ?y69 ?y70 ?y71 ?y72 ?y73 ?y74 ?y75 ?y76 ?y77 ?y78 ?y79 ?y80 ?y81 ?y82 ?y83 ?y84 ?y85 ?y86 ?y87 ?y88 ?y89 ?y90 ?y91 ?y92 ?y93 ?y94 ?y95 ?y96 ?y97 ?y98 ?y99 ?y100 ?y101 ?y102 ?y103 ?y104 ?y105 ?y106 ?y107 ?y108 ?y109 ?y110 ?y111 ?y112 ?y113 ?y114 ?y115 ?y116 ?y117 ?y118 ?y119 ?y120 ?y121
    (case y1 => k_is)
    (case y2 => k_is)
    (case y3 => k_is)
    (case y4 => k_is)
    (case y5 => k_is)
    (case y6 => k_is)
    (case y7 => k_is)
    (case y8 => k_is)
    (case y9 => k_is)
    (case y10 => k_is)
    (case y11 => k_is)
    (case y12 => k_is)
    (case y13 => k_is)
    (case y14 => k_is)
    (case y15 => k_is)
    (case y16 => k_is)
    (case y17 => k_is)
    (case y18 => k_is)
    (case y19 => k_is)
    (case y20 => k_is)
    (case y21 => k_is)
    (case y22 => k_is)
    (case y23 => k_is)
    (case y24 => k_is)
    (case y25 => k_is)
    (case y26 => k_is)
    (case y27 => k_is)
    (case y28 => k_is)
    (case y29 => k_is)
    (case y30 => k_is)
    (case y31 => k_is)
    (case y32 => k_is)
    (case y33 => k_is)
    (case y34 => k_is)
    (case y35 => k_is)
    (case y36 => k_is)
    (case y37 => k_is)
    (case y38 => k_is)
    (case y39 => k_is)
    (case y40 => k_is)
    (case y41 => k_is)
    (case y42 => k_is)
    (case y43 => k_is)
    (case y44 => k_is)
    (case y45 => k_is)
    (case y46 => k_is)
    (case y47 => k_is)
    (case y48 => k_is)
    (case y49 => k_is)
    (case y50 => k_is)
    (case y51 => k_is)
    (case y52 => k_is)
    (case y53 => k_is)
    (case y54 => k_is)
    (case y55 => k_is)
    (case y56 => k_is)
    (case y57 => k_is)
    (case y58 => k_is)
    (case y59 => k_is)
    (case y60 => k_is)
    (case y61 => k_is)
    (case y62 => k_is)
    (case y63 => k_is)
    (case y64 => k_is)
    (case y65 => k_is)
    (case y66 => k_is)
    (case y67 => k_is)
    (case y68 => k_is)
    (case y69 => k_is)
    (case y70 => k_is)
    (case y71 => k_is)
    (case y72 => k_is)
    (case y73 => k_is)
    (case y74 => k_is)
    (case y75 => k_is)
    (case y76 => k_is)
    (case y77 => k_is)
    (case y78 => k_is)
    (case y79 => k_is)
    (case y80 => k_is)
    (case y81 => k_is)
    (case y82 => k_is)
    (case y83 => k_is)
    (case y84 => k_is)
    (case y85 => k_is)
    (case y86 => k_is)
    (case y87 => k_is)
    (case y88 => k_is)
    (case y89 => k_is)
    (case y90 => k_is)
    (case y91 => k_is)
    (case y92 => k_is)
    (case y93 => k_is)
    (case y94 => k_is)
    (case y95 => k_is)
    (case y96 => k_is)
    (case y97 => k_is)
    (case y98 => k_is)
    (case y99 => k_is)
    (case y100 => k_is)
    (case y101 => k_is)
    (case y102 => k_is)
    (case y103 => k_is)
    (case y104 => k_is)
    (case y105 => k_is)
    (case y106 => k_is)
    (case y107 => k_is)
    (case y108 => k_is)
    (case y109 => k_is)
    (case y110 => k_is)
    (case y111 => k_is)
    (case y112 => k_is)
    (case y113 => k_is)
    (case y114 => k_is)
    (case y115 => k_is)
    (case y116 => k_is)
    (case y117 => k_is)
    (case y118 => k_is)
    (case y119 => k_is)
    (case y120 => k_is)
    (case y121 => k_is)
#print axioms PySem.Challenge.cw_evenrules_k71_whole_two_groups_and_one_a_holds
