import PyProof.Rows.All
import Wide.All
import OpenK.AllK
import Wide.FinOn
import HandS.ForMost
import HandS.ForExc
import HandS.Wide
import HandS.Codes
import HandS.EndBits
import HandS.MakeKwOnly
import HandS.IsInst
import HandS.FStrTup
import HandS.TupAny
import HandS.Style
import HandS.Star
import KE.KOpsOwn
import PyProof.InstNe
import KE.KCallOwn
import KE.KMethU
import HandS.ClsMeth
import HandS.Zip
import HandS.TupMul
import HandS.OwnEq
import HandS.ExcInit
import HandS.TryOnly
import HandS.Lambda
import HandS.FStr
import HandS.Small
import HandS.SuiteRaise
import HandS.RaiseFrom
import HandS.TryMany
import KE.OsRunLaw
import HandS.Conv
import HandS.ExcIs
import HandS.ExcField
import HandS.ExcValue
import KE.KExcIs
import PyProof.StrBlock2
import HandS.Text
import PyProof.Draws
import HandS.RaiseMore
import KE.KTupSum
import HandS.Property
import HandS.IterNext
import HandS.IterVal
import KE.KEqNest
import PyProof.NeKinds
import HandS.GenCall
import HandS.GenList
import Open.Seg
import HandS.SortInts
import HandS.Walk
import PySem.Challenge.RW_evenrules_k29_whole_heights_by_all_split
set_option Elab.async false
set_option linter.all false
set_option maxRecDepth 100000
set_option pp.maxSteps 1500
set_option pp.deepTerms false
set_option maxHeartbeats 4000000
namespace K29.Hd
open PySem PySem.W PySem.Calls PyProof.Rows
noncomputable def lkF : { F : Program → Heap → (Addr → Option Obj) → Array GenState → Bool // ∀ (p : Program) (h0 h : Heap) (gs : Array GenState) (d : Drawn) (tk : Nat) (os : OsState) (g : Addr → Option Obj), Heap.get? h = g → HeadRun.looksF p h0 ⟨h, gs, d, tk, os⟩ = F p h0 g gs } :=
  ⟨?_, fun p h0 h gs d tk os g e => by
    delta HeadRun.looksF
    delta PySem.W.staticsOk PySem.W.namesBound PySem.W.laidKept PySem.W.gensDone PySem.Heap.isNs PySem.Heap.nsKeys PySem.Heap.nsMap
    dsimp only
    rw [e]⟩
noncomputable def sqF : { F : Program → List Str → List Str → List (Str × WData) → WRecords → (Addr → Option Obj) → Array GenState → _ // ∀ (q : Program) (loose mods : List Str) (lv : List (Str × WData)) (R : WRecords) (h : Heap) (gs : Array GenState) (d : Drawn) (tk : Nat) (os : OsState) (g : Addr → Option Obj), Heap.get? h = g →
    HeadRun.seenQ q loose mods (fun s => xlAt q lv s && recOk R s) ⟨h, gs, d, tk, os⟩ = F q loose mods lv R g gs } :=
  ⟨?_, fun q loose mods lv R h gs d tk os g e => by
    delta HeadRun.seenQ
    delta PySem.W.Fast.tw4187177175401517315 PySem.W.Fast.tw5160383126252970620 PySem.W.Fast.tw2020367076256383516 PySem.W.Fast.tw298464707033697862 PySem.W.Fast.tw11398356212714688179 PySem.W.Fast.tw8920871248978507458 PySem.W.Fast.tw2817317335113233408 PySem.W.Fast.tw1081197705613022005 PySem.Heap.isNs PySem.W.Fast.tw16017708745293785899 PySem.W.Fast.tw15623941606353435126 PySem.W.Fast.tw912232860611745870 PySem.Heap.bltView PySem.Heap.nsPairs PySem.W.Fast.tw10880121769531294198 PySem.Heap.nsKeys PySem.W.Fast.tw14722251495701143533 PySem.W.Fast.tw10994771534591457954 PySem.W.Fast.tw9904233695019617717 PySem.W.Fast.tw5263368880259041517 PySem.W.Fast.tw14927025687674330080 PySem.W.Fast.tw479339242167458305 PySem.W.Fast.tw5930804224584009831 PySem.W.Fast.tw7193348484503787722 PySem.W.Fast.tw5244371056499926238 PySem.W.Fast.tw2578726214315757710 PySem.W.Fast.tw3277482597662649166 PySem.W.Fast.tw9649274521512697073 PySem.W.Fast.tw16090120013241838585 PySem.W.Fast.tw7359684028686041444 PySem.W.Fast.tw18429517753735259766 PySem.W.Fast.tw2488268039334873116 PySem.W.Fast.tw2386780881361962483 PySem.W.Fast.tw15717526521509864196 PySem.W.Fast.tw11698064438423848299 PySem.W.Fast.tw5555851639681330969 PySem.W.Fast.tw5776809815495173689 PySem.W.Fast.tw2104597623119524560 PySem.W.Fast.tw5970729317478709303 PySem.W.Fast.tw7317090234206586261 PySem.W.Fast.tw17916874912237369181 PySem.W.Fast.tw18415734462268123781 PySem.W.Fast.tw17913588196522330232 PySem.W.Fast.tw6488979404369697443 PySem.W.Fast.tw4746668214238765733 PySem.W.Fast.tw5339041792150306595 PySem.W.Fast.tw964301259703733418 PySem.W.Fast.tw13445708840846046136 PySem.W.litsAt._f PySem.W.Fast.tw15977364157196396599 PySem.W.Fast.tw1696807537771891022 PySem.W.Fast.tw7369524293546568484 PySem.W.Fast.tw18187449340191768954 PySem.W.Fast.tw1330114474539944938 PySem.W.Fast.tw4448462502746266218 PySem.W.Fast.tw10826909745831765583 PySem.W.Fast.tw8455316765594285451 PySem.W.Fast.tw1599894383341104664 PySem.W.Fast.tw18387853809812945965 PySem.W.staticsOk PySem.Heap.nsMap PySem.W.namesBound PySem.W.gensDone PySem.W.laidKept PySem.W.xlAt PySem.Flt.mathXt PySem.Flt.modTest PySem.Flt.patTest PySem.W.litAt PySem.W.litAt._f PySem.W.recOk PySem.W.recordClass PySem.W.strKeyed PySem.Heap.nsFind? PySem.W.ownDict PySem.W.lets PySem.classAt PySem.globalOf
    dsimp only
    rw [e]⟩
theorem one {x : Option SharedT} {p : Program} {h0 : Heap} {q : Program} {loose mods : List Str} {lv : List (Str × WData)} {R : WRecords} {as : List Addr} {r : Option (Bool × _ × List (Option Obj))}
    (h : x.map (fun s => (lkF.1 p h0 (HeadRun.getT s) s.gens, sqF.1 q loose mods lv R (HeadRun.getT s) s.gens, as.map (HeadRun.getT s))) = r) :
    x.map (fun s => (HeadRun.looksF p h0 s.abs, HeadRun.seenQ q loose mods (fun s => xlAt q lv s && recOk R s) s.abs, as.map (HeadRun.getT s))) = r := by
  rw [← h]
  refine congrArg (fun f => Option.map f x) (funext fun s => ?_)
  have e : Heap.get? s.abs.heap = HeadRun.getT s := funext fun a => (HeadRun.getT_eq s a).symm
  rw [← lkF.2 p h0 s.abs.heap s.gens s.drawn s.toks s.os _ e, ← sqF.2 q loose mods lv R s.abs.heap s.gens s.drawn s.toks s.os _ e]
  rfl
def q0 : Program := view (PySem.Challenge.rw_evenrules_k29_whole_heights_by_all_split).row.prog [46]
abbrev lo0 : List PySem.Str := [Str.ofString "FairError", Str.ofString "BadRule", Str.ofString "NoHalves", Str.ofString "BadNumber", Str.ofString "BadText", Str.ofString "is_integer", Str.ofString "is_within", Str.ofString "MOST_PLUS", Str.ofString "MOST_TURN", Str.ofString "MOST_WEIGHT", Str.ofString "Rule", Str.ofString "is_times", Str.ofString "need_plus", Str.ofString "need_weight", Str.ofString "WeightRule", Str.ofString "TurnRule", Str.ofString "TryRule", Str.ofString "number_in", Str.ofString "pair_in", Str.ofString "numbers_in", Str.ofString "read_rule", Str.ofString "need_weight_rule", Str.ofString "MOST_HEIGHT", Str.ofString "MOST_KEYS", Str.ofString "need_number", Str.ofString "higher", Str.ofString "least_keys", Str.ofString "heights", Str.ofString "highest", Str.ofString "greatest_height"]
abbrev lo1 : List PySem.Str := [Str.ofString "least_height", Str.ofString "_law_pen", Str.ofString "_law_draw", Str.ofString "_law_pick", Str.ofString "_law_numbers", Str.ofString "_law_rule", Str.ofString "_law_top", Str.ofString "_law_is_even", Str.ofString "_law_seen", Str.ofString "_law_right"]
def loose : List PySem.Str := lo0 ++ lo1
end K29.Hd
namespace K29
open PySem PySem.W PyProof.Rows
local macro_rules | `(tactic| k_head) => `(tactic| k_headL)
set_option hygiene false in
local macro_rules | `(tactic| o_headL $H) => `(tactic| (refine holds_open (q := K29.Hd.q0) (loose := K29.Hd.loose) (Xt := fun s => xlAt K29.Hd.q0 [] s && recOk (OpenRow.toRowW (OpenLaw.row PySem.Challenge.rw_evenrules_k29_whole_heights_by_all_split)).records s) (XP := XL K29.Hd.q0 []) (Yf := Hook.obs $H) (Ya := Hook.val $H) (YP := Hook.says $H) (N := 40800) ?hl (Hook.of $H) (Hook.keeps $H) (fun s e => xl_of s (Bool.and_eq_true_iff.mp e).1) XL.keeps (by rfl) (by rfl) (by rfl) (fun s e => recFacts_of (Bool.and_eq_true_iff.mp e).2) (by rfl) (by first | assumption | decide +kernel) (by decide +kernel) ⟨rfl, rfl, rfl, rfl, rfl, by decide +kernel⟩ ?hw ?hc; (case hl => (refine HeadRun.left_oneK (M := 40000) (by kernel_rfl) (by rfl) (fun s => by kernel_rfl) (by rfl) ?_; intro w os; refine K29.Hd.one ?_; kernel_rfl))))
open_top head for PySem.Challenge.rw_evenrules_k29_whole_heights_by_all_split
end K29
namespace Ev
open PySem L2
theorem get_new {H : Hp} {p q : Addr} {o u : HO} (h : H q = some o) (hp : H p = none) : upd H p u q = some o := (upd_ne (ne_of_none h hp)).trans h
theorem get_ne {H : Hp} {p q : Addr} {o u : HO} (hn : q ≠ p) (h : H q = some o) : upd H p u q = some o := (upd_ne hn).trans h
def But (p : Addr) (H H' : Hp) : Prop := ∀ b o, H b = some o → b ≠ p → H' b = some o
theorem But.refl (p : Addr) (H : Hp) : But p H H := fun _ _ h _ => h
theorem But.trans {p : Addr} {H H1 H2 : Hp} (a : But p H H1) (b : But p H1 H2) : But p H H2 := fun c o h n => b c o (a c o h n) n
theorem But.new {p q : Addr} {H H1 : Hp} {o : HO} (a : But p H H1) (h : H1 q = none) : But p H (upd H1 q o) := fun c u e n => get_new (a c u e n) h
theorem But.set {p : Addr} {H H1 : Hp} {o : HO} (a : But p H H1) : But p H (upd H1 p o) := fun c u e n => get_ne n (a c u e n)
theorem dpa_ints (K : PySem.W.Frag) (H : Hp) : ∀ ns : List Int, DpAll K H (ns.map V.int) (ns.map PyData.int)
  | [] => .nil
  | n :: r => .cons (.int n) (dpa_ints K H r)
theorem dp_ints {K : PySem.W.Frag} {H : Hp} {a : Addr} {ns : List Int} (h : SqL K H a (ns.map V.int)) : Dp K H (.ref a) (.list (ns.map PyData.int)) := .lst h (dpa_ints K H ns)
theorem can_ints : ∀ ns : List Int, PyData.canLayAll0 (ns.map PyData.int) = true
  | [] => rfl
  | n :: r => by
    show (PyData.canLay0 (PyData.int n) && PyData.canLayAll0 (r.map PyData.int)) = true
    rw [can_ints r]
    rfl
theorem dep_ints : ∀ ns : List Int, PyData.depthAll (ns.map PyData.int) ≤ 1
  | [] => Nat.zero_le _
  | n :: r => by
    have ih := dep_ints r
    have e : PyData.depthAll ((n :: r).map PyData.int) = max (PyData.depth (PyData.int n)) (PyData.depthAll (r.map PyData.int)) := rfl
    have z : PyData.depth (PyData.int n) ≤ 1 := by
      first
        | exact Nat.zero_le _
        | exact Nat.le_refl _
        | decide
    rw [e]
    omega
theorem sh_ints (ns : List Int) : SeqAt.shaped (.list (ns.map PyData.int)) = true := by
  have h1 := can_ints ns
  have h2 := dep_ints ns
  have e : PyData.depth (.list (ns.map PyData.int)) ≤ 64 := by
    have q : PyData.depth (.list (ns.map PyData.int)) ≤ PyData.depthAll (ns.map PyData.int) + 1 := by
      first
        | exact Nat.le_refl _
        | (simp only [PyData.depth]; omega)
    omega
  show (PyData.canLay0 (.list (ns.map PyData.int)) && decide (PyData.depth (.list (ns.map PyData.int)) ≤ 64)) = true
  rw [decide_eq_true e, Bool.and_true]
  exact h1
theorem eqv_ints : ∀ ns ms : List Int, PyData.eqvAll (ns.map PyData.int) (ms.map PyData.int) = decide (ns = ms)
  | [], [] => rfl
  | [], _ :: _ => by simp [PyData.eqvAll]
  | _ :: _, [] => by simp [PyData.eqvAll]
  | n :: r, m :: t => by
    show (PyData.eqv (PyData.int n) (PyData.int m) && PyData.eqvAll (r.map PyData.int) (t.map PyData.int)) = _
    rw [eqv_ints r t]
    have e : PyData.eqv (PyData.int n) (PyData.int m) = (n == m) := rfl
    rw [e]
    by_cases h : n = m
    · subst h
      by_cases h2 : r = t
      · subst h2
        simp
      · simp [h2]
    · simp [h]
theorem ne_ints {K : PySem.W.Frag} {H : Hp} {a b : Addr} {ns ms : List Int} {Q : VK} (ha : SqL K H a (ns.map V.int)) (hb : SqL K H b (ms.map V.int)) (q : Q (.bl (!decide (ns = ms))) H) : rNeD K (.ref a) (.ref b) H Q := by
  refine ⟨_, _, dp_ints ha, dp_ints hb, sh_ints ns, sh_ints ms, ?_⟩
  have e : PyData.eqv (.list (ns.map PyData.int)) (.list (ms.map PyData.int)) = decide (ns = ms) := eqv_ints ns ms
  rw [e]
  exact q
theorem at_int {ns : List Int} {i : Int} (h0 : 0 ≤ i) (h1 : i < ns.length) : ∃ z ∈ ns, atI (ns.map V.int) i = some (.int z) := by
  have hj : i.toNat < ns.length := by omega
  refine ⟨ns[i.toNat], List.getElem_mem hj, ?_⟩
  refine at_of (j := i.toNat) (by omega) ?_
  rw [List.getElem?_map, List.getElem?_eq_getElem hj]
  rfl
theorem cut_ints (ns : List Int) (lo hi : Option Int) : ∃ ms : List Int, cutV (ns.map V.int) lo hi = ms.map V.int ∧ ms.length ≤ ns.length ∧ ∀ z ∈ ms, z ∈ ns := by
  refine ⟨(ns.drop (HT.sIx (ns.map V.int).length 0 lo)).take (HT.sIx (ns.map V.int).length (ns.map V.int).length hi - HT.sIx (ns.map V.int).length 0 lo), ?_, ?_, fun z hz => List.mem_of_mem_drop (List.mem_of_mem_take hz)⟩
  · unfold cutV
    rw [List.map_take, List.map_drop]
  · rw [List.length_take, List.length_drop]
    omega
def Pen (H : Hp) (p c : Addr) (n : Int) : Prop := ∃ (t g : Int) (ns : List Int), H p = some (.lst [.ref c, .int t, .int g]) ∧ H c = some (.lst (ns.map V.int)) ∧ 0 ≤ t ∧ t ≤ n ∧ 0 ≤ g ∧ c ≠ p ∧ ns.length ≤ 63
theorem Pen.ne {H : Hp} {p c t : Addr} {n : Int} (h : Pen H p c n) (ht : H t = none) : t ≠ p := by
  obtain ⟨a, b, ns, e, _⟩ := h
  exact (ne_of_none e ht).symm
theorem Pen.neC {H : Hp} {p c t : Addr} {n : Int} (h : Pen H p c n) (ht : H t = none) : t ≠ c := by
  obtain ⟨a, b, ns, _, e, _⟩ := h
  exact (ne_of_none e ht).symm
theorem Pen.mono {H : Hp} {p c : Addr} {n m : Int} (h : Pen H p c n) (l : n ≤ m) : Pen H p c m := by
  obtain ⟨a, b, ns, e1, e2, e3, e4, e5⟩ := h
  exact ⟨a, b, ns, e1, e2, e3, by omega, e5⟩
theorem Pen.same {H H1 : Hp} {p c : Addr} {n : Int} (h : Pen H p c n) (s : Same H H1) : Pen H1 p c n := by
  obtain ⟨a, b, ns, e1, e2, r⟩ := h
  exact ⟨a, b, ns, s _ _ e1, s _ _ e2, r⟩
theorem Pen.new {H : Hp} {p c t : Addr} {n : Int} {o : HO} (h : Pen H p c n) (ht : H t = none) : Pen (upd H t o) p c n := h.same fun _ _ e => get_new e ht
theorem Pen.set {H : Hp} {p c t : Addr} {n : Int} {o : HO} (h : Pen H p c n) (h1 : t ≠ p) (h2 : t ≠ c) : Pen (upd H t o) p c n := by
  obtain ⟨a, b, ns, e1, e2, r⟩ := h
  exact ⟨a, b, ns, get_ne h1.symm e1, get_ne h2.symm e2, r⟩
theorem Pen.but {H H1 : Hp} {p c x : Addr} {n : Int} (h : Pen H p c n) (s : But x H H1) (h1 : p ≠ x) (h2 : c ≠ x) : Pen H1 p c n := by
  obtain ⟨a, b, ns, e1, e2, r⟩ := h
  exact ⟨a, b, ns, s _ _ e1 h1, s _ _ e2 h2, r⟩
theorem But.free {p t : Addr} {H H1 : Hp} (b : But p H H1) (h : H1 t = none) (n : t ≠ p) : H t = none := by
  cases z : H t with
  | none => rfl
  | some o =>
    rw [b t o z n] at h
    cases h
theorem get_but {p q : Addr} {H H1 : Hp} {o : HO} (b : But p H H1) (hn : q ≠ p) (h : H q = some o) : H1 q = some o := b q o h hn
theorem get_same {q : Addr} {H H1 : Hp} {o : HO} (b : Same H H1) (h : H q = some o) : H1 q = some o := b q o h
theorem len_putF {f : Str} {y : V} {fs : List (Str × V)} {n : Nat} (h : fs.length ≤ n) : (putF f y fs).length ≤ n + 1 := Nat.le_trans (length_putF f y fs) (Nat.succ_le_succ h)
theorem ne_new {H : Hp} {p q : Addr} {o : HO} (h : upd H p o q = none) : q ≠ p := fun z => by
  subst z
  rw [upd_same] at h
  cases h
theorem free_upd {H : Hp} {p q : Addr} {o : HO} (h : upd H p o q = none) : H q = none := by
  have := upd_ne (H := H) (o := o) (ne_new h)
  rw [this] at h
  exact h
theorem rel_int {i : Int} {t : Tok} : RelV (.int i) (.int i t) := ⟨t, rfl⟩
theorem mul_lt {a b m n : Int} (a0 : 0 ≤ a) (b0 : 0 ≤ b) (h1 : a < m) (h2 : b < n) : 0 ≤ a * b ∧ a * b < m * n := by
  refine ⟨Int.mul_nonneg a0 b0, ?_⟩
  exact Int.lt_of_le_of_lt (Int.mul_le_mul_of_nonneg_left (Int.le_of_lt h2) a0) (Int.mul_lt_mul_of_pos_right h1 (by omega))
theorem pow3 {y t c e k : Int} (y0 : 0 ≤ y) (y1 : y < 2147483648) (t0 : 0 ≤ t) (t1 : t ≤ 100000) (c0 : 0 ≤ c) (c1 : c ≤ 1000000) (k0 : 0 ≤ k) (k1 : k ≤ 1000000) (e0 : 0 ≤ e) (e1 : e ≤ 1000000) : CPow (y * (2 * t + c) + k * t * t + e) 3 := by
  have a := mul_lt y0 (show 0 ≤ 2 * t + c by omega) y1 (show 2 * t + c < 2097152 by omega)
  have b := mul_lt k0 t0 (show k < 1048576 by omega) (show t < 131072 by omega)
  have d := mul_lt b.1 t0 b.2 (show t < 131072 by omega)
  refine ⟨by decide, by decide, ?_⟩
  omega
theorem great_nn {a B : Int} {b : Bool} (h : B ≤ a) : 0 ≤ 2 * (a - B) + (if b = true then 1 else 0) := by
  split <;> omega
end Ev
namespace Ev
open PySem PySem.Spec PyProof.Rows L2
structure GOk (P : Program) (w : World) (K : PySem.W.Frag) (mg : Str → Option Value) (base : Heap) (CX : CXT) (k : Nat) (f : Addr) (fd : FuncData) (ps : List Str) (sp : Sp) : Prop where
  len : ∀ vs H Q E, sp vs H Q E → vs.length = ps.length
  run : ∀ (A : Around) (outer : List Env) (s : Shared) (H : Hp) (args : Args) (us : List Value) (vs : List V) (Q : VK) (E : XK),
    A.guards = some [] → Room k A → Env0 P w K mg base A outer s H → BindsTo s fd args (ps.zip us) → Vals vs us → sp vs H Q E →
    codeAny (model P w) A (.call (.ref f) args) (CR CX outer P w H s Q E) s
theorem GOk.of {P : Program} {w : World} {K : PySem.W.Frag} {mg : Str → Option Value} {base : Heap} {CX : CXT} {k : Nat} {f : Addr} {fd : FuncData} {ps : List Str} {sp : Sp}
    (F : FnOk P w K mg base CX k f fd ps sp) : GOk P w K mg base CX k f fd ps sp := ⟨F.len, fun A o s H a us vs Q E _ hr => F.run A o s H a us vs Q E hr⟩
theorem GOk.mono {P : Program} {w : World} {K : PySem.W.Frag} {mg : Str → Option Value} {base : Heap} {CX : CXT} {j k : Nat} {f : Addr} {fd : FuncData} {ps : List Str} {sp : Sp}
    (F : GOk P w K mg base CX j f fd ps sp) (h : j ≤ k) : GOk P w K mg base CX k f fd ps sp := ⟨F.len, fun A o s H a us vs Q E g hr => F.run A o s H a us vs Q E g (hr.mono h)⟩
theorem GOk.imp {P : Program} {w : World} {K : PySem.W.Frag} {mg : Str → Option Value} {base : Heap} {CX : CXT} {k : Nat} {f : Addr} {fd : FuncData} {ps : List Str} {sp sp' : Sp}
    (F : GOk P w K mg base CX k f fd ps sp) (h : ∀ vs H Q E, sp' vs H Q E → sp vs H Q E) : GOk P w K mg base CX k f fd ps sp' :=
  ⟨fun vs H Q E q => F.len vs H Q E (h _ _ _ _ q), fun A o s H a us vs Q E g hr e0 hb hv q => F.run A o s H a us vs Q E g hr e0 hb hv (h _ _ _ _ q)⟩
structure Fn (K : PySem.W.Frag) (x qual : Str) (st : Stmt) (f : Addr) (fd : FuncData) : Prop where
  ex : ∃ (oc : Value) (od : Option Addr) (dV kV doc pm : Value) (an : Option Addr) (cdv ct : Value) (osl : Array (Option Value)),
    fd = PySem.W.fnOf x qual (C8.fnArgs st) (C8.fnBody st) (C8.fnScope st) dV kV doc pm an cdv ct ∧ K.lookup f = some ⟨oc, od, .func fd, osl⟩ ∧ PySem.W.codeIn K cdv qual = true
theorem gfnX {CX : CXT} {P : Program} {w : World} {K : PySem.W.Frag} {mg : Str → Option Value} {base : Heap} {x qual : Str} {st : Stmt} {f : Addr} {fd : FuncData} {N ps : List Str} {k : Nat} {sp : Sp}
    (F : Fn K x qual st f fd) (S : FnScope N ps (C8.fnScope st)) (len : ∀ vs H Q E, sp vs H Q E → vs.length = ps.length)
    (hbody : ∀ (cdv : Value) (A : Around) (outer : List Env) (s : Shared) (H : Hp) (vs : List V) (Q : VK) (E : XK), fd.code = cdv → (A.deeper (envOfC qual (C8.fnScope st) s.heap.objs.size f cdv)).guards = some [] →
      Room k (A.deeper (envOfC qual (C8.fnScope st) s.heap.objs.size f cdv)) → sp vs H Q E →
      ∃ t, PSs (cxOf CX P w K mg base N qual (C8.fnScope st) f cdv A outer s H E) (C8.fnBody st) t ∧ t { nx := fun _ H' => Q .non H', rt := Q } (start N vs) H) :
    GOk P w K mg base CX (k + 1) f fd ps sp := by
  obtain ⟨oc, od, dV, kV, doc, pm, an, cdv, ct, osl, rfl, lk, hcd⟩ := F.ex
  refine ⟨len, fun A outer s H args us vs Q E hgd hr e0 hb r hsp => ?_⟩
  have KX : K.In s.heap := e0.mod.kin.keeps (fun b o z => (e0.bs b o z).1)
  have lim : s.heap.NoLimit := e0.mod.nolimit.keeps (fun b o z => (e0.bs b o z).1)
  have kinds : ∀ y ∈ ps.zip us, (C8.fnScope st).names.lookup y.1 = some .local ∨
      ((C8.fnScope st).names.lookup y.1 = some .cell ∧ ((cellsFrom (s.heap.objs.size + 1) (C8.fnScope st).names []).lookup y.1).isSome = true) := by
    rintro ⟨n, v⟩ hy
    cases S.par n (List.of_mem_zip hy).1 with
    | inl z => exact Or.inl z
    | inr z => exact Or.inr ⟨z, PySem.W.cellsFrom_some _ _ _ (Or.inl z)⟩
  refine codeAny_call_function hr.depth (KX _ _ lk) rfl S.co S.gen rfl (PySem.W.codeRec_of KX hcd) (hb _ _ _ _ ?_)
  refine wpAny_newFunctionEnv_cells S.kind kinds (fun env he s1 x => ?_)
  cases he
  refine ⟨lim.keeps x.toInCall.keep, codeAny_func ?_⟩
  obtain ⟨t, ht, hq⟩ := hbody cdv A outer s H vs Q E rfl hgd (hr.deeper _) hsp
  refine wpAny_mono (ht.run [] s1 (start N vs) H _ (inv_start S hr.hd e0 (len _ _ _ _ hsp) r x) hq) (fun fl s' hs => ?_) (fun e s' z => z)
  cases fl with
  | ret u => exact let ⟨v, _, H', J, rv, q⟩ := hs; ⟨v, H', J.os, J.bare, J.base, J.hok, rv, q⟩
  | next => exact let ⟨_, H', J, q⟩ := hs; ⟨V.non, H', J.os, J.bare, J.base, J.hok, rfl, q⟩
  | brk => exact let ⟨_, _, _, q⟩ := hs; False.elim q
  | cont => exact let ⟨_, _, _, q⟩ := hs; False.elim q
theorem gfn0 {CX : CXT} {P : Program} {w : World} {K : PySem.W.Frag} {mg : Str → Option Value} {base : Heap} {x qual : Str} {st : Stmt} {f : Addr} {fd : FuncData} {N ps : List Str} {k : Nat} {sp : Sp}
    (F : Fn K x qual st f fd) (S : FnScope N ps (C8.fnScope st)) (len : ∀ vs H Q E, sp vs H Q E → vs.length = ps.length)
    (hbody : ∀ (cdv : Value) (A : Around) (outer : List Env) (s : Shared) (H : Hp) (vs : List V) (Q : VK) (E : XK), (A.deeper (envOfC qual (C8.fnScope st) s.heap.objs.size f cdv)).guards = some [] →
      Room k (A.deeper (envOfC qual (C8.fnScope st) s.heap.objs.size f cdv)) → sp vs H Q E →
      ∃ t, PSs (cxOf CX P w K mg base N qual (C8.fnScope st) f cdv A outer s H E).nox (C8.fnBody st) t ∧ t { nx := fun _ H' => Q .non H', rt := Q } (start N vs) H) :
    GOk P w K mg base CX (k + 1) f fd ps sp :=
  gfnX F S len fun cdv A outer s H vs Q E _ hgd hr h => let ⟨t, a, b⟩ := hbody cdv A outer s H vs Q E hgd hr h; ⟨t, a.nox, b⟩
theorem gfn0c {CX : CXT} {P : Program} {w : World} {K : PySem.W.Frag} {mg : Str → Option Value} {base : Heap} {x qual : Str} {st : Stmt} {f : Addr} {fd : FuncData} {N ps : List Str} {k : Nat} {sp : Sp}
    (F : Fn K x qual st f fd) (S : FnScope N ps (C8.fnScope st)) (len : ∀ vs H Q E, sp vs H Q E → vs.length = ps.length)
    (hbody : ∀ (cdv : Value) (A : Around) (outer : List Env) (s : Shared) (H : Hp) (vs : List V) (Q : VK) (E : XK), fd.code = cdv → (A.deeper (envOfC qual (C8.fnScope st) s.heap.objs.size f cdv)).guards = some [] →
      Room k (A.deeper (envOfC qual (C8.fnScope st) s.heap.objs.size f cdv)) → sp vs H Q E →
      ∃ t, PSs (cxOf CX P w K mg base N qual (C8.fnScope st) f cdv A outer s H E).nox (C8.fnBody st) t ∧ t { nx := fun _ H' => Q .non H', rt := Q } (start N vs) H) :
    GOk P w K mg base CX (k + 1) f fd ps sp :=
  gfnX F S len fun cdv A outer s H vs Q E hc hgd hr h => let ⟨t, a, b⟩ := hbody cdv A outer s H vs Q E hc hgd hr h; ⟨t, a.nox, b⟩
section
variable {X : Cx} {CX : CXT} {k : Nat} {f C : Addr} {fd : FuncData} {ps ks : List Str} {sp : Sp} {dvs : List V} {ds : List Value} {E : XK} {x m : Str} {p pos apos : Pos} {e o : Expr} {es : List Expr} {ta : TE} {t tk : TA} {kws : List Keyword} {n : Nat}
  {g : List Value → List Value → List Value} {gV : List V → List V → List V}
theorem run_g {pins : List (Addr × Obj)} {σ : L2.St} {H : Hp} {s : Shared} {Q : VK} {us ws bs : List Value} {zs : List V} (F : GOk X.prog X.w X.K X.mg X.base CX k f fd ps sp) (hgd : X.A.guards = some []) (hr : Room k X.A) (hx : Passes CX X E)
    (I : Inv X pins σ H s) (hb : BindsTo s fd ⟨us, ks.zip ws⟩ (ps.zip bs)) (r : Vals zs bs) (h : sp zs H Q E) : wpAny (model X.prog X.w) X.A (call (.ref f) us (ks.zip ws)) (EP X pins σ Q) X.xe s := by
  refine wpAny_call (codeAny_mono (F.run X.A X.stack s H ⟨us, ks.zip ws⟩ bs zs Q E hgd hr I.env0 hb r h) fun res s' hq => ?_)
  match res, hq with
  | .error e, hq => exact hx pins σ H s e s' I hq
  | .ok (.ret u), hq => exact I.after hq
  | .ok .next, hq => exact hq.elim
  | .ok .brk, hq => exact hq.elim
  | .ok .cont, hq => exact hq.elim
theorem run_gp {pins : List (Addr × Obj)} {σ : L2.St} {H : Hp} {s : Shared} {Q : VK} {us : List Value} {vs : List V} (F : GOk X.prog X.w X.K X.mg X.base CX k f fd ps sp) (hgd : X.A.guards = some []) (hr : Room k X.A) (hb : Binds X.K fd ps ds) (hd : Vals dvs ds) (hx : Passes CX X E)
    (I : Inv X pins σ H s) (r : Vals vs us) (h : sp (vs ++ dvs) H Q E) : wpAny (model X.prog X.w) X.A (call (.ref f) us) (EP X pins σ Q) X.xe s := by
  have r2 : Vals (vs ++ dvs) (us ++ ds) := r.append hd
  have hl : (us ++ ds).length = ps.length := r2.length.symm.trans (F.len _ _ _ _ h)
  exact run_g (ks := []) (ws := []) F hgd hr hx I (hb s us I.kIn hl) r2 h
theorem pe_g (F : GOk X.prog X.w X.K X.mg X.base CX k f fd ps sp) (hgd : X.A.guards = some []) (hr : Room k X.A) (hg : Gl X x) (hm : X.mg x = some (.ref f)) (hk : PySem.W.keepIn X.K (.ref f) = true) (hb : Binds X.K fd ps ds) (hd : Vals dvs ds) (hx : Passes CX X E)
    (ha : PA X (e :: es) t) (hdb : (x == ("__debug__" : Str)) = false := by decide) (he : starEach (e :: es) X.env = (false, eval e X.env) :: starEach es X.env := by rfl) (hpl : (backTo pos (starEach es X.env)).any (·.1) = false := by rfl) :
    PE X (.Call (.Name x p) (e :: es) [] pos) (tCall sp dvs E t) :=
  ⟨fun pins s σ H Q I h => wpAny_Call_Name_kw (ld_glob I hg hm (PySem.W.callWith_K (h₀ := X.base) I.ok.mod.kin hk
    (thn (ha.run pos pins s σ H _ I h) fun us s1 ⟨vs, H1, I1, r, q⟩ => ⟨I1.kIn, run_gp F hgd hr hb hd hx I1 r q⟩) he hpl) hdb)⟩
def tGK (n m : Nat) (sp : Sp) (gV : List V → List V → List V) (E : XK) (t tk : TA) : TE := fun σ H Q => t σ H fun vs H1 => tk σ H1 fun zs H2 => vs.length = n ∧ zs.length = m ∧ sp (gV vs zs) H2 Q E
theorem guards_make {A : Around} (h : A.guards = some []) (us : List Value) (kw : List (Str × Value)) : (A.under (.builtin "type.__call__" ⟨.ref C :: us, kw⟩)).guards = some [] := by
  first
    | (simp [Around.under, h, pushGuards, Code.guards, Code.isGuard, guardIds]; done)
    | (unfold Around.under; simp [h, pushGuards, Code.guards, Code.isGuard, guardIds]; done)
    | (simp only [Around.under, h]; rfl)
end
end Ev
namespace Ev
open PySem PySem.Spec PyProof.Rows L2
section
variable (P : Program) (w : World) (K : PySem.W.Frag) (mg : Str → Option Value) (base : Heap)
structure GC (k : Nat) (x : Str) (sp : Sp) (dvs : List V) : Prop where
  ex : ∃ (f : Addr) (fd : FuncData) (ps : List Str) (ds : List Value), GOk P w K mg base (L2.CX P w) k f fd ps sp ∧ mg x = some (.ref f) ∧ PySem.W.keepIn K (.ref f) = true ∧ Binds K fd ps ds ∧ Vals dvs ds
structure GCK (k : Nat) (x : Str) (sp : Sp) (n : Nat) (ks : List Str) (gV : List V → List V → List V) : Prop where
  ex : ∃ (f : Addr) (fd : FuncData) (ps : List Str) (g : List Value → List Value → List Value), GOk P w K mg base (L2.CX P w) k f fd ps sp ∧ mg x = some (.ref f) ∧ PySem.W.keepIn K (.ref f) = true ∧ KBn K fd ps n ks g gV
structure GM (k : Nat) (C : Addr) (m : Str) (sp : Sp) (dvs : List V) : Prop where
  ex : ∃ (f : Addr) (fd : FuncData) (ps : List Str) (ds : List Value), Cls K C ∧ Meth K C m f ∧ GOk P w K mg base (L2.CX P w) k f fd ps sp ∧ Binds K fd ps ds ∧ Vals dvs ds
structure GN (k : Nat) (x : Str) (C : Addr) (sp : Sp) (n : Nat) (ks : List Str) (gV : List V → List V → List V) : Prop where
  ex : ∃ (f : Addr) (fd : FuncData) (ps : List Str) (g : List Value → List Value → List Value), Mk K C f ∧ GOk P w K mg base (L2.CX P w) k f fd ps sp ∧ mg x = some (.ref C) ∧ KBn K fd ps (n + 1) ks g gV
end
section
variable {X : Cx} {k j n : Nat} {C : Addr} {x m : Str} {sp : Sp} {dvs : List V} {E : XK} {p pos apos : Pos} {e o : Expr} {es : List Expr} {ta : TE} {t tk : TA} {kws : List Keyword} {ks : List Str} {gV : List V → List V → List V}
theorem pe_cE (c : GC X.prog X.w X.K X.mg X.base k x sp dvs) (hgd : X.A.guards = some []) (hr : Room j X.A) (hk : k ≤ j) (hx : Passes (L2.CX X.prog X.w) X E) (hg : Gl X x) (ha : PA X (e :: es) t)
    (hdb : (x == ("__debug__" : Str)) = false := by decide) (he : starEach (e :: es) X.env = (false, eval e X.env) :: starEach es X.env := by rfl) (hpl : (backTo pos (starEach es X.env)).any (·.1) = false := by rfl) :
    PE X (.Call (.Name x p) (e :: es) [] pos) (tCall sp dvs E t) :=
  let ⟨_, _, _, _, F, hm, kp, b, d⟩ := c.ex
  pe_g F hgd (hr.mono hk) hg hm kp b d hx ha hdb he hpl
theorem pe_c (c : GC X.prog X.w X.K X.mg X.base k x sp dvs) (hgd : X.A.guards = some []) (hr : Room j X.A) (hk : k ≤ j) (hg : Gl X x) (ha : PA X (e :: es) t)
    (hdb : (x == ("__debug__" : Str)) = false := by decide) (he : starEach (e :: es) X.env = (false, eval e X.env) :: starEach es X.env := by rfl) (hpl : (backTo pos (starEach es X.env)).any (·.1) = false := by rfl) :
    PE X (.Call (.Name x p) (e :: es) [] pos) (tCall sp dvs E0 t) := pe_cE c hgd hr hk passL hg ha hdb he hpl
theorem run_gnK {f : Addr} {fd : FuncData} {ps : List Str} {g : List Value → List Value → List Value} {pins : List (Addr × Obj)} {σ : L2.St} {H : Hp} {s : Shared} {Q : VK} {us ws : List Value} {vs zs : List V} (M : Mk X.K C f) (F : GOk X.prog X.w X.K X.mg X.base (L2.CX X.prog X.w) k f fd ps sp)
    (hgd : X.A.guards = some []) (hr : Room (k + 1) X.A) (hb : KBn X.K fd ps (n + 1) ks g gV) (hx : Passes (L2.CX X.prog X.w) X E) (I : Inv X pins σ H s) (r : Vals vs us) (rz : Vals zs ws) (l1 : vs.length = n) (l2 : zs.length = ks.length)
    (h : ∀ x dx, H x = none → H dx = none → dx ≠ x → sp (gV (.ref x :: vs) zs) (upd (upd H dx (.own x)) x (.ins C dx [])) (fun v H2 => v = .non ∧ Q (.ref x) H2) E) :
    wpAny (model X.prog X.w) X.A (call (.ref C) us (ks.zip ws)) (EP X pins σ Q) X.xe s := by
  have hq := h (s.heap.objs.size + 1) s.heap.objs.size (I.hok.fresh (Nat.le_succ _)) (I.hok.fresh (Nat.le_refl _)) (Nat.ne_of_lt (Nat.lt_succ_self _))
  have J := Inv.made (C := C) I
  have rr : Vals (V.ref (s.heap.objs.size + 1) :: vs) (Value.ref (s.heap.objs.size + 1) :: us) := .cons rfl r
  have len1 : (Value.ref (s.heap.objs.size + 1) :: us).length = n + 1 := by
    have := r.length
    simp only [List.length_cons]
    omega
  refine wpAny_call (make_map (f := f) I.kIn M.makes M.init (beq_iff_eq.mp M.fn) (codeAny_mono (F.run _ X.stack _ _ ⟨.ref (s.heap.objs.size + 1) :: us, ks.zip ws⟩ (g (.ref (s.heap.objs.size + 1) :: us) ws) _ _ E (guards_make hgd us (ks.zip ws)) (hr.make C us (ks.zip ws))
    (J.env0.make C us (ks.zip ws)) (hb.to _ _ ws J.kIn len1 (rz.length.symm.trans l2)) (hb.rel rr rz) hq) fun res s' hq' => ?_))
  match res, hq' with
  | .error e, z => exact hx pins σ _ _ e s' J z
  | .ok (.ret u), z =>
    obtain ⟨v, H', I3, rv, ev, q3⟩ := J.after z
    subst ev
    exact ⟨rv, .ref (s.heap.objs.size + 1), H', I3, rfl, q3⟩
  | .ok .next, z => exact z.elim
  | .ok .brk, z => exact z.elim
  | .ok .cont, z => exact z.elim
theorem pe_nE (c : GN X.prog X.w X.K X.mg X.base k x C sp n ks gV) (hgd : X.A.guards = some []) (hr : Room j X.A) (hk : k + 1 ≤ j) (hx : Passes (L2.CX X.prog X.w) X E) (hg : Gl X x)
    (ha : PA X (e :: es) t) (hkw : PK X kws tk) (hall : (backToKw pos (keywordEach kws X.env)).all (·.1.isSome) = true := by rfl) (hks : (backToKw pos (keywordEach kws X.env)).filterMap (·.1) = ks := by rfl)
    (hdb : (x == ("__debug__" : Str)) = false := by decide) (he : starEach (e :: es) X.env = (false, eval e X.env) :: starEach es X.env := by rfl)
    (hpl : ((backTo pos (starEach (e :: es) X.env)).any (·.1) || (backToKw pos (keywordEach kws X.env)).any (·.1.isNone)) = false := by rfl) :
    PE X (.Call (.Name x p) (e :: es) kws pos) (tMakeK C n ks.length sp gV E t tk) := by
  obtain ⟨_, _, _, _, M, F, hm, b⟩ := c.ex
  refine ⟨fun pins s σ H Q I h => wpAny_Call_Name_kw (ld_glob I hg hm (PySem.W.callWith_KW (h₀ := X.base) I.ok.mod.kin M.kp hall (thn (ha.run pos pins s σ H _ I h) fun us s1 ⟨vs, H1, I1, r, q⟩ => ?_) hpl he) hdb)⟩
  refine thn (hkw.run pos pins s1 σ H1 _ I1 q) fun ws s2 ⟨zs, H2, I2, rz, l1, l2, q2⟩ => ⟨I2.kIn, ?_⟩
  rw [hks]
  exact run_gnK M F hgd (hr.mono hk) b hx I2 r rz l1 l2 q2
end
end Ev
namespace Ev
open PySem PySem.Spec PyProof.Rows L2
end Ev
namespace Ev
open PySem PySem.Spec PyProof.Rows L2
mutual
def cost : PyData → Nat
  | .none => 4
  | .bool _ => 5
  | .int _ => 1921
  | .str x => (reprText x).length
  | .list xs => costs xs + 2
  | .tuple xs => costs xs + 2
  | .dict _ => 0
def costs : List PyData → Nat
  | [] => 0
  | x :: xs => cost x + 2 + costs xs
end
theorem listText_le (ts : List Str) : (listText ts).length ≤ piled ts + 2 := by
  have h1 : (listText ts).length = (textFrom 0 "[" ts).length + 1 := by
    show (textFrom 0 "[" ts ++ "]").length = _
    rw [strLen_append]
    rfl
  rw [h1]
  cases ts with
  | nil =>
    show (Str.ofString "[").length + 1 ≤ _
    decide +kernel
  | cons t r =>
    have e : ((("[" : Str) ++ (if (0 : Nat) > 0 then ", " else "" : String) ++ t)).length = 1 + t.length := by
      rw [strLen_append, strLen_append]
      rfl
    have h2 : (textFrom 0 "[" (t :: r)).length = ((("[" : Str) ++ (if (0 : Nat) > 0 then ", " else "" : String) ++ t)).length + piled r := textFrom_length_pos r 1 _ (Nat.succ_pos 0)
    rw [h2, e, piled_cons]
    omega
mutual
theorem shown_le : ∀ d : PyData, d.showable = true → d.hasDict = false → (PyData.shown d).length ≤ cost d
  | .none, _, _ => by
    show (Str.ofString "None").length ≤ 4
    decide +kernel
  | .bool true, _, _ => by
    show (PyData.shown (.bool true)).length ≤ 5
    decide +kernel
  | .bool false, _, _ => by
    show (PyData.shown (.bool false)).length ≤ 5
    decide +kernel
  | .int i, h, _ => PyProof.Rows.int_text_len_1921 (of_decide_eq_true h)
  | .str x, _, _ => Nat.le_refl _
  | .list xs, h, hd => by
    have a := shown_les xs (by simpa [PyData.showable] using h) (by simpa [PyData.hasDict] using hd)
    have b := listText_le (PyData.shownAll xs)
    show (listText (PyData.shownAll xs)).length ≤ costs xs + 2
    omega
  | .tuple xs, h, hd => by
    have a := shown_les xs (by simpa [PyData.showable] using h) (by simpa [PyData.hasDict] using hd)
    have b := fmt_text (PyData.shownAll xs)
    show (tupleText (PyData.shownAll xs)).length ≤ costs xs + 2
    omega
  | .dict _, _, hd => by simp [PyData.hasDict] at hd
theorem shown_les : ∀ ds : List PyData, PyData.showableAll ds = true → PyData.hasDictAll ds = false → piled (PyData.shownAll ds) ≤ costs ds
  | [], _, _ => Nat.le_refl _
  | d :: ds, h, hd => by
    have h1 : d.showable = true ∧ PyData.showableAll ds = true := by simpa [PyData.showableAll] using h
    have h2 : d.hasDict = false ∧ PyData.hasDictAll ds = false := by simpa [PyData.hasDictAll] using hd
    have a := shown_le d h1.1 h2.1
    have b := shown_les ds h1.2 h2.2
    show piled (PyData.shown d :: PyData.shownAll ds) ≤ cost d + 2 + costs ds
    rw [piled_cons]
    omega
end
mutual
theorem nodict : ∀ d : PyData, d.canLay0 = true → d.hasDict = false
  | .none, _ => rfl
  | .bool _, _ => rfl
  | .int _, _ => rfl
  | .str _, _ => rfl
  | .list xs, h => by
    show PyData.hasDictAll xs = false
    exact nodicts xs (by simpa [PyData.canLay0] using h)
  | .tuple xs, h => by
    show PyData.hasDictAll xs = false
    exact nodicts xs (by simpa [PyData.canLay0] using h)
  | .dict _, h => by simp [PyData.canLay0] at h
theorem nodicts : ∀ ds : List PyData, PyData.canLayAll0 ds = true → PyData.hasDictAll ds = false
  | [], _ => rfl
  | d :: ds, h => by
    have h1 : d.canLay0 = true ∧ PyData.canLayAll0 ds = true := by simpa [PyData.canLayAll0] using h
    show (d.hasDict || PyData.hasDictAll ds) = false
    rw [nodict d h1.1, nodicts ds h1.2]
    rfl
end
structure Shows (d : PyData) : Prop where
  sh : d.showable = true
  nd : d.hasDict = false
  dp : d.depth ≤ 64
  ct : cost d ≤ 16777216
section
variable {X : Cx}
def rRepr (K : PySem.W.Frag) : List V → Hp → VK → Prop := fun vs H Q => ∃ (x : V) (d : PyData), vs = [x] ∧ Dp K H x d ∧ Shows d ∧ Q (.str d.shown) H
end
end Ev
namespace Ev
open PySem L2
theorem Same.new {H H1 : Hp} {q : Addr} {o : HO} (a : Same H H1) (h : H1 q = none) : Same H (upd H1 q o) := fun c u e => get_new (a c u e) h
theorem Same.seqT {K : PySem.W.Frag} {H H' : Hp} {a : Addr} {xs : List V} (e : Same H H') (h : SqT K H a xs) : SqT K H' a xs := by
  rcases h with (h | ⟨o, h⟩) | h
  · exact .inl (.inl (e _ _ h))
  · exact .inl (.inr ⟨o, e _ _ h⟩)
  · exact .inr h
theorem Same.old {H H1 : Hp} {q : Addr} {o : HO} (a : Same H H1) (h : H q = none) : Same H (upd H1 q o) := fun c u e => get_ne (ne_of_none e h) (a c u e)
theorem Same.but {H H1 : Hp} (a : Same H H1) (p : Addr) : But p H H1 := fun c u e _ => a c u e
def outs (f : Nat → Option V) (n : Nat) : List V := (List.range n).filterMap f
theorem outs_succ (f : Nat → Option V) (n : Nat) : outs f (n + 1) = outs f n ++ (f n).toList := by
  unfold outs
  rw [List.range_succ, List.filterMap_append]
  cases h : f n with
  | none => simp [h]
  | some y => simp [h]
theorem outs_len (f : Nat → Option V) : ∀ n, (outs f n).length ≤ n
  | 0 => Nat.le_refl _
  | n + 1 => by
    have := outs_len f n
    rw [outs_succ, List.length_append]
    cases f n with
    | none => simp; omega
    | some y => simp; omega
section
variable {g : TG} {tt : TT} {te : TE} {vs : List Nat} {σ : L2.St} {H1 : Hp} {D : Addr} {Qd : Hp → Prop} {K : PySem.W.Frag} {a : Addr} {xs : List V} {lo : Int} {n : Nat}
def LcTurn (g : TG) (tt : TT) (te : TE) (vs : List Nat) (σ : L2.St) (x : V) (H : Hp) (R : V → Hp → Prop) (N : Hp → Prop) : Prop :=
  g x (wipe σ vs) H fun σ2 H2 => wipe σ2 vs = wipe σ vs ∧ tt σ2 H2 fun b H3 => if b = true then te σ2 H3 R else N H3
theorem lc_step {f : Nat → Option V} {i : Nat} {x : V} {H : Hp} (hz : i < 16777216) (hD : H1 D = none) (hS : Same H1 H) (hI : H D = some (.lst (outs f i)))
    (hs : ∀ (R : V → Hp → Prop) (N : Hp → Prop), (∀ y H4, f i = some y → Same H H4 → R y H4) → (∀ H4, f i = none → Same H H4 → N H4) → LcTurn g tt te vs σ x H R N) :
    g x (wipe σ vs) H fun σ2 H2 => wipe σ2 vs = wipe σ vs ∧ tt σ2 H2 fun b H3 =>
      if b = true then te σ2 H3 fun y H4 => ∃ acc, H4 D = some (.lst acc) ∧ acc.length < sizeLine ∧ (Same H1 (upd H4 D (.lst (acc ++ [y]))) ∧ (upd H4 D (.lst (acc ++ [y]))) D = some (.lst (outs f (i + 1))))
      else (Same H1 H3 ∧ H3 D = some (.lst (outs f (i + 1)))) := by
  refine hs (fun y H4 => ∃ acc, H4 D = some (.lst acc) ∧ acc.length < sizeLine ∧ (Same H1 (upd H4 D (.lst (acc ++ [y]))) ∧ (upd H4 D (.lst (acc ++ [y]))) D = some (.lst (outs f (i + 1))))) (fun H3 => Same H1 H3 ∧ H3 D = some (.lst (outs f (i + 1)))) (fun y H4 e s => ?_) (fun H4 e s => ?_)
  · refine ⟨outs f i, s _ _ hI, ?_, Same.old (hS.trans s) hD, ?_⟩
    · have := outs_len f i
      rw [sizeLine_eq]
      omega
    · rw [upd_same, outs_succ, e]
      rfl
  · refine ⟨hS.trans s, ?_⟩
    rw [outs_succ, e]
    rw [s _ _ hI]
    simp
theorem lcL {f : Nat → Option V} (hx : SqL K H1 a xs) (hD : H1 D = none) (hz : xs.length < 16777216)
    (hs : ∀ i x H (R : V → Hp → Prop) (N : Hp → Prop), xs[i]? = some x → Same H1 H → (∀ y H4, f i = some y → Same H H4 → R y H4) → (∀ H4, f i = none → Same H H4 → N H4) → LcTurn g tt te vs σ x H R N)
    (hd : ∀ H, Same H1 H → H D = some (.lst (outs f xs.length)) → Qd H) :
    ∃ W : Nat → Nat → Hp → Prop, (∃ m, W 0 m (upd H1 D (.lst []))) ∧ ∀ i m H, W i m H →
      ((Itl K a).stop i H ∧ Qd H) ∨ ((Itl K a).go i H ∧ ∃ Nx : Hp → Prop, (∀ H', Nx H' → ∃ m', m' < m ∧ W (i + 1) m' H') ∧ ∀ x H', (Itl K a).yld i H x H' → g x (wipe σ vs) H' fun σ2 H2 => wipe σ2 vs = wipe σ vs ∧ tt σ2 H2 fun b H3 =>
        if b = true then te σ2 H3 fun y H4 => ∃ acc, H4 D = some (.lst acc) ∧ acc.length < sizeLine ∧ Nx (upd H4 D (.lst (acc ++ [y]))) else Nx H3) :=
  lc_list (fun i H => Same H1 H ∧ H D = some (.lst (outs f i))) ⟨Same.old (Same.refl _) hD, upd_same⟩ (fun i H _ p => p.1.seq hx)
    (fun i x H hi p => lc_step (by have := (List.getElem?_eq_some_iff.mp hi).1; omega) hD p.1 p.2 fun R N r n => hs i x H R N hi p.1 r n) (fun H p => hd H p.1 p.2)
end
end Ev
namespace Ev
open PySem PySem.Spec PyProof.Rows L2
section
variable {X : Cx} {CX : CXT} {k j : Nat} {f C : Addr} {fd : FuncData} {ps ks : List Str} {sp : Sp} {dvs : List V} {ds : List Value} {E : XK} {m : Str} {n : Nat}
def rOwnC (K : PySem.W.Frag) (C : Addr) (sp : Sp) (E : XK) (g : Bool → Bool) : R2 := fun x y H Q => ∃ (a dx : Addr) (fs : List (Str × V)) (t : Value), x = .ref a ∧ H a = some (.ins C dx fs) ∧ TyX K H y t ∧ PySem.W.notFirst K C t = true ∧ sp [.ref a, y] H (fun v H' => ∃ b, v = .bl b ∧ Q (.bl (g b)) H') E
structure NeO (K : PySem.W.Frag) (C : Addr) : Prop where
  ne : PySem.W.findIn K (.ref C) "__ne__" = some (some (.builtin "object.__ne__"))
  ob : PySem.W.mroIn K C (.type "object") = some true
def rOwn1 (C : Addr) (sp : Sp) (E : XK) (P : V → Prop) : V → Hp → VK → Prop := fun x H Q => ∃ (a dx : Addr) (fs : List (Str × V)), x = .ref a ∧ H a = some (.ins C dx fs) ∧ sp [.ref a] H (fun v H' => P v ∧ Q v H') E
end
end Ev
namespace Ev
open PySem PySem.Spec PyProof.Rows L2
section
variable (P : Program) (w : World) (K : PySem.W.Frag) (mg : Str → Option Value) (base : Heap)
structure GMK (k : Nat) (C : Addr) (m : Str) (sp : Sp) (n : Nat) (ks : List Str) (gV : List V → List V → List V) : Prop where
  ex : ∃ (f : Addr) (fd : FuncData) (ps : List Str) (g : List Value → List Value → List Value), Cls K C ∧ Meth K C m f ∧ GOk P w K mg base (L2.CX P w) k f fd ps sp ∧ KBn K fd ps (n + 1) ks g gV
structure GO (k : Nat) (C : Addr) (sp : Sp) (n : Nat) (ks : List Str) (gV : List V → List V → List V) : Prop where
  ex : ∃ (f : Addr) (fd : FuncData) (ps : List Str) (g : List Value → List Value → List Value), Meth K C "__call__" f ∧ PySem.W.fnIn K f = true ∧ GOk P w K mg base (L2.CX P w) k f fd ps sp ∧ KBn K fd ps (n + 1) ks g gV
structure GS (k : Nat) (C : Addr) (m : Str) (sp : Sp) (dvs : List V) : Prop where
  ex : ∃ (p f : Addr) (fd : FuncData) (ps : List Str) (ds : List Value), Cls K C ∧ PySem.W.findIn K (.ref C) m = some (some (.ref p)) ∧ PySem.W.typeIn K (.ref p) = some (.type "staticmethod") ∧
    PySem.W.specialIn K (.ref p) "__get__" = some (some (.builtin "staticmethod.__get__")) ∧ PySem.W.takesIn K (.ref p) = some false ∧ PySem.W.copiedNames.contains m = false ∧ (∃ rest, PySem.W.recIn K p "staticmethod" = some (.ref f :: rest)) ∧
    PySem.W.keepIn K (.ref f) = true ∧ GOk P w K mg base (L2.CX P w) k f fd ps sp ∧ Binds K fd ps ds ∧ Vals dvs ds
end
section
variable {X : Cx} {k j n : Nat} {C : Addr} {x m : Str} {sp : Sp} {dvs : List V} {E : XK} {p pos apos : Pos} {e o : Expr} {es : List Expr} {ta : TE} {t tk : TA} {kws : List Keyword} {ks : List Str} {gV : List V → List V → List V}
end
end Ev
namespace Ev
open PySem PySem.Spec PyProof.Rows L2
def SI (b : Bool) (h : Heap) (it l : Addr) (k : Nat) : Prop := match b with
  | true => h.IsListIter it l k
  | false => h.IsTupleIter it l k
def SS (b : Bool) (h : Heap) (l : Addr) (xs : Array Value) : Prop := match b with
  | true => h.IsList l xs
  | false => h.IsTuple l xs
theorem SI.to {b : Bool} {h h' : Heap} {it l : Addr} {k : Nat} (x : SI b h it l k) (e : ∀ o, h.get? it = some o → h'.get? it = some o) : SI b h' it l k := by
  cases b
  · obtain ⟨o, ho, r⟩ := x
    exact ⟨o, e o ho, r⟩
  · obtain ⟨o, ho, r⟩ := x
    exact ⟨o, e o ho, r⟩
theorem SS.to {b : Bool} {h h' : Heap} {l : Addr} {xs : Array Value} (x : SS b h l xs) (e : ∀ o, h.get? l = some o → h'.get? l = some o) : SS b h' l xs := by
  cases b
  · obtain ⟨o, ho, r⟩ := x
    exact ⟨o, e o ho, r⟩
  · obtain ⟨o, ho, r⟩ := x
    exact ⟨o, e o ho, r⟩
theorem SI.obj {b : Bool} {h : Heap} {it l : Addr} {k : Nat} (x : SI b h it l k) : ∃ o, h.get? it = some o ∧ o.data = .fields #[.ref l, .int k 0] := by
  cases b
  · obtain ⟨o, ho, _, d⟩ := x
    exact ⟨o, ho, d⟩
  · obtain ⟨o, ho, _, d⟩ := x
    exact ⟨o, ho, d⟩
theorem SS.lt {b : Bool} {h : Heap} {l : Addr} {xs : Array Value} (x : SS b h l xs) : l < h.objs.size := by
  cases b
  · obtain ⟨o, ho, _⟩ := x
    exact Heap.lt_size ho
  · obtain ⟨o, ho, _⟩ := x
    exact Heap.lt_size ho
section
variable {prog : Program} {w : World} {A : Around} {E : Value → Shared → Prop} {s : Shared}
end
section
variable {prog : Program} {w : World} {A : Around} {E : Value → Shared → Prop} {s : Shared}
end
def SqB (b : Bool) (K : PySem.W.Frag) (H : Hp) (a : Addr) (xs : List V) : Prop := match b with
  | true => SqL K H a xs
  | false => SqT K H a xs
def ItzB (b1 b2 : Bool) (K : PySem.W.Frag) (a b : Addr) : It :=
  ⟨fun i H => ∃ (xs ys : List V) (x y : V), SqB b1 K H a xs ∧ SqB b2 K H b ys ∧ xs[i]? = some x ∧ ys[i]? = some y,
    fun i H v H' => ∃ T x y, v = .ref T ∧ H T = none ∧ H' = upd H T (.tup [x, y]) ∧ (∀ xs, SqB b1 K H a xs → xs[i]? = some x) ∧ ∀ ys, SqB b2 K H b ys → ys[i]? = some y,
    fun i H => ∃ xs ys : List V, SqB b1 K H a xs ∧ SqB b2 K H b ys ∧ (xs.length ≤ i ∨ ys.length ≤ i)⟩
def iZipB (b1 b2 : Bool) (K : PySem.W.Frag) (ta : TA) : TI := fun σ H R => ta σ H fun vs H1 => ∃ a b xs ys, vs = [.ref a, .ref b] ∧ SqB b1 K H1 a xs ∧ SqB b2 K H1 b ys ∧ R (ItzB b1 b2 K a b) H1
end Ev
namespace Ev
open PySem L2
section
variable {g : TG} {tt : TT} {te : TE} {vs : List Nat} {σ : L2.St} {H1 : Hp} {D : Addr} {Qd : Hp → Prop} {K : PySem.W.Frag} {a b : Addr} {xs ys : List V} {lo : Int} {n : Nat}
end
end Ev
namespace Ev
open PySem PySem.Spec PyProof.Rows L2
structure CI (K : PySem.W.Frag) (C : Addr) : Prop where
  cl : Cls K C
  ha : PySem.W.findIn K (.ref C) "__class__" = some (some (.builtin "object.__class__"))
  hn : PySem.W.specialIn K (.builtin "object.__class__") "__get__" = some (some (.builtin "getset_descriptor.__get__"))
  ht : PySem.W.takesIn K (.builtin "object.__class__") = some true
  hm : PySem.W.mroIn K C (.type "object") = some true
  it : ((PySem.W.clsIn K C).isSome && PySem.W.typeIn K (.ref C) == some (.type "type")) = true
theorem it_of {K : PySem.W.Frag} {C : Addr} (h1 : PySem.W.isClsIn K C = true) (h2 : PySem.W.typeIn K (.ref C) = some (.type "type")) : ((PySem.W.clsIn K C).isSome && PySem.W.typeIn K (.ref C) == some (.type "type")) = true := by
  rw [h2, show (PySem.W.clsIn K C).isSome = true from h1]
  rfl
theorem CI.ty {K : PySem.W.Frag} {C : Addr} {H : Hp} {a dx : Addr} {fs : List (Str × V)} (c : CI K C) (e : H a = some (.ins C dx fs)) : TyX K H (.ref a) (.ref C) := .base (.ins e c.cl c.ha c.hn c.ht c.hm)
def noRef : Value → Bool
  | .ref _ => false
  | _ => true
theorem sub_ty {K : PySem.W.Frag} {C : Addr} {T : String} (h : (fastBuiltinMro T).any (fun l => l.all noRef) = true) : PySem.W.subIn K (.type T) (.ref C) = some false := by
  show (fastBuiltinMro T).map (·.contains (.ref C)) = some false
  cases e : fastBuiltinMro T with
  | none =>
    rw [e] at h
    cases h
  | some l =>
    rw [e] at h
    have h2 : l.all noRef = true := h
    rw [Option.map_some]
    congr 1
    rw [Bool.eq_false_iff]
    intro z
    have := List.all_eq_true.mp h2 (.ref C) (by simpa using z)
    cases this
theorem nf_ty {K : PySem.W.Frag} {C : Addr} {T : String} (h : (fastBuiltinMro T).any (fun l => l.all noRef) = true) : PySem.W.notFirst K C (.type T) = true := by
  unfold PySem.W.notFirst
  rw [sub_ty h]
  simp
theorem nf_self {K : PySem.W.Frag} {C : Addr} : PySem.W.notFirst K C (.ref C) = true := by
  unfold PySem.W.notFirst
  simp
theorem nf_own {K : PySem.W.Frag} {C D : Addr} (h : PySem.W.mroIn K D (.ref C) = some false) : PySem.W.notFirst K C (.ref D) = true := by
  unfold PySem.W.notFirst
  rw [show PySem.W.subIn K (.ref D) (.ref C) = some false from h]
  simp
theorem kit_self {K : PySem.W.Frag} {C : Addr} : PySem.W.kitOne K (.ref C) (.ref C) = some true := by
  unfold PySem.W.kitOne
  simp
theorem kit_tyo {K : PySem.W.Frag} {C : Addr} {T : String} (c : CI K C) (h : (fastBuiltinMro T).any (fun l => l.all noRef) = true) : PySem.W.kitOne K (.type T) (.ref C) = some false := by
  unfold PySem.W.kitOne
  rw [if_neg (by simp)]
  unfold PySem.W.kitCls
  simp only
  rw [if_pos c.it]
  exact sub_ty h
theorem kit_own {K : PySem.W.Frag} {C D : Addr} {b : Bool} (c : CI K C) (hn : D ≠ C) (h : PySem.W.mroIn K D (.ref C) = some b) : PySem.W.kitOne K (.ref D) (.ref C) = some b := by
  unfold PySem.W.kitOne
  rw [if_neg (by simpa using hn)]
  unfold PySem.W.kitCls
  simp only
  rw [if_pos c.it]
  exact h
end Ev
namespace Ev
open PySem PySem.Spec PyProof.Rows L2
theorem rel_ref {a : Addr} : RelV (.ref a) (.ref a) := rfl
theorem kit_any2 {K : PySem.W.Frag} {t c1 c2 : Value} {b1 b2 : Bool} (h1 : PySem.W.kitOne K t c1 = some b1) (h2 : PySem.W.kitOne K t c2 = some b2) : PySem.W.kitAny K t [c1, c2] = some (b1 || b2) := by
  unfold PySem.W.kitAny
  rw [h1]
  cases b1
  · unfold PySem.W.kitAny
    simp only
    rw [h2]
    cases b2
    · rfl
    · rfl
  · rfl
end Ev
namespace Ev
open PySem L2
def Lit (z : Int) : Prop := z.natAbs < 1606938044258990275541962092341162602522202993782792835301376
theorem log_le {n k : Nat} (h : n < 2 ^ k) (hk : 0 < k) : n.log2 < k := by
  by_cases h0 : n = 0
  · subst h0
    simpa using hk
  · exact (Nat.log2_lt h0).mpr h
theorem Lit.log {z : Int} (h : Lit z) : z.natAbs.log2 < 200 := log_le h (by decide)
theorem Lit.mul {a b : Int} (ha : Lit a) (hb : Lit b) : CMulW a b := by
  have h1 := ha.log
  have h2 := hb.log
  show a.natAbs.log2 + b.natAbs.log2 < 1000000
  omega
theorem But.seqT {K : PySem.W.Frag} {H H' : Hp} {a p : Addr} {xs ys : List V} (e : But p H H') (hp : H p = some (.lst ys)) (h : SqT K H a xs) : SqT K H' a xs := by
  rcases h with (h | ⟨o, h⟩) | h
  · exact .inl (.inl (e _ _ h (ne_of h hp (by intro z; cases z))))
  · exact .inl (.inr ⟨o, e _ _ h (ne_of h hp (by intro z; cases z))⟩)
  · exact .inr h
theorem Pen.lst {H : Hp} {p c : Addr} {n : Int} (h : Pen H p c n) : ∃ ys, H p = some (.lst ys) := let ⟨_, _, _, e, _⟩ := h; ⟨_, e⟩
theorem Pen.seqT {K : PySem.W.Frag} {H H' : Hp} {a p c : Addr} {n : Int} {xs : List V} (h : Pen H p c n) (e : But p H H') (s : SqT K H a xs) : SqT K H' a xs := let ⟨_, z⟩ := h.lst; e.seqT z s
theorem TyX.same {K : PySem.W.Frag} {H H' : Hp} {x : V} {t : Value} (h : TyX K H x t) (s : Same H H') : TyX K H' x t := by
  cases h with
  | base b =>
    cases b with
    | non => exact .base .non
    | bl y => exact .base (.bl y)
    | int i => exact .base (.int i)
    | str y => exact .base (.str y)
    | flt y => exact .base (.flt y)
    | lst e => exact .base (.lst (s _ _ e))
    | frz e => exact .base (.frz (s _ _ e))
    | tup e => exact .base (.tup (s _ _ e))
    | dK e => exact .base (.dK (s _ _ e))
    | dT e => exact .base (.dT (s _ _ e))
    | ins e a b c d f => exact .base (.ins (s _ _ e) a b c d f)
  | byt b => exact .byt b
  | set e => exact .set (s _ _ e)
  | kList e c => exact .kList e c
  | kTuple e c => exact .kTuple e c
  | kDict e c => exact .kDict e c
  | fTuple e => exact .fTuple (s _ _ e)
  | fDict e => exact .fDict (s _ _ e)
theorem sql_ty {K : PySem.W.Frag} {H : Hp} {a : Addr} {xs : List V} (h : SqL K H a xs) : TyX K H (.ref a) (.type "list") := by
  rcases h with (h | ⟨o, h⟩) | ⟨o, its, n, e, c, _⟩
  · exact .base (.lst h)
  · exact .base (.frz h)
  · exact .kList e c
theorem sqt_ty {K : PySem.W.Frag} {H : Hp} {a : Addr} {xs : List V} (h : SqT K H a xs) : TyX K H (.ref a) (.type "tuple") := by
  rcases h with (h | ⟨o, h⟩) | ⟨o, its, n, e, c, _⟩
  · exact .base (.tup h)
  · exact .fTuple h
  · exact .kTuple e c
def Bi (K : PySem.W.Frag) (H : Hp) (v : V) : Prop := ∃ T : String, TyX K H v (.type T) ∧ (fastBuiltinMro T).any (fun l => l.all noRef) = true
theorem Bi.same {K : PySem.W.Frag} {H H' : Hp} {v : V} (h : Bi K H v) (s : Same H H') : Bi K H' v := let ⟨T, a, b⟩ := h; ⟨T, TyX.same a s, b⟩
end Ev
namespace Ev
open PySem L2
end Ev
namespace Ev
open PySem L2
theorem SqT.ins {K : PySem.W.Frag} {H : Hp} {a x C dx : Addr} {xs : List V} {fs : List (Str × V)} {o : HO} (h : SqT K H a xs) (hx : H x = some (.ins C dx fs)) : SqT K (upd H x o) a xs := by
  rcases h with (h | ⟨u, h⟩) | h
  · exact .inl (.inl (get_ne (ne_of h hx (by intro z; cases z)) h))
  · exact .inl (.inr ⟨u, get_ne (ne_of h hx (by intro z; cases z)) h⟩)
  · exact .inr h
end Ev
namespace Ev
end Ev
namespace Ev
open PySem L2
theorem cutS {a b : TS} {D : Ends} {σ : L2.St} {H : Hp} (J : L2.St → Hp → Prop) (h1 : ∀ N : L2.St → Hp → Prop, (∀ σ H, J σ H → N σ H) → a { D with nx := N } σ H) (h2 : ∀ σ H, J σ H → b D σ H) : tSeq a b D σ H := h1 _ h2
end Ev
namespace Ev
open PySem L2
theorem TyX.lset {K : PySem.W.Frag} {H : Hp} {x : V} {t : Value} {o : Addr} {xs ys : List V} (h : TyX K H x t) (ho : H o = some (.lst xs)) : TyX K (upd H o (.lst ys)) x t := by
  have st : ∀ {a : Addr} {u : HO}, H a = some u → (∀ zs, u ≠ .lst zs) → upd H o (.lst ys) a = some u := fun e n => get_ne (fun z => by
    subst z
    rw [ho] at e
    exact n xs (Option.some.inj e).symm) e
  cases h with
  | base b =>
    cases b with
    | non => exact .base .non
    | bl y => exact .base (.bl y)
    | int i => exact .base (.int i)
    | str y => exact .base (.str y)
    | flt y => exact .base (.flt y)
    | @lst a zs e =>
      by_cases q : a = o
      · subst q
        exact .base (.lst upd_same)
      · exact .base (.lst (get_ne q e))
    | frz e => exact .base (.frz (st e (by intro z q; cases q)))
    | tup e => exact .base (.tup (st e (by intro z q; cases q)))
    | dK e => exact .base (.dK (st e (by intro z q; cases q)))
    | dT e => exact .base (.dT (st e (by intro z q; cases q)))
    | ins e a b c d f => exact .base (.ins (st e (by intro z q; cases q)) a b c d f)
  | byt b => exact .byt b
  | set e => exact .set (st e (by intro z q; cases q))
  | kList e c => exact .kList e c
  | kTuple e c => exact .kTuple e c
  | kDict e c => exact .kDict e c
  | fTuple e => exact .fTuple (st e (by intro z q; cases q))
  | fDict e => exact .fDict (st e (by intro z q; cases q))
theorem Bi.lset {K : PySem.W.Frag} {H : Hp} {v : V} {o : Addr} {xs ys : List V} (h : Bi K H v) (ho : H o = some (.lst xs)) : Bi K (upd H o (.lst ys)) v := let ⟨T, a, b⟩ := h; ⟨T, TyX.lset a ho, b⟩
theorem SqT.lset {K : PySem.W.Frag} {H : Hp} {a o : Addr} {zs xs ys : List V} (h : SqT K H a zs) (ho : H o = some (.lst xs)) : SqT K (upd H o (.lst ys)) a zs := by
  rcases h with (h | ⟨u, h⟩) | h
  · exact .inl (.inl (get_ne (ne_of h ho (by intro z; cases z)) h))
  · exact .inl (.inr ⟨u, get_ne (ne_of h ho (by intro z; cases z)) h⟩)
  · exact .inr h
theorem SqL.lset {K : PySem.W.Frag} {H : Hp} {a o : Addr} {zs : List V} {u : HO} (h : SqL K H a zs) (ho : a ≠ o) : SqL K (upd H o u) a zs := by
  rcases h with (h | ⟨u, h⟩) | h
  · exact .inl (.inl (get_ne ho h))
  · exact .inl (.inr ⟨u, get_ne ho h⟩)
  · exact .inr h
end Ev
namespace Ev
open PySem L2
end Ev
namespace Ev
open PySem L2
end Ev
namespace Ev
open PySem PySem.Spec PyProof.Rows L2
structure ShN (c k : Nat) (d : PyData) : Prop where
  sh : d.showable = true
  nd : d.hasDict = false
  dp : d.depth ≤ k
  ct : cost d ≤ c
theorem ShN.mono {c k c' k' : Nat} {d : PyData} (h : ShN c k d) (hc : c ≤ c') (hk : k ≤ k') : ShN c' k' d := ⟨h.sh, h.nd, Nat.le_trans h.dp hk, Nat.le_trans h.ct hc⟩
end Ev
namespace Ev
open PySem PySem.Spec PyProof.Rows L2
theorem back {x : V} {w : Value} {s : Shared} {Q : Value → Shared → Prop} (r : RelV x w) (h : Q w s) : PySem.W.CmpBack Q w s := by
  cases x <;> first | (obtain ⟨t, rfl⟩ := r; exact h) | (cases r; exact h)
section
variable {prog : Program} {w : World} {A : Around} {E : Value → Shared → Prop} {s : Shared} {K : PySem.W.Frag} {x C L f : Addr} {h₀ : Heap} {m : Str → Option Value} {ox : Obj} {od : Option Obj} {nm T : String}
end
end Ev
namespace Ev
open PySem PySem.Spec PyProof.Rows L2
section
variable {X : Cx} {k j : Nat} {C : Addr} {sp : Sp} {E : XK} {op : Operator} {m : Str}
structure BO (K : PySem.W.Frag) (C : Addr) : Prop where
  sf : PySem.W.selfFirst K C = true
  ii : PySem.W.mroIn K C (.type "int") = some false
structure NoIp (K : PySem.W.Frag) (C : Addr) (i : Str) : Prop where
  cd : ∃ cd, PySem.W.clsIn K C = some cd ∧ cd.mro = [.ref C, .type "object"]
  h1 : PySem.W.findIn K (.ref C) i = some none
  h2 : PySem.W.findIn K (.type "object") i = some none
end
end Ev
namespace Ev
open PySem PySem.Spec PyProof.Rows L2
section
variable {X : Cx} {k j : Nat} {C : Addr} {sp : Sp} {E : XK}
end
end Ev
namespace Ev
open PySem PySem.Spec PyProof.Rows L2
section
variable {X : Cx} {K : PySem.W.Frag}
theorem ix_listK (hK : X.K = K := by rfl) : IxR X (rIxL K) := hK ▸ ix_list
theorem op_inK (hK : X.K = K := by rfl) : OpR X (compareOp .In) (rIn K false) := hK ▸ op_in_seq
end
end Ev
namespace Ev
open PySem L2
def ExcV (a : Addr) (cls : Value) (d : Option Addr) : HO := .ext fun h => ∃ (o : Obj) (vs : Array Value), h.get? a = some o ∧ o.cls = cls ∧ o.dict = d ∧ o.data = .fields vs
end Ev
namespace Pu
open PySem L2
inductive PV where
  | non | bl (b : Bool) | int (i : Int) | str (s : Str) | lst (xs : List PV) | tup (xs : List PV) | ins (c : Str) (fs : List (Str × PV)) | exc (c : Str) (fs : List (Str × PV)) | pen | ext (v : V) | dct (xs : List (Key × PV)) | mob (a : Addr)
structure SN where
  n : Nat
  μ : Addr → Option (Str × List (Str × PV)) := fun _ => none
  lk : Bool := false
instance : HSub SN Nat SN := ⟨fun s k => { s with n := s.n - k }⟩
theorem SN.sub_n {s : SN} {k : Nat} : (s - k).n = s.n - k := rfl
theorem SN.sub_μ {s : SN} {k : Nat} : (s - k).μ = s.μ := rfl
theorem SN.sub_lk {s : SN} {k : Nat} : (s - k).lk = s.lk := rfl
theorem SN.sub_sub {s : SN} {j k : Nat} : s - j - k = s - (j + k) := by
  show ({ s with n := s.n - j - k } : SN) = { s with n := s.n - (j + k) }
  rw [Nat.sub_sub]
theorem SN.sub_zero {s : SN} : s - 0 = s := rfl
abbrev SN.lock (s : SN) : SN := { s with lk := true }
abbrev SN.back (s s' : SN) : SN := { s with n := s'.n }
abbrev XP := Str → List (Str × PV) → SN → Prop
def W0 : XP := fun _ _ _ => False
abbrev M (α : Type) := XP → SN → (α → SN → Prop) → Prop
inductive Slot where
  | no | val (v : PV) | own (xs : List PV) | odc (xs : List (Key × PV)) | obj (c : Str) (fs : List (Str × PV))
abbrev PEnv := List Slot
structure EndsP where
  nx : PEnv → SN → Prop
  rt : PV → SN → Prop
  bk : PEnv → SN → Prop := fun _ _ => False
  ct : PEnv → SN → Prop := fun _ _ => False
abbrev MS := (PEnv → XP) → EndsP → PEnv → SN → Prop
structure Md where
  cl : Str → Option Addr
  cx : Str → Option Addr
  T : List (Addr × Str)
  mu : Str → Option Addr := fun _ => none
instance : CoeFun Md fun _ => Str → Option Addr := ⟨Md.cl⟩
section
variable (K : PySem.W.Frag) (cm : Md) (p : Addr) (G : Hp)
mutual
inductive Rep : V → PV → Prop
  | non : Rep .non .non
  | bl (b : Bool) : Rep (.bl b) (.bl b)
  | int (i : Int) : Rep (.int i) (.int i)
  | str (s : Str) : Rep (.str s) (.str s)
  | lst {a : Addr} {vs : List V} {ps : List PV} : G a = some (.lst vs) → RepL vs ps → Rep (.ref a) (.lst ps)
  | tup {a : Addr} {vs : List V} {ps : List PV} : SqT K G a vs → RepL vs ps → Rep (.ref a) (.tup ps)
  | ins {a C dx : Addr} {c : Str} {vs : List (Str × V)} {ps : List (Str × PV)} : cm c = some C → G a = some (.ins C dx vs) → RepF vs ps → Rep (.ref a) (.ins c ps)
  | exc {a C : Addr} {d : Option Addr} {c : Str} {ps : List (Str × PV)} : cm.cx c = some C → G a = some (Ev.ExcV a (.ref C) d) → RepX d ps → Rep (.ref a) (.exc c ps)
  | pen : Rep (.ref p) .pen
  | ext (v : V) : Rep v (.ext v)
  | dct {a : Addr} {vs : List (Key × V)} {ps : List (Key × PV)} : G a = some (.dK vs) → RepK vs ps → Rep (.ref a) (.dct ps)
  | mob (a : Addr) : Rep (.ref a) (.mob a)
inductive RepK : List (Key × V) → List (Key × PV) → Prop
  | nil : RepK [] []
  | cons {k : Key} {v : V} {q : PV} {vs : List (Key × V)} {ps : List (Key × PV)} : Rep v q → RepK vs ps → RepK ((k, v) :: vs) ((k, q) :: ps)
inductive RepL : List V → List PV → Prop
  | nil : RepL [] []
  | cons {v : V} {q : PV} {vs : List V} {ps : List PV} : Rep v q → RepL vs ps → RepL (v :: vs) (q :: ps)
inductive RepF : List (Str × V) → List (Str × PV) → Prop
  | nil : RepF [] []
  | cons {f : Str} {v : V} {q : PV} {vs : List (Str × V)} {ps : List (Str × PV)} : Rep v q → RepF vs ps → RepF ((f, v) :: vs) ((f, q) :: ps)
inductive RepX : Option Addr → List (Str × PV) → Prop
  | none : RepX none []
  | some {d : Addr} {vs : List (Str × V)} {ps : List (Str × PV)} : G d = some (.xd vs) → RepF vs ps → RepX (some d) ps
end
end
section
variable {K : PySem.W.Frag} {cm : Md} {p : Addr} {G G' : Hp}
mutual
theorem Rep.mono (s : Same G G') : ∀ {v : V} {q : PV}, Rep K cm p G v q → Rep K cm p G' v q
  | _, _, .non => .non
  | _, _, .bl b => .bl b
  | _, _, .int i => .int i
  | _, _, .str x => .str x
  | _, _, .lst h r => .lst (s _ _ h) (RepL.mono s r)
  | _, _, .tup h r => .tup (Ev.Same.seqT s h) (RepL.mono s r)
  | _, _, .ins h g r => .ins h (s _ _ g) (RepF.mono s r)
  | _, _, .exc h g r => .exc h (s _ _ g) (RepX.mono s r)
  | _, _, .pen => .pen
  | _, _, .ext v => .ext v
  | _, _, .dct h r => .dct (s _ _ h) (RepK.mono s r)
  | _, _, .mob a => .mob a
theorem RepK.mono (s : Same G G') : ∀ {v : List (Key × V)} {q : List (Key × PV)}, RepK K cm p G v q → RepK K cm p G' v q
  | _, _, .nil => .nil
  | _, _, .cons h r => .cons (Rep.mono s h) (RepK.mono s r)
theorem RepL.mono (s : Same G G') : ∀ {v : List V} {q : List PV}, RepL K cm p G v q → RepL K cm p G' v q
  | _, _, .nil => .nil
  | _, _, .cons h r => .cons (Rep.mono s h) (RepL.mono s r)
theorem RepF.mono (s : Same G G') : ∀ {v : List (Str × V)} {q : List (Str × PV)}, RepF K cm p G v q → RepF K cm p G' v q
  | _, _, .nil => .nil
  | _, _, .cons h r => .cons (Rep.mono s h) (RepF.mono s r)
theorem RepX.mono (s : Same G G') : ∀ {v : Option Addr} {q : List (Str × PV)}, RepX K cm p G v q → RepX K cm p G' v q
  | _, _, .none => .none
  | _, _, .some h r => .some (s _ _ h) (RepF.mono s r)
end
theorem RepL.len : ∀ {v : List V} {q : List PV}, RepL K cm p G v q → v.length = q.length
  | _, _, .nil => rfl
  | _, _, .cons _ r => by rw [List.length_cons, List.length_cons, RepL.len r]
theorem RepL.get : ∀ {v : List V} {q : List PV} {i : Nat} {x : PV}, RepL K cm p G v q → q[i]? = some x → ∃ y, v[i]? = some y ∧ Rep K cm p G y x
  | _, _, _, _, .nil, e => by simp at e
  | _, _, 0, _, .cons r _, e => by simp at e; subst e; exact ⟨_, rfl, r⟩
  | _, _, i + 1, x, .cons _ t, e => by
    obtain ⟨u, h1, h2⟩ := RepL.get (i := i) (x := x) t (by simpa using e)
    exact ⟨u, by simpa using h1, h2⟩
theorem RepL.append : ∀ {v v2 : List V} {q q2 : List PV}, RepL K cm p G v q → RepL K cm p G v2 q2 → RepL K cm p G (v ++ v2) (q ++ q2)
  | _, _, _, _, .nil, s => s
  | _, _, _, _, .cons r t, s => .cons r (RepL.append t s)
theorem RepL.take : ∀ {v : List V} {q : List PV} (n : Nat), RepL K cm p G v q → RepL K cm p G (v.take n) (q.take n)
  | _, _, 0, _ => .nil
  | _, _, _ + 1, .nil => .nil
  | _, _, n + 1, .cons r t => .cons r (RepL.take n t)
theorem RepL.drop : ∀ {v : List V} {q : List PV} (n : Nat), RepL K cm p G v q → RepL K cm p G (v.drop n) (q.drop n)
  | _, _, 0, r => r
  | _, _, _ + 1, .nil => .nil
  | _, _, n + 1, .cons _ t => RepL.drop n t
theorem RepF.look : ∀ {v : List (Str × V)} {q : List (Str × PV)} {f : Str}, RepF K cm p G v q → (q.lookup f = none ∧ v.lookup f = none) ∨ ∃ x y, q.lookup f = some x ∧ v.lookup f = some y ∧ Rep K cm p G y x
  | _, _, _, .nil => .inl ⟨rfl, rfl⟩
  | _, _, f, .cons (f := g) (v := y) (q := x) h r => by
    simp only [List.lookup]
    by_cases e : (f == g) = true
    · rw [e]
      exact .inr ⟨_, _, rfl, rfl, h⟩
    · rw [show (f == g) = false by simpa using e]
      exact RepF.look r
theorem RepF.len : ∀ {v : List (Str × V)} {q : List (Str × PV)}, RepF K cm p G v q → v.length = q.length
  | _, _, .nil => rfl
  | _, _, .cons _ r => by rw [List.length_cons, List.length_cons, RepF.len r]
def pputF (f : Str) (x : PV) : List (Str × PV) → List (Str × PV)
  | [] => [(f, x)]
  | (g, y) :: r => if g = f then (g, x) :: r else (g, y) :: pputF f x r
end
structure Cz where
  a : Addr
  lk : Bool := false
def MutO (cm : Md) (o : HO) : Prop := ∃ C dx fs, o = .ins C dx fs ∧ ∀ c, cm.cl c ≠ some C
structure Mu (K : PySem.W.Frag) (cm : Md) (p : Addr) (G H : Hp) (n : SN) : Prop where
  at_ : ∀ a c fs, n.μ a = some (c, fs) → ∃ C dx vs, cm.mu c = some C ∧ (∀ c', cm.cl c' ≠ some C) ∧ H a = some (.ins C dx vs) ∧ RepF K cm p G vs fs
  g : ∀ a x, n.μ a = some x → G a = none
structure Ok (K : PySem.W.Frag) (cm : Md) (p : Addr) (c : Cz) (G H : Hp) (n : SN) : Prop where
  sub : Same G H
  pen : Ev.Pen H p c.a (90000 - (n.n : Int))
  gp : G p = none
  gc : G c.a = none
  tb : LamX.Tabs cm.T H
  gt : ∀ b ps, G b ≠ some (.tbl ps)
  mu : Mu K cm p G H n
  lk : n.lk = c.lk
def NT0 (o : HO) : Prop := ∀ ps, o ≠ .tbl ps
def NT (cm : Md) (o : HO) : Prop := NT0 o ∧ ¬ MutO cm o
def KO (cm : Md) (c : Cz) (o : HO) : Prop := NT0 o ∧ (MutO cm o → c.lk = true)
theorem NT.ko {cm : Md} {c : Cz} {o : HO} (h : NT cm o) : KO cm c o := ⟨h.1, fun z => (h.2 z).elim⟩
theorem nt0_lst {xs : List V} : NT0 (.lst xs) := fun _ h => by cases h
theorem nt0_tup {xs : List V} : NT0 (.tup xs) := fun _ h => by cases h
theorem nt0_dK {kvs : List (Key × V)} : NT0 (.dK kvs) := fun _ h => by cases h
theorem nt0_xd {fs : List (Str × V)} : NT0 (.xd fs) := fun _ h => by cases h
theorem nt0_ext {φ : Heap → Prop} : NT0 (.ext φ) := fun _ h => by cases h
theorem nt0_ins {C dx : Addr} {fs : List (Str × V)} : NT0 (.ins C dx fs) := fun _ h => by cases h
section
variable {cm : Md} {c : Cz}
theorem nt_lst {xs : List V} : NT cm (.lst xs) := ⟨nt0_lst, fun ⟨_, _, _, h, _⟩ => by cases h⟩
theorem ko_lst {xs : List V} : KO cm c (.lst xs) := nt_lst.ko
theorem nt_dK {kvs : List (Key × V)} : NT cm (.dK kvs) := ⟨nt0_dK, fun ⟨_, _, _, h, _⟩ => by cases h⟩
theorem ko_dK {kvs : List (Key × V)} : KO cm c (.dK kvs) := nt_dK.ko
theorem nt_ins {C dx : Addr} {fs : List (Str × V)} {d : Str} (h : cm.cl d = some C) : NT cm (.ins C dx fs) := ⟨nt0_ins, fun ⟨_, _, _, e, k⟩ => by
  cases e
  exact k d h⟩
theorem ko_ins {C dx : Addr} {fs : List (Str × V)} {d : Str} (h : cm.cl d = some C) : KO cm c (.ins C dx fs) := (nt_ins h).ko
end
section
variable {K : PySem.W.Frag} {cm : Md} {p : Addr} {G G' H H' : Hp} {n : SN}
theorem Mu.to (m : Mu K cm p G H n) (s : Same G G') (h : ∀ a o, H a = some o → MutO cm o → G a = none → H' a = some o ∧ G' a = none) : Mu K cm p G' H' n :=
  ⟨fun a c fs e => by
    obtain ⟨C, dx, vs, h1, h2, h3, h4⟩ := m.at_ a c fs e
    exact ⟨C, dx, vs, h1, h2, (h a _ h3 ⟨_, _, _, rfl, h2⟩ (m.g a _ e)).1, h4.mono s⟩, fun a x e => by
    obtain ⟨C, dx, vs, h1, h2, h3, h4⟩ := m.at_ a x.1 x.2 e
    exact (h a _ h3 ⟨_, _, _, rfl, h2⟩ (m.g a _ e)).2⟩
theorem Mu.draw {n' : SN} (m : Mu K cm p G H n) (e : n'.μ = n.μ) : Mu K cm p G H n' := ⟨fun a c fs h => m.at_ a c fs (by rw [← e]; exact h), fun a x h => m.g a x (by rw [← e]; exact h)⟩
theorem Mu.frz (m : Mu K cm p G H n) {a : Addr} {o u : HO} (h : H a = some u) (hn : NT cm u) (g : G a = none) : Mu K cm p (upd G a o) H n := m.to (fun b v e => Ev.get_new e g) fun b v e mo gb => ⟨e, by
  refine (upd_ne fun q => ?_).trans gb
  subst q
  rw [h] at e
  cases e
  exact hn.2 mo⟩
theorem Mu.newG (m : Mu K cm p G H n) {a : Addr} {o u : HO} (h : H a = none) (g : G a = none) : Mu K cm p (upd G a o) (upd H a u) n := m.to (fun b v e => Ev.get_new e g) fun b v e _ gb => ⟨Ev.get_new e h, by
  refine (upd_ne fun q => ?_).trans gb
  subst q
  rw [h] at e
  cases e⟩
theorem Mu.new (m : Mu K cm p G H n) {a : Addr} {u : HO} (h : H a = none) : Mu K cm p G (upd H a u) n := m.to (fun _ _ e => e) fun b v e _ gb => ⟨Ev.get_new e h, gb⟩
theorem Mu.set (m : Mu K cm p G H n) {a : Addr} {o u : HO} (h : H a = some u) (hn : ¬ MutO cm u) : Mu K cm p G (upd H a o) n := m.to (fun _ _ e => e) fun b v e mo gb => ⟨by
  refine (upd_ne fun q => ?_).trans e
  subst q
  rw [h] at e
  cases e
  exact hn mo, gb⟩
theorem Mu.setG (m : Mu K cm p G H n) {a : Addr} {o u v : HO} (h : H a = some u) (hn : ¬ MutO cm u) (g : G a = none) : Mu K cm p (upd G a v) (upd H a o) n := m.to (fun b v e => Ev.get_new e g) fun b v e mo gb => by
  have nq : b ≠ a := fun q => by
    subst q
    rw [h] at e
    cases e
    exact hn mo
  exact ⟨(upd_ne nq).trans e, (upd_ne nq).trans gb⟩
end
theorem Tabs.set {T : List (Addr × Str)} {H : Hp} {a : Addr} {o u : HO} (t : LamX.Tabs T H) (e : H a = some o) (n : NT0 o) (c : ∀ φ, o ≠ .ext φ) : LamX.Tabs T (upd H a u) := fun q hq => by
  obtain ⟨ps, h1, h2, h3⟩ := t q hq
  refine ⟨ps, (upd_ne (fun z => ?_)).trans h1, h2, fun pos cv hc => ?_⟩
  · rw [z, e] at h1
    exact n _ (Option.some.inj h1)
  · obtain ⟨d, e1, e2⟩ := h3 pos cv hc
    refine ⟨d, e1, (upd_ne (fun z => ?_)).trans e2⟩
    rw [z, e] at e2
    exact c _ (Option.some.inj e2)
theorem Tabs.new {T : List (Addr × Str)} {H : Hp} {a : Addr} {u : HO} (t : LamX.Tabs T H) (e : H a = none) : LamX.Tabs T (upd H a u) := LamX.Tabs.ext t fun _ _ h => Ev.get_new h e
theorem Tabs.but {T : List (Addr × Str)} {H H' : Hp} {p c : Addr} {n : Int} (t : LamX.Tabs T H) (b : ∀ q o, H q = some o → q ≠ p → H' q = some o) (h : Ev.Pen H p c n) : LamX.Tabs T H' := fun q hq => by
  obtain ⟨_, _, _, hp, _⟩ := h
  obtain ⟨ps, h1, h2, h3⟩ := t q hq
  refine ⟨ps, b _ _ h1 (fun z => ?_), h2, fun pos cv hc => ?_⟩
  · rw [z, hp] at h1
    cases h1
  · obtain ⟨d, e1, e2⟩ := h3 pos cv hc
    refine ⟨d, e1, b _ _ e2 (fun z => ?_)⟩
    rw [z, hp] at e2
    cases e2
theorem gt_upd {G : Hp} {a : Addr} {o : HO} (g : ∀ b ps, G b ≠ some (.tbl ps)) (n : NT0 o) : ∀ b ps, upd G a o b ≠ some (.tbl ps) := fun b ps e => by
  by_cases z : b = a
  · subst z
    rw [upd_same] at e
    exact n _ (Option.some.inj e)
  · rw [upd_ne z] at e
    exact g _ _ e
def Has (H : Hp) (b : Addr) : Prop := ∃ o, H b = some o ∧ NT0 o
theorem Has.no {H : Hp} {b : Addr} (h : Has H b) (e : H b = none) : False := by
  obtain ⟨o, e2, _⟩ := h
  rw [e] at e2
  cases e2
theorem Has.upd {H : Hp} {a b : Addr} {o : HO} (h : Has H b) (n : NT0 o) : Has (upd H a o) b := by
  by_cases z : b = a
  · subst z
    exact ⟨o, upd_same, n⟩
  · obtain ⟨u, e, m⟩ := h
    exact ⟨u, (upd_ne z).trans e, m⟩
structure Step (cm : Md) (c : Cz) (ms : Addr → Prop) (G H G' H' : Hp) : Prop where
  same : Same G G'
  keep : ∀ b o, H b = some o → ¬ ms b → KO cm c o → H' b = some o
  new : ∀ b o, G' b = some o → Has H b → G b = some o
  al : ∀ b, Has H b → Has H' b
section
variable {cm : Md} {c : Cz}
theorem Step.refl (ms : Addr → Prop) (G H : Hp) : Step cm c ms G H G H := ⟨Same.refl _, fun _ _ h _ _ => h, fun _ _ h _ => h, fun _ h => h⟩
theorem Step.trans {ms ms' : Addr → Prop} {G H G1 H1 G2 H2 : Hp} (a : Step cm c ms G H G1 H1) (b : Step cm c ms' G1 H1 G2 H2) (h : ∀ x, ms' x → ms x) : Step cm c ms G H G2 H2 :=
  ⟨a.same.trans b.same, fun x o e n t => b.keep x o (a.keep x o e n t) (fun z => n (h x z)) t, fun x o e n => a.new x o (b.new x o e (a.al x n)) n, fun x n => b.al x (a.al x n)⟩
theorem Step.weak {ms : Addr → Prop} {G H G' H' : Hp} {b : Bool} (s : Step cm c ms G H G' H') (h : b = true → c.lk = true) : Step cm ⟨c.a, b⟩ ms G H G' H' := ⟨s.same, fun x o e n t => s.keep x o e n ⟨t.1, fun mo => h (t.2 mo)⟩, s.new, s.al⟩
theorem gc_upd {G : Hp} {a q : Addr} {o : HO} (n : a ≠ q) (h : G a = none) : upd G q o a = none := (upd_ne n).trans h
end
structure Z where
  K : PySem.W.Frag
  cm : Md
  p : Addr
  c : Cz
  H0 : Hp
  G0 : Hp
  ms : Addr → Prop
  W : PEnv → XP
  Gx : Hp
  me : Addr
  mC : Addr
  md : Addr
  l0 : Bool
abbrev Z.rep (z : Z) : Hp → V → PV → Prop := Rep z.K z.cm z.p
abbrev Z.repL (z : Z) : Hp → List V → List PV → Prop := RepL z.K z.cm z.p
abbrev Z.repK (z : Z) : Hp → List (Key × V) → List (Key × PV) → Prop := RepK z.K z.cm z.p
abbrev Z.repF (z : Z) : Hp → List (Str × V) → List (Str × PV) → Prop := RepF z.K z.cm z.p
abbrev Z.repX (z : Z) : Hp → Option Addr → List (Str × PV) → Prop := RepX z.K z.cm z.p
abbrev Z.nox (z : Z) : Z := { z with W := fun _ => W0 }
abbrev Z.lock (z : Z) : Z := { z with c := ⟨z.c.a, true⟩ }
structure Fr (z : Z) (G H : Hp) : Prop where
  st : Step z.cm ⟨z.c.a, z.l0⟩ z.ms z.G0 z.H0 G H
  mp : z.ms z.p
  sx : Same z.Gx G
  lk : z.l0 = true → z.c.lk = true
structure Mine (z : Z) (G : Hp) (a : Addr) : Prop where
  g : G a = none
  p : a ≠ z.p
  c : a ≠ z.c.a
  h : ¬ Has z.H0 a ∨ z.ms a
def Slot.isOwn : Slot → Bool
  | .own _ => true
  | .odc _ => true
  | .obj _ _ => true
  | _ => false
def SlotRel (z : Z) (G H : Hp) (x : Option V) : Slot → Prop
  | .no => True
  | .val q => ∃ v, x = some v ∧ z.rep G v q
  | .own ps => ∃ a vs, x = some (.ref a) ∧ H a = some (.lst vs) ∧ Mine z G a ∧ ¬ Has z.H0 a ∧ z.repL G vs ps
  | .odc ps => ∃ a vs, x = some (.ref a) ∧ H a = some (.dK vs) ∧ Mine z G a ∧ ¬ Has z.H0 a ∧ z.repK G vs ps
  | .obj c fs => ∃ a C dx vs, x = some (.ref a) ∧ z.cm c = some C ∧ H a = some (.ins C dx vs) ∧ Mine z G a ∧ z.repF G vs fs ∧ (a = z.me ∧ C = z.mC ∧ dx = z.md)
structure EnvRel (z : Z) (G H : Hp) (σ : L2.St) (env : PEnv) : Prop where
  at_ : ∀ (i : Nat) (s : Slot), env[i]? = some s → ∃ x, σ[i]? = some x ∧ SlotRel z G H x s
  df : ∀ (i j : Nat) (s s' : Slot) (a : Addr), i ≠ j → env[i]? = some s → env[j]? = some s' → s.isOwn = true → s'.isOwn = true → σ[i]? = some (some (.ref a)) → σ[j]? = some (some (.ref a)) → False
  len : σ.length = env.length
section
variable {z : Z} {G H G' H' : Hp} {n n' : SN} {σ : L2.St} {env : PEnv}
theorem Fr.step {ms : Addr → Prop} (f : Fr z G H) (s : Step z.cm z.c ms G H G' H') (h : ∀ x, ms x → z.ms x) : Fr z G' H' := ⟨f.st.trans (s.weak f.lk) h, f.mp, f.sx.trans s.same, f.lk⟩
theorem Fr.stepP (f : Fr z G H) (s : Step z.cm z.c (· = z.p) G H G' H') : Fr z G' H' := f.step s fun x e => by subst e; exact f.mp
theorem SlotRel.step {x : Option V} {s : Slot} (st : Step z.cm z.c (· = z.p) G H G' H') (r : SlotRel z G H x s) : SlotRel z G' H' x s := by
  have mine : ∀ {a o}, H a = some o → NT0 o → Mine z G a → Mine z G' a := fun {a o} h nt m => by
    have e : G' a = none := by
      cases e : G' a with
      | none => rfl
      | some u =>
        have := st.new a u e ⟨o, h, nt⟩
        rw [m.g] at this
        cases this
    exact ⟨e, m.p, m.c, m.h⟩
  cases s with
  | no => trivial
  | val q => exact let ⟨v, e, r⟩ := r; ⟨v, e, r.mono st.same⟩
  | own ps => exact let ⟨a, vs, e, h, m, h0, r⟩ := r; ⟨a, vs, e, st.keep _ _ h m.p ko_lst, mine h nt0_lst m, h0, r.mono st.same⟩
  | odc ps => exact let ⟨a, vs, e, h, m, h0, r⟩ := r; ⟨a, vs, e, st.keep _ _ h m.p ko_dK, mine h nt0_dK m, h0, r.mono st.same⟩
  | obj c fs => exact let ⟨a, C, dx, vs, e, hc, h, m, r, me⟩ := r; ⟨a, C, dx, vs, e, hc, st.keep _ _ h m.p (ko_ins hc), mine h nt0_ins m, r.mono st.same, me⟩
theorem EnvRel.step (e : EnvRel z G H σ env) (st : Step z.cm z.c (· = z.p) G H G' H') : EnvRel z G' H' σ env :=
  ⟨fun i s h => let ⟨x, a, b⟩ := e.at_ i s h; ⟨x, a, b.step st⟩, e.df, e.len⟩
theorem Ok.new {q : Addr} {o : HO} (k : Ok z.K z.cm z.p z.c G H n) (hq : H q = none) (hnt : NT0 o := by first | exact nt0_tup | exact nt0_lst | exact nt0_dK | exact nt0_xd | exact nt0_ext | exact nt0_ins) : Ok z.K z.cm z.p z.c (upd G q o) (upd H q o) n ∧ Step z.cm z.c (· = z.p) G H (upd G q o) (upd H q o) := by
  have gq : G q = none := by
    cases e : G q with
    | none => rfl
    | some u => rw [k.sub _ _ e] at hq; cases hq
  have np := Ev.Pen.ne k.pen hq
  have nc := Ev.Pen.neC k.pen hq
  refine ⟨⟨fun b u e => ?_, k.pen.new hq, (upd_ne np.symm).trans k.gp, gc_upd nc.symm k.gc, Tabs.new k.tb hq, fun b ps e => ?_, k.mu.newG hq gq, k.lk⟩, ⟨fun b u e => Ev.get_new e gq, fun b u e _ _ => Ev.get_new e hq, fun b u e h => ?_, fun b h => ?_⟩⟩
  · by_cases z : b = q
    · subst z
      rw [upd_same] at e ⊢
      exact e
    · rw [upd_ne z] at e ⊢
      exact k.sub _ _ e
  · by_cases z : b = q
    · subst z
      rw [upd_same] at e
      exact hnt _ (Option.some.inj e)
    · rw [upd_ne z] at e
      exact k.gt _ _ e
  · by_cases z : b = q
    · subst z
      exact (h.no hq).elim
    · rw [upd_ne z] at e
      exact e
  · obtain ⟨u, e, m⟩ := h
    exact ⟨u, Ev.get_new e hq, m⟩
theorem Ok.newO {q : Addr} {o : HO} (k : Ok z.K z.cm z.p z.c G H n) (hq : H q = none) : Ok z.K z.cm z.p z.c G (upd H q o) n ∧ Step z.cm z.c (· = z.p) G H G (upd H q o) :=
  ⟨⟨fun b u e => Ev.get_new (k.sub _ _ e) hq, k.pen.new hq, k.gp, k.gc, Tabs.new k.tb hq, k.gt, k.mu.new hq, k.lk⟩, ⟨Same.refl _, fun b u e _ _ => Ev.get_new e hq, fun _ _ e _ => e, fun b h => by
    obtain ⟨u, e, m⟩ := h
    exact ⟨u, Ev.get_new e hq, m⟩⟩⟩
theorem Ok.free {q : Addr} (k : Ok z.K z.cm z.p z.c G H n) (hq : H q = none) : G q = none := by
  cases e : G q with
  | none => rfl
  | some u => rw [k.sub _ _ e] at hq; cases hq
theorem Fr.h0 {q : Addr} (f : Fr z G H) (hq : H q = none) : ¬ Has z.H0 q := fun h => (f.st.al q h).no hq
theorem Ok.mine {q : Addr} (k : Ok z.K z.cm z.p z.c G H n) (f : Fr z G H) (hq : H q = none) : Mine z G q := ⟨k.free hq, Ev.Pen.ne k.pen hq, Ev.Pen.neC k.pen hq, .inl (f.h0 hq)⟩
theorem Ok.set {a : Addr} {o u : HO} (k : Ok z.K z.cm z.p z.c G H n) (m : Mine z G a) (h : H a = some u) (hn : NT z.cm u := by first | exact nt_lst | exact nt_ins (by assumption) | exact nt_dK) (hx : ∀ φ, u ≠ .ext φ := by intro _ z; cases z) : Ok z.K z.cm z.p z.c G (upd H a o) n :=
  ⟨fun b v e => Ev.get_ne (fun q => by rw [q, m.g] at e; cases e) (k.sub _ _ e), k.pen.set m.p m.c, k.gp, k.gc, Tabs.set k.tb h hn.1 hx, k.gt, k.mu.set h hn.2, k.lk⟩
theorem Ok.notp {b : Addr} {o : HO} {K : PySem.W.Frag} {cm : Md} {p : Addr} {c : Cz} (k : Ok K cm p c G H n) (e : H b = some o) (mo : MutO cm o) : b ≠ p := fun q => by
  obtain ⟨_, _, _, hp, _⟩ := k.pen
  obtain ⟨_, _, _, rfl, _⟩ := mo
  rw [q, hp] at e
  cases e
theorem Ok.lock {K : PySem.W.Frag} {cm : Md} {p : Addr} {c : Cz} (k : Ok K cm p c G H n) : Ok K cm p ⟨c.a, true⟩ G H n.lock := ⟨k.sub, k.pen, k.gp, k.gc, k.tb, k.gt, k.mu.draw rfl, rfl⟩
theorem Ok.unlock {K : PySem.W.Frag} {cm : Md} {p : Addr} {c : Cz} {G1 : Hp} (k : Ok K cm p c G H n) (k' : Ok K cm p ⟨c.a, true⟩ G' H' n') (st : Step cm ⟨c.a, true⟩ (· = p) G1 H G' H') (s : Same G G') : Ok K cm p c G H' (n.back n') :=
  ⟨s.trans k'.sub, k'.pen, k.gp, k.gc, k'.tb, k.gt, (k.mu.to (H' := H') (Same.refl _) fun b o e mo g => ⟨st.keep b o e (k.notp e mo) ⟨by obtain ⟨_, _, _, rfl, _⟩ := mo; exact nt0_ins, fun _ => rfl⟩, g⟩).draw rfl, k.lk⟩
theorem Fr.lockd (f : Fr z G H) : Fr z.lock G H := ⟨f.st, f.mp, f.sx, fun _ => rfl⟩
theorem EnvRel.lockd (e : EnvRel z G H σ env) : EnvRel z.lock G H σ env := by
  refine ⟨fun i s h => ?_, e.df, e.len⟩
  obtain ⟨x, hx, r⟩ := e.at_ i s h
  refine ⟨x, hx, ?_⟩
  cases s with
  | no => trivial
  | val q => exact r
  | own ps => exact let ⟨a, vs, e, h, m, h0, r⟩ := r; ⟨a, vs, e, h, ⟨m.g, m.p, m.c, m.h⟩, h0, r⟩
  | odc ps => exact let ⟨a, vs, e, h, m, h0, r⟩ := r; ⟨a, vs, e, h, ⟨m.g, m.p, m.c, m.h⟩, h0, r⟩
  | obj c fs => exact let ⟨a, C, dx, vs, e, hc, h, m, r, me⟩ := r; ⟨a, C, dx, vs, e, hc, h, ⟨m.g, m.p, m.c, m.h⟩, r, me⟩
theorem Fr.set {a : Addr} {o : HO} (f : Fr z G H) (m : Mine z G a) (hn : NT0 o := by first | exact nt0_lst | exact nt0_ins | exact nt0_dK) : Fr z G (upd H a o) := by
  refine ⟨⟨f.st.same, fun b v e nb nt => ?_, f.st.new, fun b h => ?_⟩, f.mp, f.sx, f.lk⟩
  · refine Ev.get_ne (fun q => ?_) (f.st.keep b v e nb nt)
    subst q
    rcases m.h with h | h
    · exact h ⟨v, e, nt.1⟩
    · exact nb h
  · exact (f.st.al b h).upd hn
end
end Pu
namespace Pu
open PySem L2
def Post {α β : Type} (z : Z) (R : Hp → α → β → Prop) (G H : Hp) (Qp : β → SN → Prop) (Q : α → Hp → Prop) : Prop :=
  ∀ v q G' H' n', Ok z.K z.cm z.p z.c G' H' n' → Step z.cm z.c (· = z.p) G H G' H' → R G' v q → Qp q n' → Q v H'
def Sim {α β : Type} (z : Z) (R : Hp → α → β → Prop) (t : L2.St → Hp → (α → Hp → Prop) → Prop) (m : PEnv → M β) : Prop :=
  ∀ (σ : L2.St) (env : PEnv) (G H : Hp) (n : SN) (Qp : β → SN → Prop) (Q : α → Hp → Prop), Ok z.K z.cm z.p z.c G H n → Fr z G H → EnvRel z G H σ env → m env (z.W env) n Qp → Post z R G H Qp Q → t σ H Q
def eqB : Hp → Bool → Bool → Prop := fun _ a b => a = b
def eqO : Hp → Option Int → Option Int → Prop := fun _ a b => a = b
abbrev SimE (z : Z) (t : TE) (m : PEnv → M PV) : Prop := Sim z z.rep t m
abbrev SimA (z : Z) (t : TA) (m : PEnv → M (List PV)) : Prop := Sim z z.repL t m
abbrev SimT (z : Z) (t : TT) (m : PEnv → M Bool) : Prop := Sim z eqB t m
section
variable {z : Z} {G H G1 H1 : Hp} {n : SN} {σ : L2.St} {env : PEnv} {α β : Type} {R : Hp → α → β → Prop} {Qp : β → SN → Prop} {Q : α → Hp → Prop}
theorem Post.step (h : Post z R G H Qp Q) (s : Step z.cm z.c (· = z.p) G H G1 H1) : Post z R G1 H1 Qp Q := fun v q G' H' n' ok st r hq => h v q G' H' n' ok (s.trans st fun _ x => x) r hq
theorem Post.here (h : Post z R G H Qp Q) {v : α} {q : β} (ok : Ok z.K z.cm z.p z.c G H n) (r : R G v q) (hq : Qp q n) : Q v H := h v q G H n ok (Step.refl _ _ _) r hq
theorem Sim.bind {t : L2.St → Hp → (α → Hp → Prop) → Prop} {m : PEnv → M β} (h : Sim z R t m) (ok : Ok z.K z.cm z.p z.c G H n) (fr : Fr z G H) (er : EnvRel z G H σ env) (hm : m env (z.W env) n Qp)
    (hk : ∀ v q G' H' n', Ok z.K z.cm z.p z.c G' H' n' → Fr z G' H' → EnvRel z G' H' σ env → Step z.cm z.c (· = z.p) G H G' H' → R G' v q → Qp q n' → Q v H') : t σ H Q :=
  h σ env G H n Qp Q ok fr er hm fun v q G' H' n' ok' st r hq => hk v q G' H' n' ok' (fr.stepP st) (er.step st) st r hq
end
def SimR (z : Z) (r : R2) (po : PV → PV → M PV) : Prop := ∀ (σ : L2.St) (env : PEnv) (G H : Hp) (n : SN) (Qp : PV → SN → Prop) (Q : VK) (x y : V) (px py : PV),
  Ok z.K z.cm z.p z.c G H n → Fr z G H → EnvRel z G H σ env → z.rep G x px → z.rep G y py → po px py (z.W env) n Qp → Post z z.rep G H Qp Q → r x y H Q
def SimU (z : Z) (r : V → Hp → VK → Prop) (po : PV → M PV) : Prop := ∀ (σ : L2.St) (env : PEnv) (G H : Hp) (n : SN) (Qp : PV → SN → Prop) (Q : VK) (x : V) (px : PV),
  Ok z.K z.cm z.p z.c G H n → Fr z G H → EnvRel z G H σ env → z.rep G x px → po px (z.W env) n Qp → Post z z.rep G H Qp Q → r x H Q
def SimC (z : Z) (r : List V → Hp → VK → Prop) (po : List PV → M PV) : Prop := ∀ (σ : L2.St) (env : PEnv) (G H : Hp) (n : SN) (Qp : PV → SN → Prop) (Q : VK) (xs : List V) (ps : List PV),
  Ok z.K z.cm z.p z.c G H n → Fr z G H → EnvRel z G H σ env → z.repL G xs ps → po ps (z.W env) n Qp → Post z z.rep G H Qp Q → r xs H Q
def mVar (i : Nat) : PEnv → M PV := fun env _ n Q => match env[i]? with
  | some (.val q) => Q q n
  | _ => False
def mC (q : PV) : PEnv → M PV := fun _ _ n Q => Q q n
def mOp (po : PV → PV → M PV) (a b : PEnv → M PV) : PEnv → M PV := fun env W n Q => a env W n fun x n1 => b env W n1 fun y n2 => po x y W n2 Q
def mUn (po : PV → M PV) (a : PEnv → M PV) : PEnv → M PV := fun env W n Q => a env W n fun x n1 => po x W n1 Q
def mB (a : PEnv → M PV) : PEnv → M Bool := fun env W n Q => a env W n fun x n1 => match x with
  | .bl b => Q b n1
  | _ => False
def mAnd (a b : PEnv → M Bool) : PEnv → M Bool := fun env W n Q => a env W n fun c n1 => if c = true then b env W n1 Q else Q false n1
def mOr (a b : PEnv → M Bool) : PEnv → M Bool := fun env W n Q => a env W n fun c n1 => if c = true then Q true n1 else b env W n1 Q
def mNot (a : PEnv → M Bool) : PEnv → M Bool := fun env W n Q => a env W n fun c n1 => Q (!c) n1
def mAndV (a b : PEnv → M PV) : PEnv → M PV := fun env W n Q => a env W n fun x n1 => match x with
  | .bl c => if c = true then b env W n1 Q else Q (.bl false) n1
  | _ => False
def mOrV (a b : PEnv → M PV) : PEnv → M PV := fun env W n Q => a env W n fun x n1 => match x with
  | .bl c => if c = true then Q (.bl true) n1 else b env W n1 Q
  | _ => False
def mNotV (a : PEnv → M PV) : PEnv → M PV := fun env W n Q => a env W n fun x n1 => match x with
  | .bl c => Q (.bl (!c)) n1
  | _ => False
def mIf (c : PEnv → M Bool) (a b : PEnv → M PV) : PEnv → M PV := fun env W n Q => c env W n fun k n1 => if k = true then a env W n1 Q else b env W n1 Q
def mChain (po po' : PV → PV → M PV) (a b c : PEnv → M PV) : PEnv → M PV := fun env W n Q => a env W n fun x n1 => b env W n1 fun y n2 => po x y W n2 fun k n3 => match k with
  | .bl k => if k = true then c env W n3 fun w n4 => po' y w W n4 Q else Q (.bl false) n3
  | _ => False
def mNil : PEnv → M (List PV) := fun _ _ n Q => Q [] n
def mCons (a : PEnv → M PV) (r : PEnv → M (List PV)) : PEnv → M (List PV) := fun env W n Q => a env W n fun x n1 => r env W n1 fun xs n2 => Q (x :: xs) n2
def mTup (r : PEnv → M (List PV)) : PEnv → M PV := fun env W n Q => r env W n fun xs n1 => xs.length ≤ 1000000 ∧ Q (.tup xs) n1
def mLst (r : PEnv → M (List PV)) : PEnv → M PV := fun env W n Q => r env W n fun xs n1 => xs.length ≤ 1000000 ∧ Q (.lst xs) n1
def mCB (po : List PV → M PV) (r : PEnv → M (List PV)) : PEnv → M PV := fun env W n Q => r env W n fun xs n1 => po xs W n1 Q
def mFld (f : Str) (a : PEnv → M PV) : PEnv → M PV := fun env W n Q => a env W n fun x n1 => match x with
  | .ins _ fs => match fs.lookup f with
    | some y => Q y n1
    | none => False
  | _ => False
def mFldO (f : Str) (i : Nat) : PEnv → M PV := fun env _ n Q => match env[i]? with
  | some (.obj _ fs) => match fs.lookup f with
    | some y => Q y n
    | none => False
  | _ => False
section
variable {z : Z}
theorem line_of {n : Nat} (h : n ≤ 1000000) : n ≤ sizeLine := Nat.le_trans h (by rw [sizeLine_eq]; decide)
theorem sim_var {i : Nat} : SimE z (tVar i) (mVar i) := by
  intro σ env G H n Qp Q ok fr er hm hq
  unfold mVar at hm
  split at hm
  · rename_i q he
    obtain ⟨x, hx, v, rfl, r⟩ := er.at_ i _ he
    exact ⟨v, hx, hq.here ok r hm⟩
  · exact hm.elim
theorem sim_c {v : V} {q : PV} (h : ∀ G, z.rep G v q) : SimE z (tC v) (mC q) := fun σ env G H n Qp Q ok fr er hm hq => hq.here ok (h G) hm
theorem sim_op {r : R2} {po : PV → PV → M PV} {ta tb : TE} {ma mb : PEnv → M PV} (hr : SimR z r po) (ha : SimE z ta ma) (hb : SimE z tb mb) : SimE z (tOp r ta tb) (mOp po ma mb) := by
  intro σ env G H n Qp Q ok fr er hm hq
  refine ha.bind ok fr er hm fun x px G1 H1 n1 ok1 fr1 er1 s1 r1 hm1 => ?_
  refine hb.bind ok1 fr1 er1 hm1 fun y py G2 H2 n2 ok2 fr2 er2 s2 r2 hm2 => ?_
  exact hr σ env G2 H2 n2 Qp Q x y px py ok2 fr2 er2 (r1.mono s2.same) r2 hm2 ((hq.step s1).step s2)
theorem sim_un {r : V → Hp → VK → Prop} {po : PV → M PV} {ta : TE} {ma : PEnv → M PV} (hr : SimU z r po) (ha : SimE z ta ma) : SimE z (tUn r ta) (mUn po ma) := by
  intro σ env G H n Qp Q ok fr er hm hq
  refine ha.bind ok fr er hm fun x px G1 H1 n1 ok1 fr1 er1 s1 r1 hm1 => ?_
  exact hr σ env G1 H1 n1 Qp Q x px ok1 fr1 er1 r1 hm1 (hq.step s1)
theorem sim_cb {r : List V → Hp → VK → Prop} {po : List PV → M PV} {ta : TA} {ma : PEnv → M (List PV)} (hr : SimC z r po) (ha : SimA z ta ma) : SimE z (tCB r ta) (mCB po ma) := by
  intro σ env G H n Qp Q ok fr er hm hq
  refine ha.bind ok fr er hm fun x px G1 H1 n1 ok1 fr1 er1 s1 r1 hm1 => ?_
  exact hr σ env G1 H1 n1 Qp Q x px ok1 fr1 er1 r1 hm1 (hq.step s1)
theorem sim_b {ta : TE} {ma : PEnv → M PV} (ha : SimE z ta ma) : SimT z (tB ta) (mB ma) := by
  intro σ env G H n Qp Q ok fr er hm hq
  refine ha.bind ok fr er hm fun x px G1 H1 n1 ok1 fr1 er1 s1 r1 hm1 => ?_
  cases r1 <;> first | exact hm1.elim | exact ⟨_, rfl, (hq.step s1).here ok1 rfl hm1⟩
theorem sim_test {ta : TE} {ma : PEnv → M PV} (ha : SimE z ta ma) : SimT z (tTest ta) (mB ma) := by
  intro σ env G H n Qp Q ok fr er hm hq
  refine ha.bind ok fr er hm fun x px G1 H1 n1 ok1 fr1 er1 s1 r1 hm1 => ?_
  cases r1 <;> first | exact hm1.elim | exact ⟨_, rfl, (hq.step s1).here ok1 rfl hm1⟩
theorem sim_and {t u : TT} {a b : PEnv → M Bool} (ha : SimT z t a) (hb : SimT z u b) : SimT z (tAnd t u) (mAnd a b) := by
  intro σ env G H n Qp Q ok fr er hm hq
  refine ha.bind ok fr er hm fun x px G1 H1 n1 ok1 fr1 er1 s1 r1 hm1 => ?_
  cases r1
  cases x with
  | true => exact hb.bind ok1 fr1 er1 hm1 fun y py G2 H2 n2 ok2 fr2 er2 s2 r2 hm2 => ((hq.step s1).step s2).here ok2 r2 hm2
  | false => exact (hq.step s1).here ok1 rfl hm1
theorem sim_or {t u : TT} {a b : PEnv → M Bool} (ha : SimT z t a) (hb : SimT z u b) : SimT z (tOr t u) (mOr a b) := by
  intro σ env G H n Qp Q ok fr er hm hq
  refine ha.bind ok fr er hm fun x px G1 H1 n1 ok1 fr1 er1 s1 r1 hm1 => ?_
  cases r1
  cases x with
  | false => exact hb.bind ok1 fr1 er1 hm1 fun y py G2 H2 n2 ok2 fr2 er2 s2 r2 hm2 => ((hq.step s1).step s2).here ok2 r2 hm2
  | true => exact (hq.step s1).here ok1 rfl hm1
theorem sim_not {t : TT} {a : PEnv → M Bool} (ha : SimT z t a) : SimT z (tNot t) (mNot a) := by
  intro σ env G H n Qp Q ok fr er hm hq
  refine ha.bind ok fr er hm fun x px G1 H1 n1 ok1 fr1 er1 s1 r1 hm1 => ?_
  cases r1
  exact (hq.step s1).here ok1 rfl hm1
theorem sim_andV {t u : TE} {a b : PEnv → M PV} (ha : SimE z t a) (hb : SimE z u b) : SimE z (tAndV t u) (mAndV a b) := by
  intro σ env G H n Qp Q ok fr er hm hq
  refine ha.bind ok fr er hm fun x px G1 H1 n1 ok1 fr1 er1 s1 r1 hm1 => ?_
  cases r1 <;> try exact hm1.elim
  rename_i c
  cases c with
  | true => exact ⟨_, rfl, hb.bind ok1 fr1 er1 hm1 fun y py G2 H2 n2 ok2 fr2 er2 s2 r2 hm2 => ((hq.step s1).step s2).here ok2 r2 hm2⟩
  | false => exact ⟨_, rfl, (hq.step s1).here ok1 (.bl _) hm1⟩
theorem sim_orV {t u : TE} {a b : PEnv → M PV} (ha : SimE z t a) (hb : SimE z u b) : SimE z (tOrV t u) (mOrV a b) := by
  intro σ env G H n Qp Q ok fr er hm hq
  refine ha.bind ok fr er hm fun x px G1 H1 n1 ok1 fr1 er1 s1 r1 hm1 => ?_
  cases r1 <;> try exact hm1.elim
  rename_i c
  cases c with
  | false => exact ⟨_, rfl, hb.bind ok1 fr1 er1 hm1 fun y py G2 H2 n2 ok2 fr2 er2 s2 r2 hm2 => ((hq.step s1).step s2).here ok2 r2 hm2⟩
  | true => exact ⟨_, rfl, (hq.step s1).here ok1 (.bl _) hm1⟩
theorem sim_notV {t : TE} {a : PEnv → M PV} (ha : SimE z t a) : SimE z (tNotV t) (mNotV a) := by
  intro σ env G H n Qp Q ok fr er hm hq
  refine ha.bind ok fr er hm fun x px G1 H1 n1 ok1 fr1 er1 s1 r1 hm1 => ?_
  cases r1 <;> try exact hm1.elim
  exact ⟨_, rfl, (hq.step s1).here ok1 (.bl _) hm1⟩
theorem sim_if {c : TT} {t u : TE} {k : PEnv → M Bool} {a b : PEnv → M PV} (hc : SimT z c k) (ha : SimE z t a) (hb : SimE z u b) : SimE z (tIf c t u) (mIf k a b) := by
  intro σ env G H n Qp Q ok fr er hm hq
  refine hc.bind ok fr er hm fun x px G1 H1 n1 ok1 fr1 er1 s1 r1 hm1 => ?_
  cases r1
  cases x with
  | true => exact ha.bind ok1 fr1 er1 hm1 fun y py G2 H2 n2 ok2 fr2 er2 s2 r2 hm2 => ((hq.step s1).step s2).here ok2 r2 hm2
  | false => exact hb.bind ok1 fr1 er1 hm1 fun y py G2 H2 n2 ok2 fr2 er2 s2 r2 hm2 => ((hq.step s1).step s2).here ok2 r2 hm2
theorem sim_chain {r r' : R2} {po po' : PV → PV → M PV} {ta tb tc : TE} {ma mb mc : PEnv → M PV} (hr : SimR z r po) (hr' : SimR z r' po') (ha : SimE z ta ma) (hb : SimE z tb mb) (hc : SimE z tc mc) : SimE z (tChain r r' ta tb tc) (mChain po po' ma mb mc) := by
  intro σ env G H n Qp Q ok fr er hm hq
  refine ha.bind ok fr er hm fun x px G1 H1 n1 ok1 fr1 er1 s1 r1 hm1 => ?_
  refine hb.bind ok1 fr1 er1 hm1 fun y py G2 H2 n2 ok2 fr2 er2 s2 r2 hm2 => ?_
  refine hr σ env G2 H2 n2 _ _ x y px py ok2 fr2 er2 (r1.mono s2.same) r2 hm2 fun k pk G3 H3 n3 ok3 s3 r3 hm3 => ?_
  cases r3 <;> try exact hm3.elim
  rename_i c
  cases c with
  | true =>
    refine ⟨_, rfl, ?_⟩
    refine hc.bind ok3 (fr2.stepP s3) (er2.step s3) hm3 fun w pw G4 H4 n4 ok4 fr4 er4 s4 r4 hm4 => ?_
    exact hr' σ env G4 H4 n4 Qp Q y w py pw ok4 fr4 er4 ((r2.mono s3.same).mono s4.same) r4 hm4 ((((hq.step s1).step s2).step s3).step s4)
  | false => exact ⟨_, rfl, (((hq.step s1).step s2).step s3).here ok3 (.bl _) hm3⟩
theorem sim_nil : SimA z tNil mNil := fun σ env G H n Qp Q ok fr er hm hq => hq.here ok .nil hm
theorem sim_cons {ta : TE} {tr : TA} {ma : PEnv → M PV} {mr : PEnv → M (List PV)} (ha : SimE z ta ma) (hr : SimA z tr mr) : SimA z (tCons ta tr) (mCons ma mr) := by
  intro σ env G H n Qp Q ok fr er hm hq
  refine ha.bind ok fr er hm fun x px G1 H1 n1 ok1 fr1 er1 s1 r1 hm1 => ?_
  refine hr.bind ok1 fr1 er1 hm1 fun y py G2 H2 n2 ok2 fr2 er2 s2 r2 hm2 => ?_
  exact ((hq.step s1).step s2).here ok2 (.cons (r1.mono s2.same) r2) hm2
theorem sim_tup {t : TA} {m : PEnv → M (List PV)} (h : SimA z t m) : SimE z (tTup t) (mTup m) := by
  intro σ env G H n Qp Q ok fr er hm hq
  refine h.bind ok fr er hm fun x px G1 H1 n1 ok1 fr1 er1 s1 r1 hm1 => ?_
  refine ⟨by rw [r1.len]; exact line_of hm1.1, fun q hq1 => ?_⟩
  obtain ⟨ok2, s2⟩ := ok1.new (o := .tup x) hq1
  exact ((hq.step s1).step s2).here ok2 (.tup (SqT.of upd_same) (r1.mono s2.same)) hm1.2
theorem sim_lst {t : TA} {m : PEnv → M (List PV)} (h : SimA z t m) : SimE z (tLst t) (mLst m) := by
  intro σ env G H n Qp Q ok fr er hm hq
  refine h.bind ok fr er hm fun x px G1 H1 n1 ok1 fr1 er1 s1 r1 hm1 => ?_
  refine ⟨by rw [r1.len]; exact line_of hm1.1, fun q hq1 => ?_⟩
  obtain ⟨ok2, s2⟩ := ok1.new (o := .lst x) hq1
  exact ((hq.step s1).step s2).here ok2 (.lst upd_same (r1.mono s2.same)) hm1.2
end
def Big (i : Int) : Prop := i.natAbs < 2 ^ 4000
def pI0 (g : Int → Int → PV) : PV → PV → M PV := fun x y _ n Q => match x, y with
  | .int i, .int j => Q (g i j) n
  | _, _ => False
def pI (C : Int → Int → Prop) (g : Int → Int → PV) : PV → PV → M PV := fun x y _ n Q => match x, y with
  | .int i, .int j => C i j ∧ Q (g i j) n
  | _, _ => False
def pAdd := pI0 fun i j => .int (i + j)
def pSub := pI0 fun i j => .int (i - j)
def pLt := pI0 fun i j => .bl (decide (i < j))
def pLe := pI0 fun i j => .bl (decide (i ≤ j))
def pGt := pI0 fun i j => .bl (decide (j < i))
def pGe := pI0 fun i j => .bl (decide (j ≤ i))
def pMul := pI (fun i j => Big i ∧ Big j) fun i j => .int (i * j)
def pDiv := pI (fun _ j => 0 < j ∧ Big j) fun i j => .int (i / j)
def pMod := pI (fun _ j => 0 < j) fun i j => .int (i % j)
def pPow := pI CPow fun i j => .int (i ^ j.toNat)
def pNeg : PV → M PV := fun x _ n Q => match x with
  | .int i => Q (.int (-i)) n
  | _ => False
def pEq : PV → PV → M PV := fun x y _ n Q => match x, y with
  | .int i, .int j => Q (.bl (decide (i = j))) n
  | .str i, .str j => Q (.bl (decide (i = j))) n
  | .bl i, .bl j => Q (.bl (decide (i = j))) n
  | _, _ => False
def pNe : PV → PV → M PV := fun x y _ n Q => match x, y with
  | .int i, .int j => Q (.bl (!decide (i = j))) n
  | .str i, .str j => Q (.bl (!decide (i = j))) n
  | .bl i, .bl j => Q (.bl (!decide (i = j))) n
  | _, _ => False
def PV.isNon : PV → Option Bool
  | .non => some true
  | .ext _ => none
  | _ => some false
def pIsN : PV → PV → M PV := fun x y _ n Q => match y, x.isNon with
  | .non, some b => Q (.bl b) n
  | _, _ => False
def pNotN : PV → PV → M PV := fun x y _ n Q => match y, x.isNon with
  | .non, some b => Q (.bl (!b)) n
  | _, _ => False
section
variable {z : Z}
theorem simR_I0 {g : Int → Int → V} {g' : Int → Int → PV} (h : ∀ G i j, z.rep G (g i j) (g' i j)) : SimR z (rI0 g) (pI0 g') := by
  intro σ env G H n Qp Q x y px py ok fr er rx ry hm hq
  cases rx <;> try exact hm.elim
  cases ry <;> try exact hm.elim
  exact ⟨_, _, rfl, rfl, hq.here ok (h G _ _) hm⟩
theorem simR_I {C C' : Int → Int → Prop} {g : Int → Int → V} {g' : Int → Int → PV} (hc : ∀ i j, C' i j → C i j) (h : ∀ G i j, z.rep G (g i j) (g' i j)) : SimR z (rI C g) (pI C' g') := by
  intro σ env G H n Qp Q x y px py ok fr er rx ry hm hq
  cases rx <;> try exact hm.elim
  cases ry <;> try exact hm.elim
  exact ⟨_, _, rfl, rfl, hc _ _ hm.1, hq.here ok (h G _ _) hm.2⟩
theorem simR_add : SimR z (rI0 fun i j => .int (i + j)) pAdd := simR_I0 fun _ _ _ => .int _
theorem simR_sub : SimR z (rI0 fun i j => .int (i - j)) pSub := simR_I0 fun _ _ _ => .int _
theorem simR_lt : SimR z (rI0 fun i j => .bl (decide (i < j))) pLt := simR_I0 fun _ _ _ => .bl _
theorem simR_le : SimR z (rI0 fun i j => .bl (decide (i ≤ j))) pLe := simR_I0 fun _ _ _ => .bl _
theorem simR_gt : SimR z (rI0 fun i j => .bl (decide (j < i))) pGt := simR_I0 fun _ _ _ => .bl _
theorem simR_ge : SimR z (rI0 fun i j => .bl (decide (j ≤ i))) pGe := simR_I0 fun _ _ _ => .bl _
theorem simR_mul : SimR z (rI CMulW fun i j => .int (i * j)) pMul := simR_I (fun _ _ h => wide_mul h.1 h.2 (by decide) (by decide) (by decide)) fun _ _ _ => .int _
theorem simR_div : SimR z (rI CDivW fun i j => .int (i / j)) pDiv := simR_I (fun _ _ h => wide_div h.1 h.2 (by decide) (by decide)) fun _ _ _ => .int _
theorem simR_mod : SimR z (rI (fun _ j => 0 < j) fun i j => .int (i % j)) pMod := simR_I (fun _ _ h => h) fun _ _ _ => .int _
theorem simR_pow : SimR z (rI CPow fun i j => .int (i ^ j.toNat)) pPow := simR_I (fun _ _ h => h) fun _ _ _ => .int _
theorem simU_neg : SimU z (rU fun i => .int (-i)) pNeg := by
  intro σ env G H n Qp Q x px ok fr er rx hm hq
  cases rx <;> try exact hm.elim
  exact ⟨_, rfl, hq.here ok (.int _) hm⟩
theorem simR_eq : SimR z rEq pEq := by
  intro σ env G H n Qp Q x y px py ok fr er rx ry hm hq
  cases rx <;> try exact hm.elim
  all_goals cases ry <;> try exact hm.elim
  all_goals refine ⟨rfl, hq.here ok (.bl _) ?_⟩
  all_goals rename_i a b
  all_goals refine Eq.mp (congrArg (fun w => Qp (.bl w) n) (decide_eq_decide.mpr ?_)) hm
  all_goals simp
theorem simR_ne : SimR z rNe pNe := by
  intro σ env G H n Qp Q x y px py ok fr er rx ry hm hq
  cases rx <;> try exact hm.elim
  all_goals cases ry <;> try exact hm.elim
  all_goals refine ⟨rfl, hq.here ok (.bl _) ?_⟩
  all_goals rename_i a b
  all_goals refine Eq.mp (congrArg (fun w => Qp (.bl (!w)) n) (decide_eq_decide.mpr ?_)) hm
  all_goals simp
theorem isNon_of {G : Hp} {x : V} {px : PV} {b : Bool} (r : z.rep G x px) (h : px.isNon = some b) : decide (x = V.non) = b := by
  cases r <;> simp [PV.isNon] at h <;> subst h <;> simp
theorem simR_isN : SimR z (fun x y H Q => y = .non ∧ Q (.bl (decide (x = .non))) H) pIsN := by
  intro σ env G H n Qp Q x y px py ok fr er rx ry hm hq
  unfold pIsN at hm
  split at hm
  · rename_i b hb
    cases ry
    exact ⟨rfl, hq.here ok (.bl _) (by rw [isNon_of rx hb]; exact hm)⟩
  · exact hm.elim
theorem simR_notN : SimR z (fun x y H Q => y = .non ∧ Q (.bl (!decide (x = .non))) H) pNotN := by
  intro σ env G H n Qp Q x y px py ok fr er rx ry hm hq
  unfold pNotN at hm
  split at hm
  · rename_i b hb
    cases ry
    exact ⟨rfl, hq.here ok (.bl _) (by rw [isNon_of rx hb]; exact hm)⟩
  · exact hm.elim
theorem sim_fld {ta : TE} {f : Str} {ma : PEnv → M PV} (hk : ∀ c C, z.cm c = some C → Cls z.K C ∧ NoAttr z.K C f) (ha : SimE z ta ma) : SimE z (tFld z.K ta f) (mFld f ma) := by
  intro σ env G H n Qp Q ok fr er hm hq
  refine ha.bind ok fr er hm fun x px G1 H1 n1 ok1 fr1 er1 s1 r1 hm1 => ?_
  cases r1 <;> try exact hm1.elim
  rename_i a C dx c vs ps hc hg rf
  simp only at hm1
  rcases rf.look (f := f) with ⟨e, _⟩ | ⟨x, y, e1, e2, ry⟩
  · rw [e] at hm1
    exact hm1.elim
  · rw [e1] at hm1
    obtain ⟨k1, k2⟩ := hk c C hc
    exact ⟨a, C, dx, vs, y, rfl, ok1.sub _ _ hg, k1, k2, e2, (hq.step s1).here ok1 ry hm1⟩
theorem sim_fldO {f : Str} {i : Nat} (hk : ∀ c C, z.cm c = some C → Cls z.K C ∧ NoAttr z.K C f) : SimE z (tFld z.K (tVar i) f) (mFldO f i) := by
  intro σ env G H n Qp Q ok fr er hm hq
  unfold mFldO at hm
  split at hm
  · rename_i c fs he
    obtain ⟨x, hx, a, C, dx, vs, rfl, hc, hh, mine, rf, me⟩ := er.at_ i _ he
    rcases rf.look (f := f) with ⟨e, _⟩ | ⟨x, y, e1, e2, ry⟩
    · rw [e] at hm
      exact hm.elim
    · rw [e1] at hm
      obtain ⟨k1, k2⟩ := hk c C hc
      exact ⟨_, hx, a, C, dx, vs, y, rfl, hh, k1, k2, e2, hq.here ok ry hm⟩
  · exact hm.elim
end
end Pu
namespace Pu
open PySem L2
structure EndsRel (z : Z) (G : Hp) (D : Ends) (Dp : EndsP) : Prop where
  nx : ∀ σ env G' H' n', Same G G' → Ok z.K z.cm z.p z.c G' H' n' → Fr z G' H' → EnvRel z G' H' σ env → Dp.nx env n' → D.nx σ H'
  rt : ∀ v q G' H' n', Same G G' → Ok z.K z.cm z.p z.c G' H' n' → Fr z G' H' → z.rep G' v q → Dp.rt q n' → D.rt v H'
  bk : ∀ σ env G' H' n', Same G G' → Ok z.K z.cm z.p z.c G' H' n' → Fr z G' H' → EnvRel z G' H' σ env → Dp.bk env n' → D.bk σ H'
  ct : ∀ σ env G' H' n', Same G G' → Ok z.K z.cm z.p z.c G' H' n' → Fr z G' H' → EnvRel z G' H' σ env → Dp.ct env n' → D.ct σ H'
def SimS (z : Z) (t : TS) (m : MS) : Prop := ∀ (σ : L2.St) (env : PEnv) (G H : Hp) (n : SN) (D : Ends) (Dp : EndsP), Ok z.K z.cm z.p z.c G H n → Fr z G H → EnvRel z G H σ env → m z.W Dp env n → EndsRel z G D Dp → t D σ H
def SimG (z : Z) (g : TG) (mg : PV → PEnv → (PEnv → Prop) → Prop) : Prop := ∀ (σ : L2.St) (env : PEnv) (G H : Hp) (n : SN) (v : V) (q : PV) (Q : L2.St → Hp → Prop) (Qp : PEnv → Prop),
  Ok z.K z.cm z.p z.c G H n → EnvRel z G H σ env → z.rep G v q → mg q env Qp → (∀ σ' env', EnvRel z G H σ' env' → Qp env' → Q σ' H) → g v σ H Q
def SimGs (z : Z) (g : TGs) (mg : List PV → PEnv → (PEnv → Prop) → Prop) : Prop := ∀ (σ : L2.St) (env : PEnv) (G H : Hp) (n : SN) (v : List V) (q : List PV) (Q : L2.St → Hp → Prop) (Qp : PEnv → Prop),
  Ok z.K z.cm z.p z.c G H n → EnvRel z G H σ env → z.repL G v q → mg q env Qp → (∀ σ' env', EnvRel z G H σ' env' → Qp env' → Q σ' H) → g v σ H Q
theorem EndsRel.mono {z : Z} {G G1 : Hp} {D : Ends} {Dp : EndsP} (h : EndsRel z G D Dp) (s : Same G G1) : EndsRel z G1 D Dp :=
  ⟨fun a b c d e f => h.nx a b c d e (s.trans f), fun a b c d e f => h.rt a b c d e (s.trans f), fun a b c d e f => h.bk a b c d e (s.trans f), fun a b c d e f => h.ct a b c d e (s.trans f)⟩
section
variable {z : Z} {G H : Hp} {σ : L2.St} {env : PEnv}
theorem get_set {α : Type} {l : List α} {i j : Nat} {a x : α} (h : (l.set i a)[j]? = some x) : (j = i ∧ x = a ∧ i < l.length) ∨ (j ≠ i ∧ l[j]? = some x) := by
  by_cases e : i = j
  · subst e
    rw [List.getElem?_set] at h
    simp only [if_true] at h
    split at h
    · exact .inl ⟨rfl, (Option.some.inj h).symm, by assumption⟩
    · cases h
  · rw [List.getElem?_set_ne e] at h
    exact .inr ⟨fun q => e q.symm, h⟩
theorem EnvRel.set {i : Nat} {x : Option V} {s : Slot} (e : EnvRel z G H σ env) (h : SlotRel z G H x s) (hd : s.isOwn = true → ∀ (j : Nat) (s' : Slot) (a : Addr), j ≠ i → env[j]? = some s' → s'.isOwn = true → σ[j]? = some (some (.ref a)) → x = some (.ref a) → False) : EnvRel z G H (σ.set i x) (env.set i s) := by
  refine ⟨fun j u hj => ?_, fun j k u u' a njk hj hk ou ou' aj ak => ?_, by rw [List.length_set, List.length_set, e.len]⟩
  · rcases get_set hj with ⟨rfl, rfl, hl⟩ | ⟨ne, hj2⟩
    · exact ⟨x, by rw [List.getElem?_set_self (by rw [e.len]; exact hl)], h⟩
    · obtain ⟨y, hy, r⟩ := e.at_ j u hj2
      exact ⟨y, by rw [List.getElem?_set_ne (Ne.symm ne)]; exact hy, r⟩
  · rcases get_set hj with ⟨ej, eu, hl⟩ | ⟨ne, hj2⟩
    · rcases get_set hk with ⟨ek, _, _⟩ | ⟨ne2, hk2⟩
      · exact njk (ej.trans ek.symm)
      · subst ej eu
        rw [List.getElem?_set_self (by rw [e.len]; exact hl)] at aj
        rw [List.getElem?_set_ne (Ne.symm ne2)] at ak
        exact hd ou k u' a ne2 hk2 ou' ak (Option.some.inj aj)
    · rcases get_set hk with ⟨ek, eu, hl⟩ | ⟨ne2, hk2⟩
      · subst ek eu
        rw [List.getElem?_set_self (by rw [e.len]; exact hl)] at ak
        rw [List.getElem?_set_ne (Ne.symm ne)] at aj
        exact hd ou' j u a ne hj2 ou aj (Option.some.inj ak)
      · rw [List.getElem?_set_ne (Ne.symm ne)] at aj
        rw [List.getElem?_set_ne (Ne.symm ne2)] at ak
        exact e.df j k u u' a njk hj2 hk2 ou ou' aj ak
theorem EnvRel.setV {i : Nat} {v : V} {q : PV} (e : EnvRel z G H σ env) (h : z.rep G v q) : EnvRel z G H (σ.set i (some v)) (env.set i (.val q)) := e.set ⟨v, rfl, h⟩ fun z => by cases z
theorem EnvRel.wipe1 {i : Nat} {x : Option V} (e : EnvRel z G H σ env) : EnvRel z G H (σ.set i x) (env.set i .no) := e.set trivial fun z => by cases z
theorem EnvRel.store {i : Nat} {a : Addr} {s s' : Slot} {o : HO} (e : EnvRel z G H σ env) (hs : σ[i]? = some (some (.ref a))) (he : env[i]? = some s) (os : s.isOwn = true) (os' : s'.isOwn = true) (_m : Mine z G a)
    (h : SlotRel z G (upd H a o) (some (.ref a)) s') : EnvRel z G (upd H a o) σ (env.set i s') := by
  refine ⟨fun j u hj => ?_, fun j k u u' b njk hj hk ou ou' aj ak => ?_, by rw [List.length_set, e.len]⟩
  · rcases get_set hj with ⟨rfl, rfl, hl⟩ | ⟨ne, hj⟩
    · exact ⟨_, hs, h⟩
    · obtain ⟨y, hy, r⟩ := e.at_ j u hj
      refine ⟨y, hy, ?_⟩
      have na : ∀ b, u.isOwn = true → y = some (.ref b) → b ≠ a := fun b ou yb q => by
        subst q
        exact e.df j i u s b ne hj he ou os (by rw [hy, yb]) hs
      cases u with
      | no => trivial
      | val q => exact r
      | own ps =>
        obtain ⟨b, vs, rfl, hb, mb, h0, rb⟩ := r
        exact ⟨b, vs, rfl, Ev.get_ne (na b rfl rfl) hb, mb, h0, rb⟩
      | odc ps =>
        obtain ⟨b, vs, rfl, hb, mb, h0, rb⟩ := r
        exact ⟨b, vs, rfl, Ev.get_ne (na b rfl rfl) hb, mb, h0, rb⟩
      | obj c fs =>
        obtain ⟨b, C, dx, vs, rfl, hc, hb, mb, rb, me⟩ := r
        exact ⟨b, C, dx, vs, rfl, hc, Ev.get_ne (na b rfl rfl) hb, mb, rb, me⟩
  · have key : ∀ {j : Nat} {u : Slot}, (env.set i s')[j]? = some u → u.isOwn = true → ∃ w : Slot, env[j]? = some w ∧ w.isOwn = true := fun {j u} hj ou => by
      rcases get_set hj with ⟨rfl, rfl, hl⟩ | ⟨ne, hj⟩
      · exact ⟨s, he, os⟩
      · exact ⟨u, hj, ou⟩
    obtain ⟨w, hw, ow⟩ := key hj ou
    obtain ⟨w', hw', ow'⟩ := key hk ou'
    exact e.df j k w w' b njk hw hw' ow ow' aj ak
end
theorem repF_put {K : PySem.W.Frag} {cm : Md} {p : Addr} {G : Hp} {f : Str} {v : V} {q : PV} (r : Rep K cm p G v q) : ∀ {vs : List (Str × V)} {ps : List (Str × PV)}, RepF K cm p G vs ps → RepF K cm p G (putF f v vs) (pputF f q ps)
  | _, _, .nil => .cons r .nil
  | _, _, .cons (f := g) h t => by
    unfold putF pputF
    split
    · exact .cons r t
    · exact .cons h (repF_put r t)
def mSeq (a b : MS) : MS := fun W D env n => a W { D with nx := b W D } env n
def mNext : MS := fun _ D env n => D.nx env n
def mBreak : MS := fun _ D env n => D.bk env n
def mCont : MS := fun _ D env n => D.ct env n
def mNever : MS := fun _ _ _ _ => False
def mDrop (a : PEnv → M PV) : MS := fun W D env n => a env (W env) n fun _ n1 => D.nx env n1
def mRet (a : PEnv → M PV) : MS := fun W D env n => a env (W env) n D.rt
def mRetN : MS := fun _ D _ n => D.rt .non n
def mIfS (c : PEnv → M Bool) (a b : MS) : MS := fun W D env n => c env (W env) n fun k n1 => if k = true then a W D env n1 else b W D env n1
def mAsg (a : PEnv → M PV) (g : PV → PEnv → (PEnv → Prop) → Prop) : MS := fun W D env n => a env (W env) n fun x n1 => g x env fun env' => D.nx env' n1
def mgN (i : Nat) : PV → PEnv → (PEnv → Prop) → Prop := fun x env Q => Q (env.set i (.val x))
def mgNil : List PV → PEnv → (PEnv → Prop) → Prop := fun xs env Q => match xs with
  | [] => Q env
  | _ => False
def mgCons (g : PV → PEnv → (PEnv → Prop) → Prop) (r : List PV → PEnv → (PEnv → Prop) → Prop) : List PV → PEnv → (PEnv → Prop) → Prop := fun xs env Q => match xs with
  | x :: xs => g x env fun env' => r xs env' Q
  | _ => False
def mgT (k : Nat) (r : List PV → PEnv → (PEnv → Prop) → Prop) : PV → PEnv → (PEnv → Prop) → Prop := fun x env Q => match x with
  | .tup xs => xs.length = k ∧ r xs env Q
  | _ => False
def mSetOwn (i : Nat) (r : PEnv → M (List PV)) : MS := fun W D env n => r env (W env) n fun xs n1 => xs.length ≤ 1000000 ∧ D.nx (env.set i (.own xs)) n1
def mPar (i j : Nat) (r : PEnv → M (List PV)) : MS := fun W D env n => r env (W env) n fun xs n1 => match xs with
  | [x, y] => D.nx ((env.set i (.val x)).set j (.val y)) n1
  | _ => False
def mPar3 (i j l : Nat) (r : PEnv → M (List PV)) : MS := fun W D env n => r env (W env) n fun xs n1 => match xs with
  | [x, y, w] => D.nx (((env.set i (.val x)).set j (.val y)).set l (.val w)) n1
  | _ => False
def mAug (i : Nat) (a : PEnv → M PV) (po : PV → PV → M PV) : MS := fun W D env n => match env[i]? with
  | some (.val x) => a env (W env) n fun y n1 => po x y (W env) n1 fun w n2 => D.nx (env.set i (.val w)) n2
  | _ => False
def mStore (i : Nat) (f : Str) (a : PEnv → M PV) : MS := fun W D env n => a env (W env) n fun y n1 => match env[i]? with
  | some (.obj c fs) => fs.length < 1000 ∧ D.nx (env.set i (.obj c (pputF f y fs))) n1
  | _ => False
def mApp (i : Nat) (a : PEnv → M PV) : MS := fun W D env n => match env[i]? with
  | some (.own xs) => a env (W env) n fun y n1 => xs.length < 1000000 ∧ D.nx (env.set i (.own (xs ++ [y]))) n1
  | _ => False
def mFreeze (i : Nat) (a : MS) : MS := fun W D env n => match env[i]? with
  | some (.own xs) => a W D (env.set i (.val (.lst xs))) n
  | _ => a W D env n
def forL (f : PV → MS) : List PV → MS
  | [], _, D, env, n => D.nx env n
  | x :: xs, W, D, env, n => f x W { D with nx := fun env' n' => forL f xs W D env' n', ct := fun env' n' => forL f xs W D env' n', bk := D.nx } env n
def mFor (it : PEnv → M (List PV)) (g : PV → PEnv → (PEnv → Prop) → Prop) (b : MS) : MS := fun W D env n => it env (W env) n fun xs n1 => forL (fun x W D env n => g x env fun env' => b W D env' n) xs W D env n1
def whN (c : PEnv → M Bool) (b : MS) : Nat → MS
  | 0, _, _, _, _ => False
  | k + 1, W, D, env, n => c env (W env) n fun v n1 => if v = true then b W { D with nx := fun env' n' => whN c b k W D env' n', ct := fun env' n' => whN c b k W D env' n', bk := D.nx } env n1 else D.nx env n1
def mWhile (c : PEnv → M Bool) (b : MS) : MS := fun W D env n => ∃ k, whN c b k W D env n
def wipeP (env : PEnv) : List Nat → PEnv
  | [] => env
  | v :: vs => (wipeP env vs).set v .no
def lcL (g : PV → PEnv → (PEnv → Prop) → Prop) (t : PEnv → M Bool) (e : PEnv → M PV) (env : PEnv) : List PV → SN → (List PV → SN → Prop) → Prop
  | [], n, Q => Q [] n
  | x :: xs, n, Q => g x env fun env2 => t env2 W0 n fun b n1 => if b = true then e env2 W0 n1 fun y n2 => lcL g t e env xs n2 fun ys n3 => Q (y :: ys) n3 else lcL g t e env xs n1 Q
def mLc (it : PEnv → M (List PV)) (g : PV → PEnv → (PEnv → Prop) → Prop) (t : PEnv → M Bool) (e : PEnv → M PV) (vs : List Nat) : PEnv → M PV := fun env W n Q =>
  it env W n fun xs n1 => xs.length ≤ 1000000 ∧ lcL g t e (wipeP env vs) xs n1 fun ys n2 => Q (.lst ys) n2
def mYes : PEnv → M Bool := fun _ _ n Q => Q true n
section
variable {z : Z} {t u : TS} {a b : MS}
theorem sim_seq (ha : SimS z t a) (hb : SimS z u b) : SimS z (tSeq t u) (mSeq a b) := fun σ env G H n D Dp ok fr er hm ed =>
  ha σ env G H n _ _ ok fr er hm ⟨fun σ' env' G' H' n' s ok' fr' er' h => hb σ' env' G' H' n' D Dp ok' fr' er' h (ed.mono s), ed.rt, ed.bk, ed.ct⟩
theorem sim_next : SimS z tNext mNext := fun σ env G H n D Dp ok fr er hm ed => ed.nx σ env G H n (Same.refl _) ok fr er hm
theorem sim_break : SimS z tBreak mBreak := fun σ env G H n D Dp ok fr er hm ed => ed.bk σ env G H n (Same.refl _) ok fr er hm
theorem sim_cont : SimS z tCont mCont := fun σ env G H n D Dp ok fr er hm ed => ed.ct σ env G H n (Same.refl _) ok fr er hm
theorem sim_never : SimS z tNever mNever := fun σ env G H n D Dp ok fr er hm ed => hm.elim
theorem sim_drop {te : TE} {m : PEnv → M PV} (h : SimE z te m) : SimS z (tDrop te) (mDrop m) := fun σ env G H n D Dp ok fr er hm ed =>
  h.bind ok fr er hm fun v q G' H' n' ok' fr' er' s' r hq => ed.nx σ env G' H' n' s'.same ok' fr' er' hq
theorem sim_ret {te : TE} {m : PEnv → M PV} (h : SimE z te m) : SimS z (tRet te) (mRet m) := fun σ env G H n D Dp ok fr er hm ed =>
  h.bind ok fr er hm fun v q G' H' n' ok' fr' er' s' r hq => ed.rt v q G' H' n' s'.same ok' fr' r hq
theorem sim_retN : SimS z tRetN mRetN := fun σ env G H n D Dp ok fr er hm ed => ed.rt _ _ G H n (Same.refl _) ok fr .non hm
theorem sim_ifS {c : TT} {k : PEnv → M Bool} (hc : SimT z c k) (ha : SimS z t a) (hb : SimS z u b) : SimS z (tIfS c t u) (mIfS k a b) := by
  intro σ env G H n D Dp ok fr er hm ed
  refine hc.bind ok fr er hm fun v q G' H' n' ok' fr' er' s' r hq => ?_
  cases r
  cases v with
  | true => exact ha σ env G' H' n' D Dp ok' fr' er' hq (ed.mono s'.same)
  | false => exact hb σ env G' H' n' D Dp ok' fr' er' hq (ed.mono s'.same)
theorem sim_gN {i : Nat} : SimG z (gName i) (mgN i) := fun σ env G H n v q Q Qp ok er r hm hq => hq _ _ (er.setV r) hm
theorem sim_gNil : SimGs z gNil mgNil := by
  intro σ env G H n v q Q Qp ok er r hm hq
  cases r with
  | nil => exact ⟨rfl, hq _ _ er hm⟩
  | cons _ _ => exact hm.elim
theorem sim_gCons {g : TG} {gs : TGs} {mg : PV → PEnv → (PEnv → Prop) → Prop} {mgs : List PV → PEnv → (PEnv → Prop) → Prop} (h : SimG z g mg) (hs : SimGs z gs mgs) : SimGs z (gCons g gs) (mgCons mg mgs) := by
  intro σ env G H n v q Q Qp ok er r hm hq
  cases r with
  | nil => exact hm.elim
  | cons r rs => exact ⟨_, _, rfl, h σ env G H n _ _ _ _ ok er r hm fun σ' env' er' h' => hs σ' env' G H n _ _ Q Qp ok er' rs h' hq⟩
theorem sim_gT {k : Nat} {gs : TGs} {mgs : List PV → PEnv → (PEnv → Prop) → Prop} (hs : SimGs z gs mgs) : SimG z (gTup z.K k gs) (mgT k mgs) := by
  intro σ env G H n v q Q Qp ok er r hm hq
  cases r <;> try exact hm.elim
  rename_i ad vs ps hsq rl
  exact ⟨ad, vs, rfl, Ev.Same.seqT ok.sub hsq, rl.len.trans hm.1, hs σ env G H n _ _ Q Qp ok er rl hm.2 hq⟩
theorem sim_asg {te : TE} {m : PEnv → M PV} {g : TG} {mg : PV → PEnv → (PEnv → Prop) → Prop} (h : SimE z te m) (hg : SimG z g mg) : SimS z (tAsg te g) (mAsg m mg) := fun σ env G H n D Dp ok fr er hm ed =>
  h.bind ok fr er hm fun v q G' H' n' ok' fr' er' s' r hq => hg σ env G' H' n' v q _ _ ok' er' r hq fun σ' env' e' h' => ed.nx σ' env' G' H' n' s'.same ok' fr' e' h'
theorem sim_setOwn {i : Nat} {ta : TA} {m : PEnv → M (List PV)} (h : SimA z ta m) : SimS z (tAsg (tLst ta) (gName i)) (mSetOwn i m) := by
  intro σ env G H n D Dp ok fr er hm ed
  refine h.bind ok fr er hm fun xs ps G1 H1 n1 ok1 fr1 er1 s1 r1 hm1 => ?_
  refine ⟨by rw [r1.len]; exact line_of hm1.1, fun q hq1 => ?_⟩
  obtain ⟨ok2, s2⟩ := ok1.newO (o := .lst xs) hq1
  have mine := ok1.mine fr1 hq1
  refine ed.nx _ _ G1 _ n1 s1.same ok2 (fr1.stepP s2) ?_ hm1.2
  refine (er1.step s2).set ⟨q, xs, rfl, upd_same, mine, fr1.h0 hq1, r1⟩ fun _ j s' b nj hj os' hb eb => ?_
  cases Option.some.inj eb
  obtain ⟨x, hx, rx⟩ := er1.at_ j s' hj
  rw [hx] at hb
  cases Option.some.inj hb
  cases s' with
  | no => cases os'
  | val _ => cases os'
  | own ps =>
    obtain ⟨b, vs, e, hb, _⟩ := rx
    cases e
    rw [hq1] at hb
    cases hb
  | odc ps =>
    obtain ⟨b, vs, e, hb, _⟩ := rx
    cases e
    rw [hq1] at hb
    cases hb
  | obj c fs =>
    obtain ⟨b, C, dx, vs, e, _, hb, _⟩ := rx
    cases e
    rw [hq1] at hb
    cases hb
theorem sim_par {i j : Nat} {ta : TA} {m : PEnv → M (List PV)} (h : SimA z ta m) : SimS z (tPar i j ta) (mPar i j m) := by
  intro σ env G H n D Dp ok fr er hm ed
  refine h.bind ok fr er hm fun xs ps G1 H1 n1 ok1 fr1 er1 s1 r1 hm1 => ?_
  match ps, r1, hm1 with
  | [x, y], .cons rx (.cons ry .nil), hm1 => exact ⟨_, _, rfl, ed.nx _ _ G1 H1 n1 s1.same ok1 fr1 ((er1.setV rx).setV ry) hm1⟩
theorem sim_par3 {i j l : Nat} {ta : TA} {m : PEnv → M (List PV)} (h : SimA z ta m) : SimS z (tPar3 i j l ta) (mPar3 i j l m) := by
  intro σ env G H n D Dp ok fr er hm ed
  refine h.bind ok fr er hm fun xs ps G1 H1 n1 ok1 fr1 er1 s1 r1 hm1 => ?_
  match ps, r1, hm1 with
  | [x, y, w], .cons rx (.cons ry (.cons rw .nil)), hm1 => exact ⟨_, _, _, rfl, ed.nx _ _ G1 H1 n1 s1.same ok1 fr1 (((er1.setV rx).setV ry).setV rw) hm1⟩
theorem sim_aug {i : Nat} {te : TE} {m : PEnv → M PV} {ti : TIp} {po : PV → PV → M PV} (h : SimE z te m) (hr : SimR z ti po) : SimS z (tAug i te ti) (mAug i m po) := by
  intro σ env G H n D Dp ok fr er hm ed
  unfold mAug at hm
  split at hm
  · rename_i x he
    obtain ⟨_, hx, v, rfl, r⟩ := er.at_ i _ he
    refine ⟨v, hx, ?_⟩
    refine h.bind ok fr er hm fun y py G1 H1 n1 ok1 fr1 er1 s1 r1 hm1 => ?_
    refine hr σ env G1 H1 n1 _ _ v y x py ok1 fr1 er1 (r.mono s1.same) r1 hm1 fun w q G2 H2 n2 ok2 s2 r2 hq2 => ?_
    exact ed.nx _ _ G2 H2 n2 (s1.same.trans s2.same) ok2 (fr1.stepP s2) ((er1.step s2).setV r2) hq2
  · exact hm.elim
theorem sim_store {i : Nat} {f : Str} {tv : TE} {m : PEnv → M PV} (hk : ∀ c C, z.cm c = some C → Cls z.K C ∧ NoAttr z.K C f) (h : SimE z tv m) : SimS z (sFld z.K (tVar i) tv f) (mStore i f m) := by
  intro σ env G H n D Dp ok fr er hm ed
  refine h.bind ok fr er hm fun y py G1 H1 n1 ok1 fr1 er1 s1 r1 hm1 => ?_
  split at hm1
  · rename_i c fs he
    obtain ⟨_, hx, a, C, dx, vs, rfl, hc, hh, mine, rf, me⟩ := er1.at_ i _ he
    obtain ⟨k1, k2⟩ := hk c C hc
    refine ⟨_, hx, a, C, dx, vs, rfl, hh, k1, k2, by rw [rf.len]; exact hm1.1, ?_⟩
    refine ed.nx _ _ G1 _ n1 s1.same (ok1.set mine hh) (fr1.set mine) ?_ hm1.2
    exact er1.store hx he rfl rfl mine ⟨a, C, dx, _, rfl, hc, upd_same, mine, repF_put r1 rf, me⟩
  · exact hm1.elim
theorem sim_app {i : Nat} {ta : TE} {m : PEnv → M PV} (h : SimE z ta m) : SimS z (tDrop (tBM z.K "list" rAppend (tVar i) (tCons ta tNil))) (mApp i m) := by
  intro σ env G H n D Dp ok fr er hm ed
  unfold mApp at hm
  split at hm
  · rename_i ps he
    obtain ⟨_, hx, a, vs, rfl, hh, mine, h0, rl⟩ := er.at_ i _ he
    refine ⟨_, hx, .inl ⟨rfl, _, SqL.of hh⟩, ?_⟩
    refine h.bind ok fr er hm fun y py G1 H1 n1 ok1 fr1 er1 s1 r1 hm1 => ?_
    obtain ⟨_, hx1, a1, vs1, e1, hh1, mine1, h01, rl1⟩ := er1.at_ i _ he
    rw [hx] at hx1
    cases Option.some.inj hx1
    cases e1
    refine ⟨a, vs1, y, rfl, rfl, hh1, by rw [rl1.len, sizeLine_eq]; have := hm1.1; omega, ?_⟩
    refine ed.nx _ _ G1 _ n1 s1.same (ok1.set mine1 hh1) (fr1.set mine1) ?_ hm1.2
    exact er1.store hx he rfl rfl mine1 ⟨a, _, rfl, upd_same, mine1, h01, rl1.append (.cons r1 .nil)⟩
  · exact hm.elim
theorem EnvRel.freeze {G H : Hp} {σ : L2.St} {env : PEnv} {n : SN} {i : Nat} {ps : List PV} (ok : Ok z.K z.cm z.p z.c G H n) (fr : Fr z G H) (er : EnvRel z G H σ env) (he : env[i]? = some (.own ps)) :
    ∃ G', Same G G' ∧ Ok z.K z.cm z.p z.c G' H n ∧ Fr z G' H ∧ EnvRel z G' H σ (env.set i (.val (.lst ps))) := by
  obtain ⟨x, hx, a, vs, rfl, hh, mine, h0, rl⟩ := er.at_ i _ he
  have sg : Same G (upd G a (.lst vs)) := fun b o e => Ev.get_new e mine.g
  refine ⟨upd G a (.lst vs), sg, ⟨fun b o e => ?_, ok.pen, (upd_ne mine.p.symm).trans ok.gp, gc_upd mine.c.symm ok.gc, ok.tb, gt_upd ok.gt nt0_lst, ok.mu.frz hh nt_lst mine.g, ok.lk⟩, ⟨⟨fr.st.same.trans sg, fr.st.keep, fun b o e nb => ?_, fr.st.al⟩, fr.mp, fr.sx.trans sg, fr.lk⟩, ?_⟩
  · by_cases q : b = a
    · subst q
      rw [upd_same] at e
      rw [← e]
      exact hh
    · rw [upd_ne q] at e
      exact ok.sub _ _ e
  · by_cases q : b = a
    · subst q
      exact (h0 nb).elim
    · rw [upd_ne q] at e
      exact fr.st.new b o e nb
  · refine ⟨fun j u hj => ?_, fun j k u u' b njk hj hk ou ou' aj ak => ?_, by rw [List.length_set, er.len]⟩
    · rcases get_set hj with ⟨rfl, rfl, hl⟩ | ⟨ne, hj2⟩
      · exact ⟨_, hx, _, rfl, .lst upd_same (rl.mono sg)⟩
      · obtain ⟨y, hy, r⟩ := er.at_ j u hj2
        refine ⟨y, hy, ?_⟩
        have na : ∀ b, u.isOwn = true → y = some (.ref b) → b ≠ a := fun b ou yb q => by
          subst q
          exact er.df j i u _ b ne hj2 he ou rfl (by rw [hy, yb]) hx
        cases u with
        | no => trivial
        | val q => exact let ⟨v, e, r⟩ := r; ⟨v, e, r.mono sg⟩
        | own qs =>
          obtain ⟨b, ws, rfl, hb, mb, hb0, rb⟩ := r
          exact ⟨b, ws, rfl, hb, ⟨(upd_ne (na b rfl rfl)).trans mb.g, mb.p, mb.c, mb.h⟩, hb0, rb.mono sg⟩
        | odc qs =>
          obtain ⟨b, ws, rfl, hb, mb, hb0, rb⟩ := r
          exact ⟨b, ws, rfl, hb, ⟨(upd_ne (na b rfl rfl)).trans mb.g, mb.p, mb.c, mb.h⟩, hb0, rb.mono sg⟩
        | obj c fs =>
          obtain ⟨b, C, dx, ws, rfl, hc, hb, mb, rb, me⟩ := r
          exact ⟨b, C, dx, ws, rfl, hc, hb, ⟨(upd_ne (na b rfl rfl)).trans mb.g, mb.p, mb.c, mb.h⟩, rb.mono sg, me⟩
    · rcases get_set hj with ⟨ej, eu, hl⟩ | ⟨ne, hj2⟩
      · subst eu
        cases ou
      · rcases get_set hk with ⟨ek, eu, hl⟩ | ⟨ne2, hk2⟩
        · subst eu
          cases ou'
        · exact er.df j k u u' b njk hj2 hk2 ou ou' aj ak
theorem sim_freeze {i : Nat} (ha : SimS z t a) : SimS z t (mFreeze i a) := by
  intro σ env G H n D Dp ok fr er hm ed
  unfold mFreeze at hm
  split at hm
  · rename_i ps he
    obtain ⟨G', sg, ok', fr', er'⟩ := er.freeze ok fr he
    exact ha σ _ G' H n D Dp ok' fr' er' hm (ed.mono sg)
  · exact ha σ env G H n D Dp ok fr er hm ed
def ItRep (z : Z) (G : Hp) (J : It) (ps : List PV) : Prop := ∀ (G2 H2 : Hp) (n : SN) (i : Nat), Same G G2 → Ok z.K z.cm z.p z.c G2 H2 n → (ps.length ≤ i → J.stop i H2) ∧
  ∀ q, ps[i]? = some q → J.go i H2 ∧ ∀ x H3, J.yld i H2 x H3 → ∃ G3, Ok z.K z.cm z.p z.c G3 H3 n ∧ Step z.cm z.c (· = z.p) G2 H2 G3 H3 ∧ z.rep G3 x q
theorem ItRep.mono {G G1 : Hp} {J : It} {ps : List PV} (h : ItRep z G J ps) (s : Same G G1) : ItRep z G1 J ps := fun G2 H2 n i s2 => h G2 H2 n i (s.trans s2)
abbrev SimI (z : Z) (w : TI) (m : PEnv → M (List PV)) : Prop := Sim z (ItRep z) w m
theorem sim_for {w : TI} {mi : PEnv → M (List PV)} {g : TG} {mg : PV → PEnv → (PEnv → Prop) → Prop} (hi : SimI z w mi) (hg : SimG z g mg) (hb : SimS z t b) : SimS z (tFor w g t) (mFor mi mg b) := by
  intro σ env G H n D Dp ok fr er hm ed
  refine hi.bind ok fr er hm fun J ps G1 H1 n1 ok1 fr1 er1 s1 r1 hm1 => ?_
  refine ⟨fun i m σ' H' => m = ps.length - i ∧ i ≤ ps.length ∧ ∃ env' G' n', Same G1 G' ∧ Ok z.K z.cm z.p z.c G' H' n' ∧ Fr z G' H' ∧ EnvRel z G' H' σ' env' ∧ forL (fun x W D env n => mg x env fun env' => b W D env' n) (ps.drop i) z.W Dp env' n', ⟨_, rfl, Nat.zero_le _, env, G1, n1, Same.refl _, ok1, fr1, er1, by simpa using hm1⟩, ?_⟩
  rintro i m σ' H' ⟨rfl, hi, env', G', n', sg, ok', fr', er', hf⟩
  obtain ⟨hstop, hgo⟩ := r1 G' H' n' i sg ok'
  by_cases hl : i < ps.length
  · right
    have e : ps[i]? = some ps[i] := List.getElem?_eq_getElem hl
    rw [List.drop_eq_getElem_cons hl] at hf
    obtain ⟨go, yl⟩ := hgo _ e
    refine ⟨go, fun σ2 H2 => ∃ env2 G2 n2, Same G1 G2 ∧ Ok z.K z.cm z.p z.c G2 H2 n2 ∧ Fr z G2 H2 ∧ EnvRel z G2 H2 σ2 env2 ∧ forL (fun x W D env n => mg x env fun env' => b W D env' n) (ps.drop (i + 1)) z.W Dp env2 n2, fun σ2 H2 h2 => ⟨_, by omega, rfl, by omega, h2⟩, fun x H3 hy => ?_⟩
    obtain ⟨G3, ok3, s3, rx⟩ := yl x H3 hy
    refine hg σ' env' G3 H3 n' x _ _ _ ok3 (er'.step s3) rx hf fun σ4 env4 er4 hf4 => ?_
    have sg3 : Same G1 G3 := sg.trans s3.same
    have ed3 := ed.mono (s1.same.trans sg3)
    refine hb σ4 env4 G3 H3 n' _ _ ok3 (fr'.stepP s3) er4 hf4 ⟨fun σ5 env5 G5 H5 n5 s5 ok5 fr5 er5 h5 => ⟨env5, G5, n5, sg3.trans s5, ok5, fr5, er5, h5⟩, ed3.rt, ed3.nx, fun σ5 env5 G5 H5 n5 s5 ok5 fr5 er5 h5 => ⟨env5, G5, n5, sg3.trans s5, ok5, fr5, er5, h5⟩⟩
  · left
    rw [List.drop_eq_nil_of_le (by omega)] at hf
    exact ⟨hstop (by omega), ed.nx σ' env' G' H' n' (s1.same.trans sg) ok' fr' er' hf⟩
theorem sim_while {c : TT} {k : PEnv → M Bool} (hc : SimT z c k) (hb : SimS z t b) : SimS z (tWhile c t) (mWhile k b) := by
  intro σ env G H n D Dp ok fr er hm ed
  obtain ⟨l, hm⟩ := hm
  refine ⟨fun l σ' H' => ∃ env' G' n', Same G G' ∧ Ok z.K z.cm z.p z.c G' H' n' ∧ Fr z G' H' ∧ EnvRel z G' H' σ' env' ∧ whN k b l z.W Dp env' n', ⟨l, env, G, n, Same.refl _, ok, fr, er, hm⟩, ?_⟩
  rintro l σ' H' ⟨env', G', n', sg, ok', fr', er', hw⟩
  cases l with
  | zero => exact hw.elim
  | succ l =>
    refine hc.bind ok' fr' er' hw fun v q G1 H1 n1 ok1 fr1 er1 s1 r1 hm1 => ?_
    cases r1
    have sg1 := sg.trans s1.same
    have ed1 := ed.mono sg1
    cases v with
    | true =>
      refine ⟨fun σ2 H2 => ∃ env2 G2 n2, Same G G2 ∧ Ok z.K z.cm z.p z.c G2 H2 n2 ∧ Fr z G2 H2 ∧ EnvRel z G2 H2 σ2 env2 ∧ whN k b l z.W Dp env2 n2, fun σ2 H2 h2 => ⟨l, Nat.lt_succ_self _, h2⟩, ?_⟩
      exact hb σ' env' G1 H1 n1 _ _ ok1 fr1 er1 hm1 ⟨fun σ5 env5 G5 H5 n5 s5 ok5 fr5 er5 h5 => ⟨env5, G5, n5, sg1.trans s5, ok5, fr5, er5, h5⟩, ed1.rt, ed1.nx, fun σ5 env5 G5 H5 n5 s5 ok5 fr5 er5 h5 => ⟨env5, G5, n5, sg1.trans s5, ok5, fr5, er5, h5⟩⟩
    | false => exact ed1.nx σ' env' G1 H1 n1 (Same.refl _) ok1 fr1 er1 hm1
theorem EnvRel.wipe {G H : Hp} {σ : L2.St} {env : PEnv} (er : EnvRel z G H σ env) : ∀ vs : List Nat, EnvRel z G H (wipe σ vs) (wipeP env vs)
  | [] => er
  | v :: vs => by
    unfold L2.wipe wipeP
    exact (EnvRel.wipe er vs).wipe1
theorem Fr.nox {G H : Hp} (f : Fr z G H) : Fr z.nox G H := ⟨f.st, f.mp, f.sx, f.lk⟩
theorem EnvRel.nox {G H : Hp} {σ : L2.St} {env : PEnv} (e : EnvRel z G H σ env) : EnvRel z.nox G H σ env := by
  refine ⟨fun i s h => ?_, e.df, e.len⟩
  obtain ⟨x, hx, r⟩ := e.at_ i s h
  refine ⟨x, hx, ?_⟩
  cases s with
  | no => trivial
  | val q => exact r
  | own ps => exact let ⟨a, vs, e, h, m, h0, r⟩ := r; ⟨a, vs, e, h, ⟨m.g, m.p, m.c, m.h⟩, h0, r⟩
  | odc ps => exact let ⟨a, vs, e, h, m, h0, r⟩ := r; ⟨a, vs, e, h, ⟨m.g, m.p, m.c, m.h⟩, h0, r⟩
  | obj c fs => exact let ⟨a, C, dx, vs, e, hc, h, m, r, me⟩ := r; ⟨a, C, dx, vs, e, hc, h, ⟨m.g, m.p, m.c, m.h⟩, r, me⟩
theorem wipe_get (σ : L2.St) (j : Nat) : ∀ vs : List Nat, (wipe σ vs)[j]? = if j ∈ vs then (if j < σ.length then some none else none) else σ[j]?
  | [] => by simp [L2.wipe]
  | v :: vs => by
    unfold L2.wipe
    rw [List.getElem?_set, wipe_get σ j vs, wipe_length]
    by_cases e : v = j
    · subst e
      simp
    · have e' : ¬ j = v := fun q => e q.symm
      simp [e, e']
theorem wipe_set {σ : L2.St} {i : Nat} {x : Option V} {vs : List Nat} (h : i ∈ vs) : wipe (σ.set i x) vs = wipe σ vs := by
  refine List.ext_getElem? fun j => ?_
  rw [wipe_get, wipe_get, List.length_set]
  by_cases e : j ∈ vs
  · simp [e]
  · rw [if_neg e, if_neg e, List.getElem?_set_ne (fun q : i = j => e (by rw [← q]; exact h))]
theorem wipe_wipe (σ : L2.St) (vs : List Nat) : wipe (wipe σ vs) vs = wipe σ vs := by
  refine List.ext_getElem? fun j => ?_
  rw [wipe_get, wipe_get, wipe_length]
  by_cases e : j ∈ vs
  · simp [e]
  · rw [if_neg e]
def GW (g : TG) (vs : List Nat) : Prop := ∀ (x : V) (σ : L2.St) (H : Hp) (Q Q' : L2.St → Hp → Prop), g x σ H Q → (∀ σ2 H2, wipe σ2 vs = wipe σ vs → Q σ2 H2 → Q' σ2 H2) → g x σ H Q'
def GWs (g : TGs) (vs : List Nat) : Prop := ∀ (x : List V) (σ : L2.St) (H : Hp) (Q Q' : L2.St → Hp → Prop), g x σ H Q → (∀ σ2 H2, wipe σ2 vs = wipe σ vs → Q σ2 H2 → Q' σ2 H2) → g x σ H Q'
theorem gw_name {i : Nat} {vs : List Nat} (h : i ∈ vs) : GW (gName i) vs := fun x σ H Q Q' q k => k _ _ (wipe_set h) q
theorem gw_nil {vs : List Nat} : GWs gNil vs := fun x σ H Q Q' q k => ⟨q.1, k _ _ rfl q.2⟩
theorem gw_cons {g : TG} {gs : TGs} {vs : List Nat} (h : GW g vs) (hs : GWs gs vs) : GWs (gCons g gs) vs := fun x σ H Q Q' q k => by
  obtain ⟨v, r, e, q⟩ := q
  exact ⟨v, r, e, h v σ H _ _ q fun σ2 H2 e2 q2 => hs r σ2 H2 _ _ q2 fun σ3 H3 e3 q3 => k σ3 H3 (e3.trans e2) q3⟩
theorem gw_tup {K : PySem.W.Frag} {k : Nat} {gs : TGs} {vs : List Nat} (hs : GWs gs vs) : GW (gTup K k gs) vs := fun x σ H Q Q' q k => by
  obtain ⟨a, xs, e, s, l, q⟩ := q
  exact ⟨a, xs, e, s, l, hs xs σ H _ _ q k⟩
theorem sim_lc {w : TI} {mi : PEnv → M (List PV)} {g : TG} {mg : PV → PEnv → (PEnv → Prop) → Prop} {tt : TT} {mt : PEnv → M Bool} {te : TE} {me : PEnv → M PV} {vs : List Nat} (hi : SimI z w mi) (hg : SimG z.nox g mg) (hw : GW g vs) (ht : SimT z.nox tt mt) (he : SimE z.nox te me) :
    SimE z (tLc w g tt te vs) (mLc mi mg mt me vs) := by
  intro σ env G H n Qp Q ok fr er hm hq
  refine hi.bind ok fr er hm fun J ps G1 H1 n1 ok1 fr1 er1 s1 r1 hm1 => ?_
  obtain ⟨hz, hm1⟩ := hm1
  intro A hA
  obtain ⟨ok2, s2⟩ := ok1.newO (o := .lst []) hA
  have mA := ok1.mine fr1 hA
  refine ⟨fun i m H' => m = ps.length - i ∧ i ≤ ps.length ∧ ∃ G' n' acc us, Ok z.K z.cm z.p z.c G' H' n' ∧ Step z.cm z.c (· = z.p) G1 H1 G' H' ∧ H' A = some (.lst us) ∧ G' A = none ∧ z.repL G' us acc ∧ acc.length ≤ i ∧
    lcL mg mt me (wipeP env vs) (ps.drop i) n' (fun ys n2 => Qp (.lst (acc ++ ys)) n2), ⟨_, rfl, Nat.zero_le _, G1, n1, [], [], ok2, s2, upd_same, mA.g, .nil, Nat.zero_le _, by simpa using hm1⟩, ?_⟩
  rintro i m H' ⟨rfl, hi, G', n', acc, us, ok', st', hA', gA', rl, la, hl'⟩
  have mine : Mine z G' A := ⟨gA', mA.p, mA.c, mA.h⟩
  obtain ⟨hstop, hgo⟩ := r1 G' H' n' i st'.same ok'
  by_cases hl : i < ps.length
  · right
    have e : ps[i]? = some ps[i] := List.getElem?_eq_getElem hl
    rw [List.drop_eq_getElem_cons hl] at hl'
    obtain ⟨go, yl⟩ := hgo _ e
    refine ⟨go, fun H2 => ∃ G2 n2 acc2 us2, Ok z.K z.cm z.p z.c G2 H2 n2 ∧ Step z.cm z.c (· = z.p) G1 H1 G2 H2 ∧ H2 A = some (.lst us2) ∧ G2 A = none ∧ z.repL G2 us2 acc2 ∧ acc2.length ≤ i + 1 ∧
      lcL mg mt me (wipeP env vs) (ps.drop (i + 1)) n2 (fun ys n2 => Qp (.lst (acc2 ++ ys)) n2), fun H2 h2 => ⟨_, by omega, rfl, by omega, h2⟩, fun x H3 hy => ?_⟩
    obtain ⟨G3, ok3, s3, rx⟩ := yl x H3 hy
    have st3 := st'.trans s3 fun _ q => q
    have er3 : EnvRel z.nox G3 H3 (wipe σ vs) (wipeP env vs) := ((er1.step st3).wipe vs).nox
    have keepA : ∀ {Ga Ha Gb Hb : Hp} {us : List V}, Step z.cm z.c (· = z.p) Ga Ha Gb Hb → Ha A = some (.lst us) → Ga A = none → Hb A = some (.lst us) ∧ Gb A = none := fun {Ga Ha Gb Hb us} s h g => by
      refine ⟨s.keep _ _ h mA.p ko_lst, ?_⟩
      cases q : Gb A with
      | none => rfl
      | some o =>
        have := s.new A o q ⟨_, h, nt0_lst⟩
        rw [g] at this
        cases this
    obtain ⟨hA3, gA3⟩ := keepA s3 hA' gA'
    refine hw x (wipe σ vs) H3 (fun σ4 H4 => H4 = H3 ∧ ∃ env4, EnvRel z.nox G3 H3 σ4 env4 ∧ mt env4 W0 n' fun b n1 => if b = true then me env4 W0 n1 fun y n2 => lcL mg mt me (wipeP env vs) (ps.drop (i + 1)) n2 fun ys n3 => Qp (.lst (acc ++ (y :: ys))) n3 else lcL mg mt me (wipeP env vs) (ps.drop (i + 1)) n1 fun ys n2 => Qp (.lst (acc ++ ys)) n2) _
      (hg (wipe σ vs) (wipeP env vs) G3 H3 n' x _ _ _ ok3 er3 rx hl' fun σ4 env4 er4 hf4 => ⟨rfl, env4, er4, hf4⟩) fun σ4 H4 we q4 => ?_
    obtain ⟨rfl, env4, er4, hf4⟩ := q4
    refine ⟨we.trans (wipe_wipe σ vs), ?_⟩
    have fr3 : Fr z.nox G3 H4 := (fr1.stepP st3).nox
    refine ht.bind (z := z.nox) ok3 fr3 er4 hf4 fun bb bq G5 H5 n5 ok5 fr5 er5 s5 r5 hm5 => ?_
    cases r5
    obtain ⟨hA5, gA5⟩ := keepA s5 hA3 gA3
    have st5 := st3.trans s5 fun _ q => q
    cases bb with
    | true =>
      rw [if_pos rfl] at hm5 ⊢
      refine he.bind (z := z.nox) ok5 fr5 er5 hm5 fun y py G6 H6 n6 ok6 fr6 er6 s6 r6 hm6 => ?_
      obtain ⟨hA6, gA6⟩ := keepA s6 hA5 gA5
      have st6 := st5.trans s6 fun _ q => q
      have rl6 : z.repL G6 us acc := (rl.mono s3.same).mono (s5.same.trans s6.same)
      have mine6 : Mine z G6 A := ⟨gA6, mA.p, mA.c, mA.h⟩
      refine ⟨us, hA6, by rw [rl.len, sizeLine_eq]; omega, G6, n6, acc ++ [py], us ++ [y], Ok.set (z := z) ok6 mine6 hA6, ⟨st6.same, fun b o e nb nt => Ev.get_ne (fun q => by rw [q, hA] at e; cases e) (st6.keep b o e nb nt), st6.new, fun b h => ?_⟩, upd_same, gA6, rl6.append (.cons r6 .nil), by simp; omega, ?_⟩
      · exact (st6.al b h).upd nt0_lst
      · simpa using hm6
    | false =>
      rw [if_neg (by decide)] at hm5 ⊢
      exact ⟨G5, n5, acc, us, ok5, st5, hA5, gA5, (rl.mono s3.same).mono s5.same, by omega, hm5⟩
  · left
    rw [List.drop_eq_nil_of_le (by omega)] at hl'
    have hQ : Qp (.lst acc) n' := by simpa [lcL] using hl'
    refine ⟨hstop (by omega), ?_⟩
    have sg : Same G' (upd G' A (.lst us)) := fun b o e => Ev.get_new e gA'
    refine hq (.ref A) (.lst acc) (upd G' A (.lst us)) H' n' ⟨fun b o e => ?_, ok'.pen, (upd_ne mA.p.symm).trans ok'.gp, gc_upd mA.c.symm ok'.gc, ok'.tb, gt_upd ok'.gt nt0_lst, ok'.mu.frz hA' nt_lst gA', ok'.lk⟩ ?_ (.lst upd_same (rl.mono sg)) hQ
    · by_cases q : b = A
      · subst q
        rw [upd_same] at e
        rw [← e]
        exact hA'
      · rw [upd_ne q] at e
        exact ok'.sub _ _ e
    · have st := s1.trans st' fun _ q => q
      refine ⟨st.same.trans sg, st.keep, fun b o e nb => ?_, st.al⟩
      by_cases q : b = A
      · subst q
        exact ((s1.al b nb).no hA).elim
      · rw [upd_ne q] at e
        exact st.new b o e nb
end
end Pu
namespace Pu
open PySem PySem.Spec PyProof.Rows L2
section
variable (K : PySem.W.Frag) (cm : Md)
def spP (k : Nat) (m : List PV → M PV) : Sp := fun vs H Q E => ∃ (p : Addr) (c : Cz) (G : Hp) (n : SN) (args : List PV) (Wp : XP) (Qp : PV → SN → Prop), vs.length = k ∧ Ok K cm p c G H n ∧ RepL K cm p G vs args ∧ m args Wp n Qp ∧
  (∀ v q G' H' n', Ok K cm p c G' H' n' → Step cm c (· = p) G H G' H' → Rep K cm p G' v q → Qp q n' → Q v H') ∧
  (∀ cn fs C d G' H' n', Ok K cm p c G' H' n' → Step cm c (· = p) G H G' H' → cm.cx cn = some C → RepX K cm p G' d fs → Wp cn fs n' → E (.ref C) d H')
def spI (k : Nat) (m : Str → List (Str × PV) → List PV → M (List (Str × PV))) : Sp := fun vs H Q E => ∃ (p : Addr) (c : Cz) (G : Hp) (n : SN) (cn : Str) (C x dx : Addr) (us : List V) (vf : List (Str × V)) (fs : List (Str × PV)) (args : List PV) (Wp : XP) (Qp : List (Str × PV) → SN → Prop),
  vs = .ref x :: us ∧ us.length + 1 = k ∧ Ok K cm p c G H n ∧ cm cn = some C ∧ H x = some (.ins C dx vf) ∧ G x = none ∧ x ≠ p ∧ x ≠ c.a ∧ RepF K cm p G vf fs ∧ RepL K cm p G us args ∧ m cn fs args Wp n Qp ∧
  (∀ vf' fs' G' H' n', Ok K cm p c G' H' n' → Step cm c (fun b => b = p ∨ b = x) G H G' H' → H' x = some (.ins C dx vf') → G' x = none → RepF K cm p G' vf' fs' → Qp fs' n' → Q .non H') ∧
  (∀ cn fs C d G' H' n', Ok K cm p c G' H' n' → Step cm c (fun b => b = p ∨ b = x) G H G' H' → cm.cx cn = some C → RepX K cm p G' d fs → Wp cn fs n' → E (.ref C) d H')
end
def Link (z : Z) (E : XK) : Prop := ∀ (σ : L2.St) (env : PEnv) (G H : Hp) (n : SN) (cn : Str) (fs : List (Str × PV)) (C : Addr) (d : Option Addr), Ok z.K z.cm z.p z.c G H n → Fr z G H → EnvRel z G H σ env →
  z.cm.cx cn = some C → z.repX G d fs → z.W env cn fs n → E (.ref C) d H
def startP (k : Nat) (args : List PV) : PEnv := args.map .val ++ List.replicate (k - args.length) .no
def initEnd (Q : List (Str × PV) → SN → Prop) : PEnv → SN → Prop := fun env n => match env with
  | .obj _ fs :: _ => Q fs n
  | _ => False
def mCall (k : Nat) (m : List PV → M PV) (dps : List PV) (r : PEnv → M (List PV)) : PEnv → M PV := fun env W n Q => r env W n fun args n1 => (args ++ dps).length = k ∧ m (args ++ dps) W n1 Q
def mCallK (n l k : Nat) (gP : List PV → List PV → List PV) (m : List PV → M PV) (r s : PEnv → M (List PV)) : PEnv → M PV := fun env W n0 Q => r env W n0 fun ps n1 => s env W n1 fun qs n2 => ps.length = n ∧ qs.length = l ∧ (gP ps qs).length = k ∧ m (gP ps qs) W n2 Q
def mMeth (cn f : Str) (k : Nat) (m : List PV → M PV) (dps : List PV) (a : PEnv → M PV) (r : PEnv → M (List PV)) : PEnv → M PV := fun env W n Q => a env W n fun x n1 => match x with
  | .ins c fs => c = cn ∧ fs.lookup f = none ∧ r env W n1 fun args n2 => (args ++ dps).length + 1 = k ∧ m (.ins c fs :: (args ++ dps)) W n2 Q
  | _ => False
def PV.isAtom : PV → Bool
  | .non => true
  | .bl _ => true
  | .int _ => true
  | .str _ => true
  | _ => false
def mMethO (cn f : Str) (k : Nat) (m : List PV → M PV) (dps : List PV) (i : Nat) (r : PEnv → M (List PV)) : PEnv → M PV := fun env W n Q => match env[i]? with
  | some (.obj c fs) => c = cn ∧ fs.lookup f = none ∧ r env W n fun args n2 => (args ++ dps).length + 1 = k ∧ m (.ins c fs :: (args ++ dps)) W0 n2.lock fun q n3 => q.isAtom = true ∧ Q q (n2.back n3)
  | _ => False
def mMake (cn : Str) (n l k : Nat) (gP : List PV → List PV → List PV) (m : Str → List (Str × PV) → List PV → M (List (Str × PV))) (r s : PEnv → M (List PV)) : PEnv → M PV := fun env W n0 Q => r env W n0 fun ps n1 => s env W n1 fun qs n2 => ps.length = n ∧ qs.length = l ∧ (gP ps qs).length + 1 = k ∧
  m cn [] (gP ps qs) W n2 fun fs n3 => Q (.ins cn fs) n3
def mDraw (r : PEnv → M (List PV)) : PEnv → M PV := fun env W n Q => r env W n fun args n1 => match args with
  | [.pen, .int m] => 1 ≤ n1.n ∧ 0 < m ∧ m ≤ 10000000000000000000000000000000000000000000000000000000000000000000000 ∧ ∀ d, 0 ≤ d → d < m → Q (.int d) (n1 - 1)
  | _ => False
section
variable {z : Z}
theorem envStart {G H : Hp} {k : Nat} {vs : List V} {args : List PV} (r : z.repL G vs args) (hk : vs.length ≤ k) : EnvRel z G H (vs.map some ++ List.replicate (k - vs.length) none) (startP k args) := by
  have hl := r.len
  refine ⟨fun i s h => ?_, fun i j s s' a _ hi _ os _ _ _ => ?_, by simp [startP]; omega⟩
  · unfold startP at h
    by_cases hi : i < args.length
    · rw [List.getElem?_append_left (by simpa using hi), List.getElem?_map] at h
      obtain ⟨q, hq, rfl⟩ := Option.map_eq_some_iff.mp h
      obtain ⟨y, hy, ry⟩ := r.get hq
      exact ⟨some y, by rw [List.getElem?_append_left (by simpa [hl] using hi), List.getElem?_map, hy]; rfl, y, rfl, ry⟩
    · rw [List.getElem?_append_right (by simpa using hi), List.getElem?_replicate] at h
      split at h
      · cases h
        refine ⟨none, ?_, trivial⟩
        rw [List.getElem?_append_right (by simp; omega), List.getElem?_replicate, if_pos (by simp at *; omega)]
      · cases h
  · unfold startP at hi
    by_cases hlt : i < args.length
    · rw [List.getElem?_append_left (by simpa using hlt), List.getElem?_map] at hi
      obtain ⟨q, _, rfl⟩ := Option.map_eq_some_iff.mp hi
      cases os
    · rw [List.getElem?_append_right (by simpa using hlt), List.getElem?_replicate] at hi
      split at hi
      · cases hi
        cases os
      · cases hi
theorem startP_own {k i : Nat} {args : List PV} {s : Slot} (h : (startP k args)[i]? = some s) : s.isOwn = false := by
  unfold startP at h
  by_cases hlt : i < args.length
  · rw [List.getElem?_append_left (by simpa using hlt), List.getElem?_map] at h
    obtain ⟨q, _, rfl⟩ := Option.map_eq_some_iff.mp h
    rfl
  · rw [List.getElem?_append_right (by simpa using hlt), List.getElem?_replicate] at h
    split at h
    · cases h
      rfl
    · cases h
theorem sim_call {k : Nat} {m : List PV → M PV} {dvs : List V} {dps : List PV} {E : XK} {ta : TA} {ma : PEnv → M (List PV)} (hl : Link z E) (hd : ∀ G, z.repL G dvs dps) (ha : SimA z ta ma) : SimE z (tCall (spP z.K z.cm k m) dvs E ta) (mCall k m dps ma) := by
  intro σ env G H n Qp Q ok fr er hm hq
  refine ha.bind ok fr er hm fun vs args G1 H1 n1 ok1 fr1 er1 s1 r1 hm1 => ?_
  have rr := r1.append (hd G1)
  refine ⟨z.p, z.c, G1, n1, args ++ dps, z.W env, Qp, rr.len.trans hm1.1, ok1, rr, hm1.2, fun v q G' H' n' ok' st' r' hq' => (hq.step s1) v q G' H' n' ok' st' r' hq', fun cn fs C d G' H' n' ok' st' hc rx hw => ?_⟩
  exact hl σ env G' H' n' cn fs C d ok' (fr1.stepP st') (er1.step st') hc rx hw
theorem sim_callK {n0 l k : Nat} {gP : List PV → List PV → List PV} {gV : List V → List V → List V} {m : List PV → M PV} {E : XK} {ta tk : TA} {ma mk : PEnv → M (List PV)} (hl : Link z E)
    (hg : ∀ G vs ps zs qs, ps.length = n0 → qs.length = l → z.repL G vs ps → z.repL G zs qs → z.repL G (gV vs zs) (gP ps qs)) (ha : SimA z ta ma) (hk : SimA z tk mk) : SimE z (Ev.tGK n0 l (spP z.K z.cm k m) gV E ta tk) (mCallK n0 l k gP m ma mk) := by
  intro σ env G H n Qp Q ok fr er hm hq
  refine ha.bind ok fr er hm fun vs ps G1 H1 n1 ok1 fr1 er1 s1 r1 hm1 => ?_
  refine hk.bind ok1 fr1 er1 hm1 fun zs qs G2 H2 n2 ok2 fr2 er2 s2 r2 hm2 => ?_
  have rr := hg G2 vs ps zs qs hm2.1 hm2.2.1 (r1.mono s2.same) r2
  refine ⟨r1.len.trans hm2.1, r2.len.trans hm2.2.1, z.p, z.c, G2, n2, gP ps qs, z.W env, Qp, rr.len.trans hm2.2.2.1, ok2, rr, hm2.2.2.2, fun v q G' H' n' ok' st' r' hq' => ((hq.step s1).step s2) v q G' H' n' ok' st' r' hq', fun cn fs C d G' H' n' ok' st' hc rx hw => ?_⟩
  exact hl σ env G' H' n' cn fs C d ok' (fr2.stepP st') (er2.step st') hc rx hw
theorem sim_meth {cn f : Str} {C : Addr} {k : Nat} {m : List PV → M PV} {dvs : List V} {dps : List PV} {E : XK} {ta : TE} {tr : TA} {ma : PEnv → M PV} {mr : PEnv → M (List PV)} (hl : Link z E) (hc : z.cm cn = some C) (hd : ∀ G, z.repL G dvs dps) (ha : SimE z ta ma) (hr : SimA z tr mr) :
    SimE z (tMeth C f (spP z.K z.cm k m) dvs E ta tr) (mMeth cn f k m dps ma mr) := by
  intro σ env G H n Qp Q ok fr er hm hq
  refine ha.bind ok fr er hm fun x px G1 H1 n1 ok1 fr1 er1 s1 r1 hm1 => ?_
  cases r1 <;> try exact hm1.elim
  rename_i a C' dx c vs ps hc' hg rf
  obtain ⟨rfl, hf, hm1⟩ := hm1
  rw [hc] at hc'
  cases hc'
  have hlk : vs.lookup f = none := by
    rcases rf.look (f := f) with ⟨_, e⟩ | ⟨x, y, e, _⟩
    · exact e
    · rw [hf] at e
      cases e
  refine ⟨a, dx, vs, rfl, ok1.sub _ _ hg, hlk, ?_⟩
  refine hr.bind ok1 fr1 er1 hm1 fun us args G2 H2 n2 ok2 fr2 er2 s2 r2 hm2 => ?_
  have rr : z.repL G2 (.ref a :: (us ++ dvs)) (.ins c ps :: (args ++ dps)) := .cons (.ins hc (s2.same _ _ hg) (rf.mono s2.same)) (r2.append (hd G2))
  refine ⟨z.p, z.c, G2, n2, _, z.W env, Qp, rr.len.trans (by rw [List.length_cons]; exact hm2.1), ok2, rr, hm2.2, fun v q G' H' n' ok' st' r' hq' => ((hq.step s1).step s2) v q G' H' n' ok' st' r' hq', fun cn fs C d G' H' n' ok' st' hc rx hw => ?_⟩
  exact hl σ env G' H' n' cn fs C d ok' (fr2.stepP st') (er2.step st') hc rx hw
theorem atom_rep {G G' : Hp} {v : V} {q : PV} (h : q.isAtom = true) (r : z.rep G v q) : z.rep G' v q := by
  cases r <;> first | exact .non | exact .bl _ | exact .int _ | exact .str _ | (cases h)
theorem sim_methO {cn f : Str} {C : Addr} {k i : Nat} {m : List PV → M PV} {dvs : List V} {dps : List PV} {E : XK} {tr : TA} {mr : PEnv → M (List PV)} (hc : z.cm cn = some C) (hd : ∀ G, z.repL G dvs dps) (hr : SimA z tr mr) :
    SimE z (tMeth C f (spP z.K z.cm k m) dvs E (tVar i) tr) (mMethO cn f k m dps i mr) := by
  intro σ env G H n Qp Q ok fr er hm hq
  unfold mMethO at hm
  split at hm
  · rename_i c fs he
    obtain ⟨x, hx, a, C', dx, vs, rfl, hc', hh, mine, rf, me⟩ := er.at_ i _ he
    obtain ⟨rfl, hf, hm1⟩ := hm
    rw [hc] at hc'
    cases hc'
    have hlk : vs.lookup f = none := by
      rcases rf.look (f := f) with ⟨_, e⟩ | ⟨x, y, e, _⟩
      · exact e
      · rw [hf] at e
        cases e
    refine ⟨_, hx, a, dx, vs, rfl, hh, hlk, ?_⟩
    refine hr.bind ok fr er hm1 fun us args G2 H2 n2 ok2 fr2 er2 s2 r2 hm2 => ?_
    obtain ⟨_, hx2, a2, C2, dx2, vs2, e2, hc2, hh2, mine2, rf2, me2⟩ := er2.at_ i _ he
    rw [hx] at hx2
    cases Option.some.inj hx2
    cases e2
    rw [hc] at hc2
    cases hc2
    have sg : Same G2 (upd G2 a (.ins C dx2 vs2)) := fun b o e => Ev.get_new e mine2.g
    have ok3 : Ok z.K z.cm z.p z.c (upd G2 a (.ins C dx2 vs2)) H2 n2 := ⟨fun b o e => by
      by_cases q : b = a
      · subst q
        rw [upd_same] at e
        rw [← e]
        exact hh2
      · rw [upd_ne q] at e
        exact ok2.sub _ _ e, ok2.pen, (upd_ne mine2.p.symm).trans ok2.gp, gc_upd mine2.c.symm ok2.gc, ok2.tb, gt_upd ok2.gt nt0_ins, ok2.mu.frz hh2 (nt_ins hc) mine2.g, ok2.lk⟩
    have rr : z.repL (upd G2 a (.ins C dx2 vs2)) (.ref a :: (us ++ dvs)) (.ins c fs :: (args ++ dps)) := .cons (.ins hc upd_same (rf2.mono sg)) ((r2.mono sg).append (hd _))
    refine ⟨z.p, ⟨z.c.a, true⟩, _, n2.lock, _, W0, _, rr.len.trans (by rw [List.length_cons]; exact hm2.1), ok3.lock, rr, hm2.2, fun v q G' H' n' ok' st' r' hq' => ?_, fun cn fs C d G' H' n' ok' st' hc rx hw => hw.elim⟩
    have ok4 := ok2.unlock ok' st' (sg.trans st'.same)
    exact (hq.step s2) v q G2 H' _ ok4 ⟨Same.refl _, fun b o e nb nt => st'.keep b o e nb ⟨nt.1, fun _ => rfl⟩, fun _ _ e _ => e, st'.al⟩ (atom_rep hq'.1 r') hq'.2
  · exact hm.elim
theorem sim_make {cn : Str} {C : Addr} {n0 l k : Nat} {gP : List PV → List PV → List PV} {gV : List V → List V → List V} {m : Str → List (Str × PV) → List PV → M (List (Str × PV))} {E : XK} {ta tk : TA} {ma mk : PEnv → M (List PV)} (hl : Link z E) (hc : z.cm cn = some C)
    (hg : ∀ G x vs ps zs qs, ps.length = n0 → qs.length = l → z.repL G vs ps → z.repL G zs qs → ∃ us, gV (.ref x :: vs) zs = .ref x :: us ∧ z.repL G us (gP ps qs)) (ha : SimA z ta ma) (hk : SimA z tk mk) :
    SimE z (tMakeK C n0 l (spI z.K z.cm k m) gV E ta tk) (mMake cn n0 l k gP m ma mk) := by
  intro σ env G H n Qp Q ok fr er hm hq
  refine ha.bind ok fr er hm fun vs ps G1 H1 n1 ok1 fr1 er1 s1 r1 hm1 => ?_
  refine hk.bind ok1 fr1 er1 hm1 fun zs qs G2 H2 n2 ok2 fr2 er2 s2 r2 hm2 => ?_
  obtain ⟨l1, l2, l3, hm2⟩ := hm2
  refine ⟨r1.len.trans l1, r2.len.trans l2, fun x dx nx ndx ne => ?_⟩
  obtain ⟨us, eu, ru⟩ := hg G2 x vs ps zs qs l1 l2 (r1.mono s2.same) r2
  obtain ⟨ok3, s3⟩ := ok2.newO (o := .own x) ndx
  have nx3 : upd H2 dx (.own x) x = none := (upd_ne ne.symm).trans nx
  obtain ⟨ok4, s4⟩ := ok3.newO (o := .ins C dx []) nx3
  have st4 := s3.trans s4 fun _ q => q
  have nxp := Ev.Pen.ne ok2.pen nx
  have nxc := Ev.Pen.neC ok2.pen nx
  refine ⟨z.p, z.c, G2, n2, cn, C, x, dx, us, [], [], gP ps qs, z.W env, _, eu, by rw [ru.len]; exact l3, ok4, hc, upd_same, ok2.free nx, nxp, nxc, .nil, ru, hm2, fun vf' fs' G' H' n' ok' st' hx' gx' rf' hq' => ⟨rfl, ?_⟩, fun cn fs C d G' H' n' ok' st' hc rx hw => ?_⟩
  · have sg : Same G' (upd G' x (.ins C dx vf')) := fun b o e => Ev.get_new e gx'
    have ok5 : Ok z.K z.cm z.p z.c (upd G' x (.ins C dx vf')) H' n' := ⟨fun b o e => by
      by_cases q : b = x
      · subst q
        rw [upd_same] at e
        rw [← e]
        exact hx'
      · rw [upd_ne q] at e
        exact ok'.sub _ _ e, ok'.pen, (upd_ne nxp.symm).trans ok'.gp, gc_upd nxc.symm ok'.gc, ok'.tb, gt_upd ok'.gt nt0_ins, ok'.mu.frz hx' (nt_ins hc) gx', ok'.lk⟩
    refine ((hq.step s1).step s2) (.ref x) (.ins cn fs') _ H' n' ok5 ⟨st'.same.trans sg, fun b o e nb nt => ?_, fun b o e nb => ?_, fun b h => st'.al b (st4.al b h)⟩ (.ins hc upd_same (rf'.mono sg)) hq'
    · refine st'.keep b o (st4.keep b o e nb nt) (fun q => ?_) nt
      rcases q with q | q
      · exact nb q
      · subst q
        rw [nx] at e
        cases e
    · by_cases q : b = x
      · subst q
        exact (nb.no nx).elim
      · rw [upd_ne q] at e
        exact st'.new b o e (st4.al b nb)
  · have kp : ∀ b o, H2 b = some o → ¬ b = z.p → KO z.cm z.c o → H' b = some o := fun b o e nb nt => st'.keep b o (st4.keep b o e nb nt) (fun q => by
      rcases q with q | q
      · exact nb q
      · subst q
        rw [nx] at e
        cases e) nt
    have st5 : Step z.cm z.c (· = z.p) G2 H2 G' H' := ⟨st'.same, kp, fun b o e nb => st'.new b o e (st4.al b nb), fun b h => st'.al b (st4.al b h)⟩
    exact hl σ env G' H' n' cn fs C d ok' (fr2.stepP st5) (er2.step st5) hc rx hw
theorem sim_draw {E : XK} {spD : Sp} {ta : TA} {ma : PEnv → M (List PV)} (hD : ∀ (p c : Addr) (m n : Int) (H : Hp) (Q : VK) (E : XK), Ev.Pen H p c n → n ≤ 100000 → 0 < m → m ≤ 10000000000000000000000000000000000000000000000000000000000000000000000 → (∀ (d : Int) (H' : Hp), 0 ≤ d → d < m → Ev.But p H H' → Ev.Pen H' p c (n + 1) → Q (.int d) H') → spD [.ref p, .int m] H Q E)
    (ha : SimA z ta ma) : SimE z (tCall spD [] E ta) (mDraw ma) := by
  intro σ env G H n Qp Q ok fr er hm hq
  refine ha.bind ok fr er hm fun vs args G1 H1 n1 ok1 fr1 er1 s1 r1 hm1 => ?_
  split at hm1
  · rename_i m
    cases r1 with
    | cons ra rb =>
      cases rb with
      | cons rc rd =>
        cases rd
        cases ra
        cases rc
        obtain ⟨h1, h2, h3, h4⟩ := hm1
        refine hD z.p z.c.a m (90000 - (n1.n : Int)) H1 Q E ok1.pen (by omega) h2 h3 fun d H' d0 d1 b p' => ?_
        have ok2 : Ok z.K z.cm z.p z.c G1 H' (n1 - 1) := ⟨fun b' o e => b b' o (ok1.sub _ _ e) (fun q => by rw [q, ok1.gp] at e; cases e), p'.mono (by rw [SN.sub_n]; omega), ok1.gp, ok1.gc, Tabs.but ok1.tb b ok1.pen, ok1.gt, (ok1.mu.to (H' := H') (Same.refl _) fun b' o e mo g => ⟨b b' o e (ok1.notp e mo), g⟩).draw rfl, ok1.lk⟩
        refine (hq.step s1) (.int d) (.int d) G1 H' (n1 - 1) ok2 ⟨Same.refl _, fun b' o e nb _ => b b' o e nb, fun _ _ e _ => e, fun b' hb => ?_⟩ (.int d) (h4 d d0 d1)
        by_cases q : b' = z.p
        · subst q
          obtain ⟨_, _, _, e, _⟩ := p'
          exact ⟨_, e, nt0_lst⟩
        · obtain ⟨o, e, nt⟩ := hb
          exact ⟨o, b b' o e q, nt⟩
  · exact hm1.elim
def mList (m : PEnv → M PV) : PEnv → M (List PV) := fun env W n Q => m env W n fun x n1 => match x with
  | .lst xs => Q xs n1
  | _ => False
def mTupI (m : PEnv → M PV) : PEnv → M (List PV) := fun env W n Q => m env W n fun x n1 => match x with
  | .tup xs => Q xs n1
  | _ => False
theorem sim_iList {tl : TE} {m : PEnv → M PV} (h : SimE z tl m) : SimI z (iList z.K tl) (mList m) := by
  intro σ env G H n Qp Q ok fr er hm hq
  refine h.bind ok fr er hm fun x px G1 H1 n1 ok1 fr1 er1 s1 r1 hm1 => ?_
  cases r1 <;> try exact hm1.elim
  rename_i a vs ps hs rl
  refine ⟨a, rfl, ⟨vs, SqL.of (ok1.sub _ _ hs)⟩, (hq.step s1).here (v := Itl z.K a) (q := ps) ok1 (fun G2 H2 n2 i sg ok2 => ?_) hm1⟩
  have h2 : SqL z.K H2 a vs := SqL.of ((sg.trans ok2.sub) _ _ hs)
  refine ⟨fun hl => ⟨vs, h2, by rw [rl.len]; exact hl⟩, fun q hq => ?_⟩
  obtain ⟨y, hy, ry⟩ := rl.get hq
  refine ⟨⟨vs, y, h2, hy⟩, fun x H3 hx => ?_⟩
  obtain ⟨rfl, hx⟩ := hx
  have := hx vs h2
  rw [hy] at this
  cases this
  exact ⟨G2, ok2, Step.refl _ _ _, ry.mono sg⟩
theorem sim_iTup {tl : TE} {m : PEnv → M PV} (h : SimE z tl m) : SimI z (iTup z.K tl) (mTupI m) := by
  intro σ env G H n Qp Q ok fr er hm hq
  refine h.bind ok fr er hm fun x px G1 H1 n1 ok1 fr1 er1 s1 r1 hm1 => ?_
  cases r1 <;> try exact hm1.elim
  rename_i a vs ps hs rl
  refine ⟨a, rfl, ⟨vs, Ev.Same.seqT ok1.sub hs⟩, (hq.step s1).here (v := Itt z.K a) (q := ps) ok1 (fun G2 H2 n2 i sg ok2 => ?_) hm1⟩
  have h2 := Ev.Same.seqT (sg.trans ok2.sub) hs
  refine ⟨fun hl => ⟨vs, h2, by rw [rl.len]; exact hl⟩, fun q hq => ?_⟩
  obtain ⟨y, hy, ry⟩ := rl.get hq
  refine ⟨⟨vs, y, h2, hy⟩, fun x H3 hx => ?_⟩
  obtain ⟨rfl, hx⟩ := hx
  have := hx vs h2
  rw [hy] at this
  cases this
  exact ⟨G2, ok2, Step.refl _ _ _, ry.mono sg⟩
def rngP (lo : Int) (k : Nat) : List PV := (List.range k).map fun (i : Nat) => .int (lo + i)
theorem rngP_len {lo : Int} {k : Nat} : (rngP lo k).length = k := by simp [rngP]
theorem rngP_get {lo : Int} {k i : Nat} {q : PV} (h : (rngP lo k)[i]? = some q) : i < k ∧ q = .int (lo + i) := by
  unfold rngP at h
  rw [List.getElem?_map] at h
  obtain ⟨j, hj, rfl⟩ := Option.map_eq_some_iff.mp h
  have hl := (List.getElem?_eq_some_iff.mp hj).1
  have e := (List.getElem?_eq_some_iff.mp hj).2
  simp at hl e
  subst e
  exact ⟨hl, rfl⟩
theorem rng_rep {G : Hp} {lo : Int} {k : Nat} : ItRep z G (Itr lo k) (rngP lo k) := fun G2 H2 n2 i sg ok2 => by
  refine ⟨fun hl => by rw [rngP_len] at hl; exact hl, fun q hq => ?_⟩
  obtain ⟨h1, rfl⟩ := rngP_get hq
  refine ⟨h1, fun x H3 hx => ?_⟩
  obtain ⟨rfl, rfl⟩ := hx
  exact ⟨G2, ok2, Step.refl _ _ _, .int _⟩
def mRng1 (r : PEnv → M (List PV)) : PEnv → M (List PV) := fun env W n Q => r env W n fun xs n1 => match xs with
  | [.int j] => -(2 ^ 62) ≤ j ∧ j < 2 ^ 62 ∧ Q (rngP 0 j.toNat) n1
  | _ => False
def mRng2 (r : PEnv → M (List PV)) : PEnv → M (List PV) := fun env W n Q => r env W n fun xs n1 => match xs with
  | [.int i, .int j] => (-(2 ^ 62) ≤ i ∧ i < 2 ^ 62 ∧ -(2 ^ 62) ≤ j ∧ j < 2 ^ 62) ∧ Q (rngP i (j - i).toNat) n1
  | _ => False
theorem sim_iRng1 {ta : TA} {m : PEnv → M (List PV)} (h : SimA z ta m) : SimI z (iRng1 ta) (mRng1 m) := by
  intro σ env G H n Qp Q ok fr er hm hq
  refine h.bind ok fr er hm fun x px G1 H1 n1 ok1 fr1 er1 s1 r1 hm1 => ?_
  split at hm1
  · cases r1 with
    | cons ra rb =>
      cases rb
      cases ra
      exact ⟨_, rfl, hm1.1, hm1.2.1, (hq.step s1).here ok1 rng_rep hm1.2.2⟩
  · exact hm1.elim
theorem sim_iRng2 {ta : TA} {m : PEnv → M (List PV)} (h : SimA z ta m) : SimI z (iRng2 ta) (mRng2 m) := by
  intro σ env G H n Qp Q ok fr er hm hq
  refine h.bind ok fr er hm fun x px G1 H1 n1 ok1 fr1 er1 s1 r1 hm1 => ?_
  split at hm1
  · cases r1 with
    | cons ra rb =>
      cases rb with
      | cons rc rd =>
        cases rd
        cases ra
        cases rc
        exact ⟨_, _, rfl, hm1.1, (hq.step s1).here ok1 rng_rep hm1.2⟩
  · exact hm1.elim
end
end Pu
namespace Pu
open PySem PySem.Spec PyProof.Rows L2
mutual
def PV.data : PV → Option PyData
  | .non => some .none
  | .bl b => some (.bool b)
  | .int i => some (.int i)
  | .str s => some (.str s)
  | .lst xs => (datas xs).map .list
  | .tup xs => (datas xs).map .tuple
  | _ => none
def datas : List PV → Option (List PyData)
  | [] => some []
  | x :: xs => match x.data, datas xs with
    | some d, some ds => some (d :: ds)
    | _, _ => none
end
mutual
theorem dp_of {K : PySem.W.Frag} {cm : Md} {p : Addr} {G H : Hp} (s : Same G H) : ∀ {v : V} {q : PV} {d : PyData}, Rep K cm p G v q → q.data = some d → Dp K H v d
  | _, _, _, .non, e => by cases e; exact .non
  | _, _, _, .bl b, e => by cases e; exact .bl b
  | _, _, _, .int b, e => by cases e; exact .int b
  | _, _, _, .str b, e => by cases e; exact .str b
  | _, .lst xs, _, .lst h r, e => by
    simp only [PV.data] at e
    obtain ⟨ds, hd, rfl⟩ := Option.map_eq_some_iff.mp e
    exact .lst (SqL.of (s _ _ h)) (dpa_of s r hd)
  | _, .tup xs, _, .tup h r, e => by
    simp only [PV.data] at e
    obtain ⟨ds, hd, rfl⟩ := Option.map_eq_some_iff.mp e
    exact .tup (Ev.Same.seqT s h) (dpa_of s r hd)
  | _, _, _, .ins _ _ _, e => by cases e
  | _, _, _, .pen, e => by cases e
  | _, _, _, .ext _, e => by cases e
theorem dpa_of {K : PySem.W.Frag} {cm : Md} {p : Addr} {G H : Hp} (s : Same G H) : ∀ {v : List V} {q : List PV} {d : List PyData}, RepL K cm p G v q → datas q = some d → DpAll K H v d
  | _, _, _, .nil, e => by cases e; exact .nil
  | _, x :: xs, _, .cons r t, e => by
    simp only [datas] at e
    split at e
    · rename_i d ds h1 h2
      cases e
      exact .cons (dp_of s r h1) (dpa_of s t h2)
    · cases e
end
def pEqD : PV → PV → M PV := fun x y _ n Q => match x.data, y.data with
  | some d, some e => SeqAt.shaped d = true ∧ SeqAt.shaped e = true ∧ Q (.bl (PyData.eqv d e)) n
  | _, _ => False
def pNeD : PV → PV → M PV := fun x y _ n Q => match x.data, y.data with
  | some d, some e => SeqAt.shaped d = true ∧ SeqAt.shaped e = true ∧ Q (.bl (!PyData.eqv d e)) n
  | _, _ => False
def pRepr : List PV → M PV := fun xs _ n Q => match xs with
  | [x] => match x.data with
    | some d => Ev.Shows d ∧ Q (.str d.shown) n
    | none => False
  | _ => False
def toInts : List PV → Option (List Int)
  | [] => some []
  | .int i :: xs => (toInts xs).map (i :: ·)
  | _ => none
def toBools : List PV → Option (List Bool)
  | [] => some []
  | .bl i :: xs => (toBools xs).map (i :: ·)
  | _ => none
theorem ints_of {K : PySem.W.Frag} {cm : Md} {p : Addr} {G : Hp} : ∀ {v : List V} {q : List PV} {ns : List Int}, RepL K cm p G v q → toInts q = some ns → v = ns.map V.int
  | _, _, _, .nil, e => by cases e; rfl
  | _, .int i :: xs, _, .cons r t, e => by
    simp only [toInts] at e
    obtain ⟨ms, hm, rfl⟩ := Option.map_eq_some_iff.mp e
    cases r
    rw [ints_of t hm]
    rfl
  | _, .non :: _, _, .cons _ _, e => by simp [toInts] at e
  | _, .bl _ :: _, _, .cons _ _, e => by simp [toInts] at e
  | _, .str _ :: _, _, .cons _ _, e => by simp [toInts] at e
  | _, .lst _ :: _, _, .cons _ _, e => by simp [toInts] at e
  | _, .tup _ :: _, _, .cons _ _, e => by simp [toInts] at e
  | _, .ins _ _ :: _, _, .cons _ _, e => by simp [toInts] at e
  | _, .pen :: _, _, .cons _ _, e => by simp [toInts] at e
  | _, .ext _ :: _, _, .cons _ _, e => by simp [toInts] at e
theorem bools_of {K : PySem.W.Frag} {cm : Md} {p : Addr} {G : Hp} : ∀ {v : List V} {q : List PV} {ns : List Bool}, RepL K cm p G v q → toBools q = some ns → v = ns.map V.bl
  | _, _, _, .nil, e => by cases e; rfl
  | _, .bl i :: xs, _, .cons r t, e => by
    simp only [toBools] at e
    obtain ⟨ms, hm, rfl⟩ := Option.map_eq_some_iff.mp e
    cases r
    rw [bools_of t hm]
    rfl
  | _, .non :: _, _, .cons _ _, e => by simp [toBools] at e
  | _, .int _ :: _, _, .cons _ _, e => by simp [toBools] at e
  | _, .str _ :: _, _, .cons _ _, e => by simp [toBools] at e
  | _, .lst _ :: _, _, .cons _ _, e => by simp [toBools] at e
  | _, .tup _ :: _, _, .cons _ _, e => by simp [toBools] at e
  | _, .ins _ _ :: _, _, .cons _ _, e => by simp [toBools] at e
  | _, .pen :: _, _, .cons _ _, e => by simp [toBools] at e
  | _, .ext _ :: _, _, .cons _ _, e => by simp [toBools] at e
def pIxL : PV → PV → M PV := fun x y _ n Q => match x, y with
  | .lst xs, .int i => match atI xs i with
    | some v => Q v n
    | none => False
  | _, _ => False
def pIxT : PV → PV → M PV := fun x y _ n Q => match x, y with
  | .tup xs, .int i => match atI xs i with
    | some v => Q v n
    | none => False
  | _, _ => False
def pIxS : PV → PV → M PV := fun x y _ n Q => match x, y with
  | .str s, .int i => s.length ≤ 1000000 ∧ match atI s.cps.toList i with
    | some c => Q (.str ⟨#[c]⟩) n
    | none => False
  | _, _ => False
def pLen : List PV → M PV := fun xs _ n Q => match xs with
  | [.lst ys] => Q (.int ys.length) n
  | [.tup ys] => Q (.int ys.length) n
  | _ => False
def pLenS : List PV → M PV := fun xs _ n Q => match xs with
  | [.str s] => s.length ≤ 1000000 ∧ Q (.int s.length) n
  | _ => False
def pAbs : List PV → M PV := fun xs _ n Q => match xs with
  | [.int i] => Q (.int (if i < 0 then -i else i)) n
  | _ => False
def pMax2 : List PV → M PV := fun xs _ n Q => match xs with
  | [.int i, .int j] => Q (.int (if j > i then j else i)) n
  | _ => False
def pMin2 : List PV → M PV := fun xs _ n Q => match xs with
  | [.int i, .int j] => Q (.int (if j < i then j else i)) n
  | _ => False
def pInt1 : List PV → M PV := fun xs _ n Q => match xs with
  | [.int i] => Q (.int i) n
  | [.bl b] => Q (.int (if b then 1 else 0)) n
  | _ => False
def pBool1 : List PV → M PV := fun xs _ n Q => match xs with
  | [.int i] => Q (.bl (i != 0)) n
  | [.bl b] => Q (.bl b) n
  | _ => False
def pStr1 : List PV → M PV := fun xs _ n Q => match xs with
  | [.int i] => i.natAbs.log2 < 1920 ∧ Q (.str (toString i)) n
  | _ => False
def pSum : List PV → M PV := fun xs _ n Q => match xs with
  | [.lst ys] => match toInts ys with
    | some ns => Q (.int ns.sum) n
    | none => False
  | _ => False
def pMaxL : List PV → M PV := fun xs _ n Q => match xs with
  | [.lst ys] => match toInts ys with
    | some ns => 0 < ns.length ∧ ∀ m, m ∈ ns → (∀ y, y ∈ ns → y ≤ m) → Q (.int m) n
    | none => False
  | _ => False
def pMinL : List PV → M PV := fun xs _ n Q => match xs with
  | [.lst ys] => match toInts ys with
    | some ns => 0 < ns.length ∧ ∀ m, m ∈ ns → (∀ y, y ∈ ns → m ≤ y) → Q (.int m) n
    | none => False
  | _ => False
def pAll : List PV → M PV := fun xs _ n Q => match xs with
  | [.lst ys] => match toBools ys with
    | some ns => Q (.bl (ns.all id)) n
    | none => False
  | _ => False
def pAny : List PV → M PV := fun xs _ n Q => match xs with
  | [.lst ys] => match toBools ys with
    | some ns => Q (.bl (ns.any id)) n
    | none => False
  | _ => False
def pTuple : List PV → M PV := fun xs _ n Q => match xs with
  | [.lst ys] => Q (.tup ys) n
  | [.tup ys] => Q (.tup ys) n
  | _ => False
def pList : List PV → M PV := fun xs _ n Q => match xs with
  | [.lst ys] => Q (.lst ys) n
  | [.tup ys] => Q (.lst ys) n
  | _ => False
section
variable {z : Z}
theorem simR_eqD : SimR z (rEqD z.K) pEqD := by
  intro σ env G H n Qp Q x y px py ok fr er rx ry hm hq
  unfold pEqD at hm
  split at hm
  · rename_i d e hd he
    exact ⟨d, e, dp_of ok.sub rx hd, dp_of ok.sub ry he, hm.1, hm.2.1, hq.here ok (.bl _) hm.2.2⟩
  · exact hm.elim
theorem simR_neD : SimR z (rNeD z.K) pNeD := by
  intro σ env G H n Qp Q x y px py ok fr er rx ry hm hq
  unfold pNeD at hm
  split at hm
  · rename_i d e hd he
    exact ⟨d, e, dp_of ok.sub rx hd, dp_of ok.sub ry he, hm.1, hm.2.1, hq.here ok (.bl _) hm.2.2⟩
  · exact hm.elim
theorem simC_repr : SimC z (Ev.rRepr z.K) pRepr := by
  intro σ env G H n Qp Q xs ps ok fr er rl hm hq
  unfold pRepr at hm
  split at hm
  · split at hm
    · rename_i d hd
      cases rl with
      | cons r t =>
        cases t
        exact ⟨_, d, rfl, dp_of ok.sub r hd, hm.1, hq.here ok (.str _) hm.2⟩
    · exact hm.elim
  · exact hm.elim
theorem at_rep {G : Hp} {vs : List V} {ps : List PV} {i : Int} {q : PV} (rl : z.repL G vs ps) (h : atI ps i = some q) : ∃ v, atI vs i = some v ∧ z.rep G v q := by
  unfold atI at h ⊢
  rw [rl.len]
  obtain ⟨j, hj, hq⟩ := Option.bind_eq_some_iff.mp h
  obtain ⟨v, hv, rv⟩ := rl.get hq
  exact ⟨v, by rw [hj]; exact hv, rv⟩
theorem simR_ixL : SimR z (rIxL z.K) pIxL := by
  intro σ env G H n Qp Q x y px py ok fr er rx ry hm hq
  cases rx <;> try exact hm.elim
  cases ry <;> try exact hm.elim
  rename_i a vs ps hs rl i
  unfold pIxL at hm
  simp only at hm
  split at hm
  · rename_i v hv
    obtain ⟨w, hw, rw⟩ := at_rep rl hv
    exact ⟨a, vs, i, w, rfl, rfl, SqL.of (ok.sub _ _ hs), hw, hq.here ok rw hm⟩
  · exact hm.elim
theorem simR_ixT : SimR z (rIxT z.K) pIxT := by
  intro σ env G H n Qp Q x y px py ok fr er rx ry hm hq
  cases rx <;> try exact hm.elim
  cases ry <;> try exact hm.elim
  rename_i a vs ps hs rl i
  unfold pIxT at hm
  simp only at hm
  split at hm
  · rename_i v hv
    obtain ⟨w, hw, rw⟩ := at_rep rl hv
    exact ⟨a, vs, i, w, rfl, rfl, Ev.Same.seqT ok.sub hs, hw, hq.here ok rw hm⟩
  · exact hm.elim
theorem simR_ixS : SimR z rIxS pIxS := by
  intro σ env G H n Qp Q x y px py ok fr er rx ry hm hq
  cases rx <;> try exact hm.elim
  cases ry <;> try exact hm.elim
  rename_i s i
  unfold pIxS at hm
  simp only at hm
  obtain ⟨hl, hm⟩ := hm
  split at hm
  · rename_i c hc
    exact ⟨s, i, c, rfl, rfl, line_of hl, hc, hq.here ok (.str _) hm⟩
  · exact hm.elim
theorem simC_len : SimC z (fun xs H Q => ∃ p ys, xs = [.ref p] ∧ (SqL z.K H p ys ∨ SqT z.K H p ys) ∧ Q (.int ys.length) H) pLen := by
  intro σ env G H n Qp Q xs ps ok fr er rl hm hq
  unfold pLen at hm
  split at hm
  · cases rl with
    | cons r t =>
      cases t
      cases r with
      | lst hs rl => exact ⟨_, _, rfl, .inl (SqL.of (ok.sub _ _ hs)), hq.here ok (.int _) (by rw [rl.len]; exact hm)⟩
  · cases rl with
    | cons r t =>
      cases t
      cases r with
      | tup hs rl => exact ⟨_, _, rfl, .inr (Ev.Same.seqT ok.sub hs), hq.here ok (.int _) (by rw [rl.len]; exact hm)⟩
  · exact hm.elim
theorem simC_lenS : SimC z (fun xs H Q => ∃ s, xs = [.str s] ∧ s.length ≤ sizeLine ∧ Q (.int s.length) H) pLenS := by
  intro σ env G H n Qp Q xs ps ok fr er rl hm hq
  unfold pLenS at hm
  split at hm
  · cases rl with
    | cons r t =>
      cases t
      cases r
      exact ⟨_, rfl, line_of hm.1, hq.here ok (.int _) hm.2⟩
  · exact hm.elim
theorem simC_abs : SimC z (fun xs H Q => ∃ i, xs = [.int i] ∧ Q (.int (if i < 0 then -i else i)) H) pAbs := by
  intro σ env G H n Qp Q xs ps ok fr er rl hm hq
  unfold pAbs at hm
  split at hm
  · cases rl with
    | cons r t =>
      cases t
      cases r
      exact ⟨_, rfl, hq.here ok (.int _) hm⟩
  · exact hm.elim
theorem simC_max2 : SimC z (fun xs H Q => ∃ i j, xs = [.int i, .int j] ∧ Q (.int (if j > i then j else i)) H) pMax2 := by
  intro σ env G H n Qp Q xs ps ok fr er rl hm hq
  unfold pMax2 at hm
  split at hm
  · cases rl with
    | cons r t =>
      cases t with
      | cons r2 t =>
        cases t
        cases r
        cases r2
        exact ⟨_, _, rfl, hq.here ok (.int _) hm⟩
  · exact hm.elim
theorem simC_min2 : SimC z (fun xs H Q => ∃ i j, xs = [.int i, .int j] ∧ Q (.int (if j < i then j else i)) H) pMin2 := by
  intro σ env G H n Qp Q xs ps ok fr er rl hm hq
  unfold pMin2 at hm
  split at hm
  · cases rl with
    | cons r t =>
      cases t with
      | cons r2 t =>
        cases t
        cases r
        cases r2
        exact ⟨_, _, rfl, hq.here ok (.int _) hm⟩
  · exact hm.elim
theorem simC_int1 : SimC z (fun xs H Q => (∃ i, xs = [.int i] ∧ Q (.int i) H) ∨ ∃ k, xs = [.bl k] ∧ Q (.int (if k then 1 else 0)) H) pInt1 := by
  intro σ env G H n Qp Q xs ps ok fr er rl hm hq
  unfold pInt1 at hm
  split at hm
  · cases rl with
    | cons r t =>
      cases t
      cases r
      exact .inl ⟨_, rfl, hq.here ok (.int _) hm⟩
  · cases rl with
    | cons r t =>
      cases t
      cases r
      exact .inr ⟨_, rfl, hq.here ok (.int _) hm⟩
  · exact hm.elim
theorem simC_bool1 : SimC z (fun xs H Q => (∃ i, xs = [.int i] ∧ Q (.bl (i != 0)) H) ∨ ∃ k, xs = [.bl k] ∧ Q (.bl k) H) pBool1 := by
  intro σ env G H n Qp Q xs ps ok fr er rl hm hq
  unfold pBool1 at hm
  split at hm
  · cases rl with
    | cons r t =>
      cases t
      cases r
      exact .inl ⟨_, rfl, hq.here ok (.bl _) hm⟩
  · cases rl with
    | cons r t =>
      cases t
      cases r
      exact .inr ⟨_, rfl, hq.here ok (.bl _) hm⟩
  · exact hm.elim
theorem simC_str1 : SimC z (fun xs H Q => ∃ i : Int, xs = [.int i] ∧ i.natAbs.log2 < 1920 ∧ Q (.str (toString i)) H) pStr1 := by
  intro σ env G H n Qp Q xs ps ok fr er rl hm hq
  unfold pStr1 at hm
  split at hm
  · cases rl with
    | cons r t =>
      cases t
      cases r
      exact ⟨_, rfl, hm.1, hq.here ok (.str _) hm.2⟩
  · exact hm.elim
theorem simC_sum : SimC z (rSum z.K) pSum := by
  intro σ env G H n Qp Q xs ps ok fr er rl hm hq
  unfold pSum at hm
  split at hm
  · cases rl with
    | cons r t =>
      cases t
      cases r with
      | lst hs rl =>
        split at hm
        · rename_i ns hn
          have e := ints_of rl hn
          subst e
          exact ⟨_, ns, rfl, SqL.of (ok.sub _ _ hs), hq.here ok (.int _) hm⟩
        · exact hm.elim
  · exact hm.elim
theorem simC_maxL : SimC z (rMax z.K) pMaxL := by
  intro σ env G H n Qp Q xs ps ok fr er rl hm hq
  unfold pMaxL at hm
  split at hm
  · cases rl with
    | cons r t =>
      cases t
      cases r with
      | lst hs rl =>
        split at hm
        · rename_i ns hn
          have e := ints_of rl hn
          subst e
          exact ⟨_, ns, rfl, SqL.of (ok.sub _ _ hs), hm.1, fun m h1 h2 => hq.here ok (.int _) (hm.2 m h1 h2)⟩
        · exact hm.elim
  · exact hm.elim
theorem simC_minL : SimC z (rMin z.K) pMinL := by
  intro σ env G H n Qp Q xs ps ok fr er rl hm hq
  unfold pMinL at hm
  split at hm
  · cases rl with
    | cons r t =>
      cases t
      cases r with
      | lst hs rl =>
        split at hm
        · rename_i ns hn
          have e := ints_of rl hn
          subst e
          exact ⟨_, ns, rfl, SqL.of (ok.sub _ _ hs), hm.1, fun m h1 h2 => hq.here ok (.int _) (hm.2 m h1 h2)⟩
        · exact hm.elim
  · exact hm.elim
theorem simC_all : SimC z (rAll z.K) pAll := by
  intro σ env G H n Qp Q xs ps ok fr er rl hm hq
  unfold pAll at hm
  split at hm
  · cases rl with
    | cons r t =>
      cases t
      cases r with
      | lst hs rl =>
        split at hm
        · rename_i ns hn
          have e := bools_of rl hn
          subst e
          exact ⟨_, ns, rfl, SqL.of (ok.sub _ _ hs), hq.here ok (.bl _) hm⟩
        · exact hm.elim
  · exact hm.elim
theorem simC_any : SimC z (rAny z.K) pAny := by
  intro σ env G H n Qp Q xs ps ok fr er rl hm hq
  unfold pAny at hm
  split at hm
  · cases rl with
    | cons r t =>
      cases t
      cases r with
      | lst hs rl =>
        split at hm
        · rename_i ns hn
          have e := bools_of rl hn
          subst e
          exact ⟨_, ns, rfl, SqL.of (ok.sub _ _ hs), hq.here ok (.bl _) hm⟩
        · exact hm.elim
  · exact hm.elim
theorem simC_tuple : SimC z (fun xs H Q => ∃ p ys, xs = [.ref p] ∧ ((SqL z.K H p ys ∧ ∀ l, H l = none → Q (.ref l) (upd H l (.tup ys))) ∨ (SqT z.K H p ys ∧ Q (.ref p) H))) pTuple := by
  intro σ env G H n Qp Q xs ps ok fr er rl hm hq
  unfold pTuple at hm
  split at hm
  · cases rl with
    | cons r t =>
      cases t
      cases r with
      | lst hs rl =>
        refine ⟨_, _, rfl, .inl ⟨SqL.of (ok.sub _ _ hs), fun l hl => ?_⟩⟩
        obtain ⟨ok2, s2⟩ := ok.new (o := .tup _) hl nt0_tup
        exact (hq.step s2).here ok2 (.tup (SqT.of upd_same) (rl.mono s2.same)) hm
  · cases rl with
    | cons r t =>
      cases t
      cases r with
      | tup hs rl => exact ⟨_, _, rfl, .inr ⟨Ev.Same.seqT ok.sub hs, hq.here ok (.tup hs rl) hm⟩⟩
  · exact hm.elim
theorem simC_list : SimC z (fun xs H Q => ∃ p ys, xs = [.ref p] ∧ (SqL z.K H p ys ∨ SqT z.K H p ys) ∧ ∀ l, H l = none → Q (.ref l) (upd H l (.lst ys))) pList := by
  intro σ env G H n Qp Q xs ps ok fr er rl hm hq
  unfold pList at hm
  split at hm
  · cases rl with
    | cons r t =>
      cases t
      cases r with
      | lst hs rl =>
        refine ⟨_, _, rfl, .inl (SqL.of (ok.sub _ _ hs)), fun l hl => ?_⟩
        obtain ⟨ok2, s2⟩ := ok.new (o := .lst _) hl nt0_lst
        exact (hq.step s2).here ok2 (.lst upd_same (rl.mono s2.same)) hm
  · cases rl with
    | cons r t =>
      cases t
      cases r with
      | tup hs rl =>
        refine ⟨_, _, rfl, .inr (Ev.Same.seqT ok.sub hs), fun l hl => ?_⟩
        obtain ⟨ok2, s2⟩ := ok.new (o := .lst _) hl nt0_lst
        exact (hq.step s2).here ok2 (.lst upd_same (rl.mono s2.same)) hm
  · exact hm.elim
end
end Pu
namespace Pu
open PySem PySem.Spec PyProof.Rows L2
def pickS {α : Type} (d : α) (ls : List (List α)) (spec : List (Nat × Nat)) : List α := spec.map fun s => (ls.getD s.1 []).getD s.2 d
def pk (dvs ms : List V) (spec : List (Nat × Nat)) : List V → List V → List V := fun vs zs => pickS .non [vs, dvs, ms, zs] spec
def pkS (dvs ms : List V) (spec : List (Nat × Nat)) : List V → List V → List V := fun vs zs => match vs with
  | x :: vs => x :: pickS .non [vs, dvs, ms, zs] spec
  | [] => []
def pkP (dvs ms : List PV) (spec : List (Nat × Nat)) : List PV → List PV → List PV := fun vs zs => pickS .non [vs, dvs, ms, zs] spec
theorem getD_vals {vs : List V} {us : List Value} (h : Vals vs us) (i : Nat) : RelV (vs.getD i .non) (us.getD i .none) := by
  rw [List.getD_eq_getElem?_getD, List.getD_eq_getElem?_getD]
  cases e : vs[i]? with
  | none =>
    rw [h.none_of e]
    rfl
  | some x =>
    obtain ⟨u, hu, r⟩ := h.get e
    rw [hu]
    exact r
theorem pick_vals {a b c d : List V} {a' b' c' d' : List Value} (ha : Vals a a') (hb : Vals b b') (hc : Vals c c') (hd : Vals d d') : ∀ spec : List (Nat × Nat), Vals (pickS .non [a, b, c, d] spec) (pickS .none [a', b', c', d'] spec)
  | [] => .nil
  | (i, j) :: s => by
    refine .cons ?_ (pick_vals ha hb hc hd s)
    match i with
    | 0 => exact getD_vals ha j
    | 1 => exact getD_vals hb j
    | 2 => exact getD_vals hc j
    | 3 => exact getD_vals hd j
    | _ + 4 => exact getD_vals .nil j
theorem getD_rep {z : Z} {G : Hp} {vs : List V} {us : List PV} (h : z.repL G vs us) (i : Nat) : z.rep G (vs.getD i .non) (us.getD i .non) := by
  rw [List.getD_eq_getElem?_getD, List.getD_eq_getElem?_getD]
  cases e : us[i]? with
  | none =>
    have : vs[i]? = none := by
      rw [List.getElem?_eq_none_iff] at e ⊢
      rw [h.len]
      exact e
    rw [this]
    exact .non
  | some x =>
    obtain ⟨u, hu, r⟩ := h.get e
    rw [hu]
    exact r
theorem pick_rep {z : Z} {G : Hp} {a b c d : List V} {a' b' c' d' : List PV} (ha : z.repL G a a') (hb : z.repL G b b') (hc : z.repL G c c') (hd : z.repL G d d') : ∀ spec : List (Nat × Nat), z.repL G (pickS .non [a, b, c, d] spec) (pickS .non [a', b', c', d'] spec)
  | [] => .nil
  | (i, j) :: s => by
    refine .cons ?_ (pick_rep ha hb hc hd s)
    match i with
    | 0 => exact getD_rep ha j
    | 1 => exact getD_rep hb j
    | 2 => exact getD_rep hc j
    | 3 => exact getD_rep hd j
    | _ + 4 => exact getD_rep .nil j
theorem pk_rep {z : Z} {n l : Nat} {dvs ms : List V} {dps mps : List PV} {spec : List (Nat × Nat)} (hd : ∀ G, z.repL G dvs dps) (hm : ∀ G, z.repL G ms mps) : ∀ G vs ps zs qs, ps.length = n → qs.length = l → z.repL G vs ps → z.repL G zs qs → z.repL G (pk dvs ms spec vs zs) (pkP dps mps spec ps qs) :=
  fun G _ _ _ _ _ _ h1 h2 => pick_rep h1 (hd G) (hm G) h2 spec
theorem pkS_rep {z : Z} {n l : Nat} {dvs ms : List V} {dps mps : List PV} {spec : List (Nat × Nat)} (hd : ∀ G, z.repL G dvs dps) (hm : ∀ G, z.repL G ms mps) : ∀ G x vs ps zs qs, ps.length = n → qs.length = l → z.repL G vs ps → z.repL G zs qs → ∃ us, pkS dvs ms spec (.ref x :: vs) zs = .ref x :: us ∧ z.repL G us (pkP dps mps spec ps qs) :=
  fun G _ _ _ _ _ _ _ h1 h2 => ⟨_, rfl, pick_rep h1 (hd G) (hm G) h2 spec⟩
section
variable {K : PySem.W.Frag} {x qual : Str} {params : Arguments} {body : List Stmt} {scope : Scope} {dvs : List V} {kws : List (Str × V)} {f : Addr} {fd : FuncData} {ps : List Str} {n : Nat} {ks : List Str}
def valS (dvs ms : List Value) (spec : List (Nat × Nat)) : List Value → List Value → List Value := fun us ws => match us with
  | x :: us => x :: pickS .none [us, dvs, ms, ws] spec
  | [] => []
theorem pkS_vals {dvs ms : List V} {dvs' ms' : List Value} {spec : List (Nat × Nat)} (hd : Vals dvs dvs') (hm : Vals ms ms') {vs zs : List V} {us ws : List Value} (r1 : Vals vs us) (r2 : Vals zs ws) : Vals (pkS dvs ms spec vs zs) (valS dvs' ms' spec us ws) := by
  cases r1 with
  | nil => exact .nil
  | cons r t => exact .cons r (pick_vals t hd hm r2 spec)
end
section
variable {z : Z}
def mPeek (i : Nat) (m : PEnv → M PV) : PEnv → M PV := fun env W n Q => match env[i]? with
  | some (.own xs) => m (env.set i (.val (.lst xs))) W0 n.lock fun q n1 => q.isAtom = true ∧ Q q (n.back n1)
  | _ => m env W n Q
def mPeekT (i : Nat) (m : PEnv → M Bool) : PEnv → M Bool := fun env W n Q => match env[i]? with
  | some (.own xs) => m (env.set i (.val (.lst xs))) W0 n.lock fun b n1 => Q b (n.back n1)
  | _ => m env W n Q
theorem peek_core {α β : Type} {R : Hp → α → β → Prop} {t : L2.St → Hp → (α → Hp → Prop) → Prop} {m : PEnv → M β} {σ : L2.St} {env : PEnv} {G H : Hp} {n : SN} {i : Nat} {xs : List PV} {Qp : β → SN → Prop} {Q : α → Hp → Prop} (hz : z.W = fun _ => W0) (h : Sim z.lock R t m) (ok : Ok z.K z.cm z.p z.c G H n) (fr : Fr z G H) (er : EnvRel z G H σ env) (he : env[i]? = some (.own xs))
    (hm : m (env.set i (.val (.lst xs))) W0 n.lock Qp) (hq : ∀ v q G' H' n', Ok z.K z.cm z.p z.c G H' (n.back n') → Step z.cm z.c (· = z.p) G H G H' → R G' v q → Qp q n' → Q v H') : t σ H Q := by
  obtain ⟨G', sg, ok', fr', er'⟩ := er.freeze ok fr he
  refine h σ _ G' H n.lock Qp Q ok'.lock fr'.lockd er'.lockd (by show m _ (z.W _) _ _; rw [hz]; exact hm) fun v q G2 H2 n2 ok2 st2 r2 hq2 => ?_
  exact hq v q G2 H2 n2 (ok.unlock ok2 st2 (sg.trans st2.same)) ⟨Same.refl _, fun b o e nb nt => st2.keep b o e nb ⟨nt.1, fun _ => rfl⟩, fun _ _ e _ => e, st2.al⟩ r2 hq2
end
def PV.tyName : PV → Option String
  | .non => some "NoneType"
  | .bl _ => some "bool"
  | .int _ => some "int"
  | .str _ => some "str"
  | .lst _ => some "list"
  | .tup _ => some "tuple"
  | .dct _ => some "dict"
  | _ => none
def PV.isTy (T : String) : PV → Option Bool
  | .ins _ _ => some false
  | x => x.tyName.map fun t => t == T || (t == "bool" && T == "int")
def PV.isCls (sub : Str → Str → Bool) (d : Str) : PV → Option Bool
  | .ins c _ => some (sub c d)
  | x => x.tyName.map fun _ => false
def mIsiT (T : String) (a : PEnv → M PV) : PEnv → M PV := fun env W n Q => a env W n fun x n1 => match x.isTy T with
  | some b => Q (.bl b) n1
  | none => False
def mIsiT2 (T U : String) (a : PEnv → M PV) : PEnv → M PV := fun env W n Q => a env W n fun x n1 => match x.isTy T, x.isTy U with
  | some b, some c => Q (.bl (b || c)) n1
  | _, _ => False
def mIsiC (sub : Str → Str → Bool) (d : Str) (a : PEnv → M PV) : PEnv → M PV := fun env W n Q => a env W n fun x n1 => match x.isCls sub d with
  | some b => Q (.bl b) n1
  | none => False
def BTys : List String := ["NoneType", "bool", "int", "str", "list", "tuple", "dict"]
section
variable {z : Z}
theorem tyx_of {G H : Hp} {x : V} {q : PV} {t : String} (s : Same G H) (r : z.rep G x q) (h : q.tyName = some t) : TyX z.K H x (.type t) := by
  cases r <;> simp [PV.tyName] at h <;> subst h
  · exact .base .non
  · exact .base (.bl _)
  · exact .base (.int _)
  · exact .base (.str _)
  · rename_i hs _
    exact Ev.sql_ty (SqL.of (s _ _ hs))
  · rename_i hs _
    exact Ev.sqt_ty (Ev.Same.seqT s hs)
  · rename_i hs _
    exact .base (.dK (s _ _ hs))
theorem isi_core (hk : ∀ c C, z.cm c = some C → Ev.CI z.K C ∧ ∀ T ∈ BTys, PySem.W.kitOne z.K (.ref C) (.type T) = some false) {G H : Hp} {x : V} {q : PV} {U : String} {c : Bool} (s : Same G H) (r : z.rep G x q) (hu : q.isTy U = some c) :
    ∃ t, TyX z.K H x t ∧ ∀ (T : String) (b : Bool), T ∈ BTys → q.isTy T = some b → PySem.W.kitOne z.K t (.type T) = some b := by
  have key : ∀ t : String, q.tyName = some t → (∀ T, q.isTy T = some (t == T || (t == "bool" && T == "int"))) → ∃ t, TyX z.K H x t ∧ ∀ (T : String) (b : Bool), T ∈ BTys → q.isTy T = some b → PySem.W.kitOne z.K t (.type T) = some b := fun t ht hb => by
    refine ⟨_, tyx_of s r ht, fun T b hT hq => ?_⟩
    rw [hb T] at hq
    cases hq
    have ht' : t ∈ BTys := by
      cases q <;> simp [PV.tyName] at ht <;> subst ht <;> decide
    simp only [BTys, List.mem_cons, List.not_mem_nil, or_false] at hT ht'
    rcases hT with rfl | rfl | rfl | rfl | rfl | rfl | rfl <;> rcases ht' with rfl | rfl | rfl | rfl | rfl | rfl | rfl <;> exact kit_ty (by decide +kernel)
  cases q with
  | ins c fs =>
    cases r with
    | ins hc hg rf =>
      obtain ⟨ci, k⟩ := hk _ _ hc
      refine ⟨_, ci.ty (s _ _ hg), fun T b hT hq => ?_⟩
      simp only [PV.isTy, Option.some.injEq] at hq
      subst hq
      exact k T hT
  | exc c fs => simp [PV.isTy, PV.tyName] at hu
  | pen => simp [PV.isTy, PV.tyName] at hu
  | ext v => simp [PV.isTy, PV.tyName] at hu
  | mob v => simp [PV.isTy, PV.tyName] at hu
  | non => exact key _ rfl fun T => rfl
  | bl v => exact key _ rfl fun T => rfl
  | int v => exact key _ rfl fun T => rfl
  | str v => exact key _ rfl fun T => rfl
  | lst v => exact key _ rfl fun T => rfl
  | tup v => exact key _ rfl fun T => rfl
  | dct v => exact key _ rfl fun T => rfl
theorem sim_isiT {T : String} {ta : TE} {ma : PEnv → M PV} (hT : T ∈ BTys) (hk : ∀ c C, z.cm c = some C → Ev.CI z.K C ∧ ∀ T ∈ BTys, PySem.W.kitOne z.K (.ref C) (.type T) = some false) (ha : SimE z ta ma) : SimE z (tCB (rIsi z.K) (tCons ta (tCons (tC (.ty T)) tNil))) (mIsiT T ma) := by
  intro σ env G H n Qp Q ok fr er hm hq
  refine ha.bind ok fr er hm fun x px G1 H1 n1 ok1 fr1 er1 s1 r1 hm1 => ?_
  split at hm1
  · rename_i b hb
    obtain ⟨t, ty, kit⟩ := isi_core hk ok1.sub r1 hb
    exact ⟨x, .ty T, t, .type T, b, rfl, .ty _, ty, kit T b hT hb, (hq.step s1).here ok1 (.bl _) hm1⟩
  · exact hm1.elim
theorem sim_isiT2 {T U : String} {ta : TE} {ma : PEnv → M PV} (hT : T ∈ BTys) (hU : U ∈ BTys) (hk : ∀ c C, z.cm c = some C → Ev.CI z.K C ∧ ∀ T ∈ BTys, PySem.W.kitOne z.K (.ref C) (.type T) = some false) (ha : SimE z ta ma) :
    SimE z (tCB (rIsiT z.K) (tCons ta (tCons (tTup (tCons (tC (.ty T)) (tCons (tC (.ty U)) tNil))) tNil))) (mIsiT2 T U ma) := by
  intro σ env G H n Qp Q ok fr er hm hq
  refine ha.bind ok fr er hm fun x px G1 H1 n1 ok1 fr1 er1 s1 r1 hm1 => ?_
  split at hm1
  · rename_i b c hb hc
    refine ⟨by show 2 ≤ sizeLine; decide, fun q hq1 => ?_⟩
    obtain ⟨ok2, s2⟩ := ok1.newO (o := .tup [.ty T, .ty U]) hq1
    obtain ⟨t, ty, kit⟩ := isi_core hk ok2.sub r1 hb
    exact ⟨x, q, [.ty T, .ty U], t, [.type T, .type U], b || c, rfl, upd_same, .cons (.ty _) (.cons (.ty _) .nil), ty, Ev.kit_any2 (kit T b hT hb) (kit U c hU hc), ((hq.step s1).step s2).here ok2 (.bl _) hm1⟩
  · exact hm1.elim
theorem sim_isiC {sub : Str → Str → Bool} {d : Str} {D : Addr} {ta : TE} {ma : PEnv → M PV} (hd : z.cm d = some D) (hk : ∀ c C, z.cm c = some C → Ev.CI z.K C ∧ PySem.W.kitOne z.K (.ref C) (.ref D) = some (sub c d)) (ha : SimE z ta ma) : SimE z (tCB (rIsi z.K) (tCons ta (tCons (tC (.ref D)) tNil))) (mIsiC sub d ma) := by
  intro σ env G H n Qp Q ok fr er hm hq
  refine ha.bind ok fr er hm fun x px G1 H1 n1 ok1 fr1 er1 s1 r1 hm1 => ?_
  split at hm1
  · rename_i b hb
    have ciD := (hk d D hd).1
    have key : ∀ t : String, px.tyName = some t → b = false → Q (.bl b) H1 → rIsi z.K [x, .ref D] H1 Q := fun t ht e q => by
      subst e
      refine ⟨x, .ref D, .type t, .ref D, false, rfl, .own _, tyx_of ok1.sub r1 ht, Ev.kit_tyo ciD ?_, q⟩
      cases px <;> simp [PV.tyName] at ht <;> subst ht <;> decide +kernel
    have q := (hq.step s1).here ok1 (.bl b) hm1
    cases px with
    | ins c fs =>
      cases r1 with
      | ins hc hg rf =>
        simp only [PV.isCls, Option.some.injEq] at hb
        subst hb
        obtain ⟨ci, k⟩ := hk _ _ hc
        exact ⟨_, .ref D, _, .ref D, _, rfl, .own _, ci.ty (ok1.sub _ _ hg), k, q⟩
    | exc c fs => simp [PV.isCls, PV.tyName] at hb
    | pen => simp [PV.isCls, PV.tyName] at hb
    | ext v => simp [PV.isCls, PV.tyName] at hb
    | mob v => simp [PV.isCls, PV.tyName] at hb
    | non => exact key _ rfl (by simpa [PV.isCls, PV.tyName] using hb.symm) q
    | bl v => exact key _ rfl (by simpa [PV.isCls, PV.tyName] using hb.symm) q
    | int v => exact key _ rfl (by simpa [PV.isCls, PV.tyName] using hb.symm) q
    | str v => exact key _ rfl (by simpa [PV.isCls, PV.tyName] using hb.symm) q
    | lst v => exact key _ rfl (by simpa [PV.isCls, PV.tyName] using hb.symm) q
    | tup v => exact key _ rfl (by simpa [PV.isCls, PV.tyName] using hb.symm) q
    | dct v => exact key _ rfl (by simpa [PV.isCls, PV.tyName] using hb.symm) q
  · exact hm1.elim
end
end Pu
namespace Ev
open PySem PySem.Spec PyProof.Rows L2
section
variable {X : Cx} {CX : CXT} {k j : Nat} {f C : Addr} {sp : Sp} {E : XK}
end
end Ev
namespace Pu
open PySem PySem.Spec PyProof.Rows L2
def pOwnC (cn : Str) (m : List PV → M PV) (g : Bool → Bool) : PV → PV → M PV := fun x y W n Q => match x with
  | .ins c fs => c = cn ∧ (y.isTy "int").isSome = true ∧ m [.ins c fs, y] W n fun v n1 => match v with
    | .bl b => Q (.bl (g b)) n1
    | _ => False
  | _ => False
def pOwn1 (cn : Str) (m : List PV → M PV) (chk : PV → Bool) : PV → M PV := fun x W n Q => match x with
  | .ins c fs => c = cn ∧ m [.ins c fs] W n fun v n1 => chk v = true ∧ Q v n1
  | _ => False
def pC1 (po : PV → M PV) : List PV → M PV := fun xs W n Q => match xs with
  | [x] => po x W n Q
  | _ => False
def PV.isB : PV → Bool
  | .bl _ => true
  | _ => false
def PV.isS : PV → Bool
  | .str _ => true
  | _ => false
def PV.isLen : PV → Bool
  | .int n => decide (0 ≤ n ∧ n < 2 ^ 63)
  | _ => false
section
variable {z : Z}
theorem simR_ownC {cn : Str} {C : Addr} {m : List PV → M PV} {g : Bool → Bool} {E : XK} (hl : Link z E) (hc : z.cm cn = some C) (hn : ∀ d D, z.cm d = some D → Ev.CI z.K D ∧ PySem.W.notFirst z.K C (.ref D) = true) :
    SimR z (Ev.rOwnC z.K C (spP z.K z.cm 2 m) E g) (pOwnC cn m g) := by
  intro σ env G H n Qp Q x y px py ok fr er rx ry hm hq
  cases rx <;> try exact hm.elim
  rename_i a C' dx c vs ps hc' hg rf
  obtain ⟨rfl, hy, hm1⟩ := hm
  rw [hc] at hc'
  cases hc'
  have ty : ∃ t, TyX z.K H y t ∧ PySem.W.notFirst z.K C t = true := by
    have key : ∀ t : String, py.tyName = some t → ∃ t, TyX z.K H y t ∧ PySem.W.notFirst z.K C t = true := fun t ht => by
      refine ⟨_, tyx_of ok.sub ry ht, Ev.nf_ty ?_⟩
      cases py <;> simp [PV.tyName] at ht <;> subst ht <;> decide +kernel
    cases py with
    | ins d fs =>
      cases ry with
      | ins hd hgd rfd =>
        obtain ⟨ci, nf⟩ := hn _ _ hd
        exact ⟨_, ci.ty (ok.sub _ _ hgd), nf⟩
    | exc c fs => simp [PV.isTy, PV.tyName] at hy
    | pen => simp [PV.isTy, PV.tyName] at hy
    | ext v => simp [PV.isTy, PV.tyName] at hy
    | mob v => simp [PV.isTy, PV.tyName] at hy
    | non => exact key _ rfl
    | bl v => exact key _ rfl
    | int v => exact key _ rfl
    | str v => exact key _ rfl
    | lst v => exact key _ rfl
    | tup v => exact key _ rfl
    | dct v => exact key _ rfl
  obtain ⟨t, ty, nf⟩ := ty
  refine ⟨a, dx, vs, t, rfl, ok.sub _ _ hg, ty, nf, z.p, z.c, G, n, _, z.W env, _, rfl, ok, .cons (.ins hc hg rf) (.cons ry .nil), hm1, fun v q G' H' n' ok' st' r' hq' => ?_, fun cn fs C d G' H' n' ok' st' hc rx hw => ?_⟩
  · cases r' <;> try exact hq'.elim
    exact ⟨_, rfl, hq _ _ G' H' n' ok' st' (.bl _) hq'⟩
  · exact hl σ env G' H' n' cn fs C d ok' (fr.stepP st') (er.step st') hc rx hw
theorem simU_own1 {cn : Str} {C : Addr} {m : List PV → M PV} {chk : PV → Bool} {P : V → Prop} {E : XK} (hl : Link z E) (hc : z.cm cn = some C) (hp : ∀ G v q, z.rep G v q → chk q = true → P v) : SimU z (Ev.rOwn1 C (spP z.K z.cm 1 m) E P) (pOwn1 cn m chk) := by
  intro σ env G H n Qp Q x px ok fr er rx hm hq
  cases rx <;> try exact hm.elim
  rename_i a C' dx c vs ps hc' hg rf
  obtain ⟨rfl, hm1⟩ := hm
  rw [hc] at hc'
  cases hc'
  refine ⟨a, dx, vs, rfl, ok.sub _ _ hg, z.p, z.c, G, n, _, z.W env, _, rfl, ok, .cons (.ins hc hg rf) .nil, hm1, fun v q G' H' n' ok' st' r' hq' => ⟨hp _ _ _ r' hq'.1, hq _ _ G' H' n' ok' st' r' hq'.2⟩, fun cn fs C d G' H' n' ok' st' hc rx hw => ?_⟩
  exact hl σ env G' H' n' cn fs C d ok' (fr.stepP st') (er.step st') hc rx hw
theorem simC_1 {r : V → Hp → VK → Prop} {po : PV → M PV} (h : SimU z r po) : SimC z (fun xs H Q => ∃ x, xs = [x] ∧ r x H Q) (pC1 po) := by
  intro σ env G H n Qp Q xs ps ok fr er rl hm hq
  unfold pC1 at hm
  split at hm
  · cases rl with
    | cons r t =>
      cases t
      exact ⟨_, rfl, h σ env G H n Qp Q _ _ ok fr er r hm hq⟩
  · exact hm.elim
theorem isB_of {G : Hp} {v : V} {q : PV} (r : z.rep G v q) (h : q.isB = true) : ∃ b : Bool, v = .bl b := by
  cases r <;> first | exact ⟨_, rfl⟩ | (cases h)
theorem isS_of {G : Hp} {v : V} {q : PV} (r : z.rep G v q) (h : q.isS = true) : ∃ b : Str, v = .str b := by
  cases r <;> first | exact ⟨_, rfl⟩ | (cases h)
theorem isLen_of {G : Hp} {v : V} {q : PV} (r : z.rep G v q) (h : q.isLen = true) : ∃ n : Int, v = .int n ∧ 0 ≤ n ∧ n < 2 ^ 63 := by
  cases r <;> first | exact ⟨_, rfl, of_decide_eq_true h⟩ | (cases h)
theorem link0 {E : XK} (h : z.W = fun _ => W0) : Link z E := fun σ env G H n cn fs C d _ _ _ _ _ hw => by
  rw [h] at hw
  exact hw.elim
end
end Pu
namespace Pu
open PySem PySem.Spec PyProof.Rows L2
section
variable {z : Z}
theorem sim_yes : SimT z tYes mYes := fun σ env G H n Qp Q ok fr er hm hq => hq.here ok rfl hm
theorem simR_ip {f : Int → Int → Int} : SimR z (ipI f) (pI0 fun i j => .int (f i j)) := by
  intro σ env G H n Qp Q x y px py ok fr er rx ry hm hq
  cases rx <;> try exact hm.elim
  cases ry <;> try exact hm.elim
  exact ⟨_, _, rfl, rfl, hq.here ok (.int _) hm⟩
theorem simR_ipadd : SimR z (ipI fun i j => i + j) pAdd := simR_ip
theorem simR_ipsub : SimR z (ipI fun i j => i - j) pSub := simR_ip
end
theorem forL_by {f : PV → MS} {W : PEnv → XP} {D : EndsP} (I : Nat → PEnv → SN → Prop) : ∀ {xs : List PV} {env : PEnv} {n : SN} (j : Nat), I j env n →
    (∀ i x env n, xs[i]? = some x → I (j + i) env n → ∀ N : PEnv → SN → Prop, (∀ env' n', I (j + i + 1) env' n' → N env' n') → f x W { D with nx := N, ct := N, bk := D.nx } env n) → (∀ env n, I (j + xs.length) env n → D.nx env n) → forL f xs W D env n
  | [], env, n, j, h0, _, hd => hd env n h0
  | x :: xs, env, n, j, h0, hs, hd => by
    refine hs 0 x env n rfl h0 _ fun env' n' h' => ?_
    refine forL_by I (j + 1) h' (fun i y env n hi hI N hN => ?_) (fun env n hI => hd env n ?_)
    · exact hs (i + 1) y env n hi (by rw [show j + (i + 1) = j + 1 + i by omega]; exact hI) N fun env' n' h => hN env' n' (by rw [show j + 1 + i + 1 = j + (i + 1) + 1 by omega]; exact h)
    · rw [List.length_cons, show j + (xs.length + 1) = j + 1 + xs.length by omega]
      exact hI
theorem while_by {c : PEnv → M Bool} {b : MS} {W : PEnv → XP} {D : EndsP} {env : PEnv} {n : SN} (I : PEnv → SN → Prop) (μ : PEnv → Nat) (h0 : I env n)
    (hs : ∀ env n, I env n → ∀ N : PEnv → SN → Prop, (∀ env' n', I env' n' → μ env' < μ env → N env' n') → c env (W env) n fun v n1 => if v = true then b W { D with nx := N, ct := N, bk := D.nx } env n1 else D.nx env n1) : mWhile c b W D env n := by
  have key : ∀ k env n, I env n → μ env < k → whN c b k W D env n := by
    intro k
    induction k with
    | zero => intro env n _ h; exact absurd h (Nat.not_lt_zero _)
    | succ k ih =>
      intro env n hI hk
      exact hs env n hI _ fun env' n' hI' hm => ih env' n' hI' (by omega)
  exact ⟨μ env + 1, key _ env n h0 (Nat.lt_succ_self _)⟩
theorem lc_pure {g : PV → PEnv → (PEnv → Prop) → Prop} {t : PEnv → M Bool} {e : PEnv → M PV} {env : PEnv} {n : SN} (f : PV → Option PV) : ∀ {xs : List PV} {Q : List PV → SN → Prop},
    (∀ x ∈ xs, ∀ R : Option PV → SN → Prop, R (f x) n → g x env fun env2 => t env2 W0 n fun b n1 => if b = true then e env2 W0 n1 fun y n2 => R (some y) n2 else R none n1) →
    Q (xs.filterMap f) n → lcL g t e env xs n Q
  | [], _, _, hq => hq
  | x :: xs, Q, h, hq => by
    refine h x List.mem_cons_self (fun o n' => match o with
      | some y => lcL g t e env xs n' fun ys n3 => Q (y :: ys) n3
      | none => lcL g t e env xs n' Q) ?_
    have h' := fun y hy => h y (List.mem_cons_of_mem _ hy)
    cases e1 : f x with
    | none =>
      rw [List.filterMap_cons, e1] at hq
      exact lc_pure f h' hq
    | some y =>
      rw [List.filterMap_cons, e1] at hq
      exact lc_pure (Q := fun ys n3 => Q (y :: ys) n3) f h' hq
theorem big_of {i : Int} (h0 : -1000000000000000000000000000000000000000000000000000000000000000000000000 ≤ i) (h1 : i ≤ 1000000000000000000000000000000000000000000000000000000000000000000000000) : Big i := by
  unfold Big
  exact Nat.lt_of_le_of_lt (show i.natAbs ≤ 1000000000000000000000000000000000000000000000000000000000000000000000000 by omega) (by decide +kernel)
theorem at0 {α : Type} {a : α} {l : List α} : atI (a :: l) 0 = some a := by
  simp only [atI, ixN, List.length_cons]
  rw [if_pos (by decide), if_pos (by omega)]
  rfl
theorem at1 {α : Type} {a b : α} {l : List α} : atI (a :: b :: l) 1 = some b := by
  simp only [atI, ixN, List.length_cons]
  rw [if_pos (by decide), if_pos (by omega)]
  rfl
theorem at2 {α : Type} {a b c : α} {l : List α} : atI (a :: b :: c :: l) 2 = some c := by
  simp only [atI, ixN, List.length_cons]
  rw [if_pos (by decide), if_pos (by omega)]
  rfl
theorem at3 {α : Type} {a b c d : α} {l : List α} : atI (a :: b :: c :: d :: l) 3 = some d := by
  simp only [atI, ixN, List.length_cons]
  rw [if_pos (by decide), if_pos (by omega)]
  rfl
theorem at4 {α : Type} {a b c d e : α} {l : List α} : atI (a :: b :: c :: d :: e :: l) 4 = some e := by
  simp only [atI, ixN, List.length_cons]
  rw [if_pos (by decide), if_pos (by omega)]
  rfl
theorem at5 {α : Type} {a b c d e f : α} {l : List α} : atI (a :: b :: c :: d :: e :: f :: l) 5 = some f := by
  simp only [atI, ixN, List.length_cons]
  rw [if_pos (by decide), if_pos (by omega)]
  rfl
theorem lkSelf {α : Type} {a : Str} {x : α} {l : List (Str × α)} : ((a, x) :: l).lookup a = some x := by
  simp [List.lookup]
theorem at_last {α : Type} {l : List α} {a : α} : atI (l ++ [a]) (-1) = some a := by
  simp only [atI, ixN, List.length_append, List.length_cons, List.length_nil]
  rw [if_neg (by decide), if_pos (by omega)]
  have e : ((-1 : Int) + ((l.length + (0 + 1) : Nat) : Int)).toNat = l.length := by omega
  rw [e]
  simp
end Pu
namespace Pu
open PySem PySem.Spec PyProof.Rows L2
theorem law_rest {K : PySem.W.Frag} {cm : Md} {t : TS} {b : MS} {s0 : V} {H : Hp} {p c : Addr} {Q : VK} {N : Nat} (hs : ∀ z : Z, z.K = K → z.cm = cm → z.W = (fun _ => W0) → SimS z t b) (hp : Ev.Pen H p c 0) (htb : LamX.Tabs cm.T H)
    (hb : b (fun _ => W0) { nx := fun _ _ => False, rt := fun q _ => q = .bl true } (.no :: .val .pen :: List.replicate N .no) ⟨90000, fun _ => none, false⟩) (hk : ∀ H', Q (.bl true) H') : t { nx := fun _ H' => Q .non H', rt := Q } (some s0 :: some (.ref p) :: List.replicate N none) H := by
  refine hs ⟨K, cm, p, ⟨c, false⟩, H, fun _ => none, (· = p), fun _ => W0, fun _ => none, p, p, p, false⟩ rfl rfl rfl _ (.no :: .val .pen :: List.replicate N .no) (fun _ => none) H ⟨90000, fun _ => none, false⟩ _ _ ⟨fun _ _ e => (nomatch e), by simpa using hp, rfl, rfl, htb, fun _ _ e => (nomatch e), ⟨fun _ _ _ e => (nomatch e), fun _ _ e => (nomatch e)⟩, rfl⟩ ⟨Step.refl _ _ _, rfl, Same.refl _, id⟩ ⟨fun i s h => ?_, fun i j s s' a _ hi _ os _ _ _ => ?_, by simp⟩ hb ⟨fun _ _ _ _ _ _ _ _ _ h' => h'.elim, fun v q G' H' n' _ ok' fr' r' h' => ?_, fun _ _ _ _ _ _ _ _ _ h' => h', fun _ _ _ _ _ _ _ _ _ h' => h'⟩
  · match i, h with
    | 0, h =>
      cases h
      exact ⟨_, rfl, trivial⟩
    | 1, h =>
      cases h
      exact ⟨_, rfl, _, rfl, .pen⟩
    | i + 2, h =>
      have h' : (List.replicate N Slot.no)[i]? = some s := h
      rw [List.getElem?_replicate] at h'
      split at h'
      · cases h'
        refine ⟨none, ?_, trivial⟩
        show (List.replicate N (none : Option V))[i]? = some none
        rw [List.getElem?_replicate, if_pos (by assumption)]
      · cases h'
  · match i, hi with
    | 0, hi =>
      cases hi
      cases os
    | 1, hi =>
      cases hi
      cases os
    | i + 2, hi =>
      have h' : (List.replicate N Slot.no)[i]? = some s := hi
      rw [List.getElem?_replicate] at h'
      split at h'
      · cases h'
        cases os
      · cases h'
  · have e : q = .bl true := h'
    subst e
    cases r'
    exact hk H'
theorem law_first {K : PySem.W.Frag} {cm : Md} {t : TS} {b : MS} {a : Addr} {H : Hp} {p c : Addr} {Q : VK} {N : List Str} {x y : Str} (hs : ∀ z : Z, z.K = K → z.cm = cm → z.W = (fun _ => W0) → SimS z t b) (hp : Ev.Pen H p c 0) (htb : LamX.Tabs cm.T H)
    (hb : b (fun _ => W0) { nx := fun _ _ => False, rt := fun q _ => q = .bl true } (.no :: .val .pen :: List.replicate N.length .no) ⟨90000, fun _ => none, false⟩) (hk : ∀ H', Q (.bl true) H') : gName 1 (.ref p) (L2.start (x :: y :: N) [.ref a]) H (t { nx := fun _ H' => Q .non H', rt := Q }) := by
  have h := law_rest (s0 := .ref a) (N := N.length) hs hp htb hb hk
  exact h
theorem cm_nil {P : Str → Addr → Prop} : ∀ c C, ([] : List (Str × Addr)).lookup c = some C → P c C := fun _ _ h => by cases h
theorem cm_cons {P : Str → Addr → Prop} {a : Str} {A : Addr} {l : List (Str × Addr)} (h : P a A) (t : ∀ c C, l.lookup c = some C → P c C) : ∀ c C, ((a, A) :: l).lookup c = some C → P c C := fun c C e => by
  simp only [List.lookup] at e
  split at e
  · rename_i q
    cases e
    rw [beq_iff_eq.mp q]
    exact h
  · exact t c C e
theorem kit_ty_own {K : PySem.W.Frag} {C : Addr} {T : String} {b : Bool} (hT : PySem.W.kitMeta T = true) (h : PySem.W.mroIn K C (.type T) = some b) : PySem.W.kitOne K (.ref C) (.type T) = some b := by
  unfold PySem.W.kitOne
  rw [if_neg (by simp)]
  unfold PySem.W.kitCls
  simp only
  rw [if_pos hT]
  exact h
theorem kt_of {K : PySem.W.Frag} {C : Addr} (h0 : PySem.W.mroIn K C (.type "NoneType") = some false) (h1 : PySem.W.mroIn K C (.type "bool") = some false) (h2 : PySem.W.mroIn K C (.type "int") = some false) (h3 : PySem.W.mroIn K C (.type "str") = some false) (h4 : PySem.W.mroIn K C (.type "list") = some false) (h5 : PySem.W.mroIn K C (.type "tuple") = some false) (h6 : PySem.W.mroIn K C (.type "dict") = some false) :
    ∀ T ∈ BTys, PySem.W.kitOne K (.ref C) (.type T) = some false := by
  intro T hT
  simp only [BTys, List.mem_cons, List.not_mem_nil, or_false] at hT
  rcases hT with rfl | rfl | rfl | rfl | rfl | rfl | rfl
  · exact kit_ty_own (by decide +kernel) h0
  · exact kit_ty_own (by decide +kernel) h1
  · exact kit_ty_own (by decide +kernel) h2
  · exact kit_ty_own (by decide +kernel) h3
  · exact kit_ty_own (by decide +kernel) h4
  · exact kit_ty_own (by decide +kernel) h5
  · exact kit_ty_own (by decide +kernel) h6
theorem ks_mro {K : PySem.W.Frag} {C D : Addr} {b : Bool} (c : Ev.CI K C) (h : PySem.W.mroIn K D (.ref C) = some b) (hs : PySem.W.mroIn K C (.ref C) = some true) : PySem.W.kitOne K (.ref D) (.ref C) = some b := by
  by_cases e : D = C
  · subst e
    rw [hs] at h
    cases h
    exact Ev.kit_self
  · exact Ev.kit_own c e h
end Pu
namespace Ev
open PySem PySem.Spec PyProof.Rows L2
section
variable {X : Cx} {k j : Nat} {E : XK}
def PairI (K : PySem.W.Frag) (D : Addr → Sp → Prop) (E : XK) (J : Hp → Prop) (H : Hp) (u v : V) : Prop := ∃ (p q C dx : Addr) (fs : List (Str × V)) (t : Value) (sp : Sp), D C sp ∧ u = .ref p ∧ v = .ref q ∧ H p = some (.ins C dx fs) ∧ TyX K H v t ∧ PySem.W.notFirst K C t = true ∧ sp [u, v] H (fun w H2 => w = .bl true ∧ J H2) E
def rEqLI (K : PySem.W.Frag) (D : Addr → Sp → Prop) (E : XK) : R2 := fun x y H Q => ∃ (a b : Addr) (xs ys : List V) (J : Hp → Prop), x = .ref a ∧ y = .ref b ∧ J H ∧ (∀ H1, J H1 → H1 a = some (.lst xs) ∧ H1 b = some (.lst ys)) ∧ xs.length = ys.length ∧
  (∀ (i : Nat) (u v : V) (H1 : Hp), J H1 → xs[i]? = some u → ys[i]? = some v → PairI K D E J H1 u v) ∧ ∀ H', J H' → Q (.bl true) H'
end
end Ev
namespace Pu
open PySem PySem.Spec PyProof.Rows L2
def pairsI (ms : List (Str × (List PV → M PV))) : List PV → List PV → Prop
  | [], [] => True
  | .ins c fs :: xs, y :: ys => (y.isTy "int").isSome = true ∧ (match y with | .ins _ _ => True | _ => False) ∧ (match ms.lookup c with
    | some m => ∀ n, m [.ins c fs, y] W0 n fun v n1 => v = .bl true ∧ n1 = n
    | none => False) ∧ pairsI ms xs ys
  | _, _ => False
def pEqLI (ms : List (Str × (List PV → M PV))) : PV → PV → M PV := fun x y _ n Q => match x, y with
  | .lst xs, .lst ys => pairsI ms xs ys ∧ Q (.bl true) n
  | _, _ => False
section
variable {z : Z}
theorem pairs_of {G H0 : Hp} {n : SN} {ms : List (Str × (List PV → M PV))} {D : Addr → Sp → Prop} {E : XK} {J : Hp → Prop} (hJ : ∀ G1 H1 G' H', Step z.cm z.c (· = z.p) G H0 G1 H1 → Ok z.K z.cm z.p z.c G' H' n → Step z.cm z.c (· = z.p) G1 H1 G' H' → J H')
    (hD : ∀ c m C, ms.lookup c = some m → z.cm c = some C → D C (spP z.K z.cm 2 m)) (hn : ∀ c C m d D', ms.lookup c = some m → z.cm c = some C → z.cm d = some D' → Ev.CI z.K D' ∧ PySem.W.notFirst z.K C (.ref D') = true) :
    ∀ {xs ys : List PV} {us vs : List V}, z.repL G us xs → z.repL G vs ys → pairsI ms xs ys → us.length = vs.length ∧ ∀ (i : Nat) (u v : V) (G1 H1 : Hp), Step z.cm z.c (· = z.p) G H0 G1 H1 → Ok z.K z.cm z.p z.c G1 H1 n → us[i]? = some u → vs[i]? = some v → Ev.PairI z.K D E J H1 u v
  | [], [], _, _, .nil, .nil, _ => ⟨rfl, fun i u v G1 H1 _ _ h _ => by simp at h⟩
  | [], _ :: _, _, _, .nil, .cons _ _, h => h.elim
  | .ins c fs :: xs, [], _, _, .cons _ _, .nil, h => h.elim
  | .ins c fs :: xs, y :: ys, _, _, .cons r rs, .cons r2 rs2, h => by
    obtain ⟨hy, hy2, hm, ht⟩ := h
    obtain ⟨e, k⟩ := pairs_of hJ hD hn rs rs2 ht
    refine ⟨by simp [e], fun i u v G1 H1 st ok hu hv => ?_⟩
    have sg := st.same
    cases i with
    | succ i => exact k i u v G1 H1 st ok (by simpa using hu) (by simpa using hv)
    | zero =>
      simp at hu hv
      subst hu hv
      cases y with
      | ins d gs =>
        cases r with
        | ins hc hg rf =>
          cases r2 with
          | ins hd hg2 rf2 =>
            split at hm
            · rename_i m hl
              obtain ⟨ci, nf⟩ := hn _ _ _ _ _ hl hc hd
              refine ⟨_, _, _, _, _, _, _, hD _ _ _ hl hc, rfl, rfl, ok.sub _ _ (sg _ _ hg), ci.ty (ok.sub _ _ (sg _ _ hg2)), nf, z.p, z.c, G1, n, _, W0, _, rfl, ok, .cons (.ins hc (sg _ _ hg) (rf.mono sg)) (.cons (.ins hd (sg _ _ hg2) (rf2.mono sg)) .nil), hm n, fun v q G' H' n' ok' st' r' hq' => ?_, fun cn fs C d G' H' n' ok' st' hc rx hw => hw.elim⟩
              obtain ⟨rfl, rfl⟩ := hq'
              cases r'
              exact ⟨rfl, hJ G1 H1 G' H' st ok' st'⟩
            · exact hm.elim
      | _ => exact hy2.elim
theorem simR_eqLI {ms : List (Str × (List PV → M PV))} {D : Addr → Sp → Prop} {E : XK} (hD : ∀ c m C, ms.lookup c = some m → z.cm c = some C → D C (spP z.K z.cm 2 m)) (hn : ∀ c C m d D', ms.lookup c = some m → z.cm c = some C → z.cm d = some D' → Ev.CI z.K D' ∧ PySem.W.notFirst z.K C (.ref D') = true) :
    SimR z (Ev.rEqLI z.K D E) (pEqLI ms) := by
  intro σ env G H n Qp Q x y px py ok fr er rx ry hm hq
  cases rx <;> try exact hm.elim
  cases ry <;> try exact hm.elim
  rename_i a us xs ha ru b vs ys hb rv
  obtain ⟨hp, hm⟩ := hm
  obtain ⟨el, k⟩ := pairs_of (J := fun H1 => ∃ G1, Ok z.K z.cm z.p z.c G1 H1 n ∧ Step z.cm z.c (· = z.p) G H G1 H1) (D := D) (E := E) (G := G) (H0 := H) (n := n) (fun G1 H1 G' H' s1 ok' s' => ⟨G', ok', s1.trans s' fun _ x => x⟩) hD hn ru rv hp
  exact ⟨a, b, us, vs, fun H1 => ∃ G1, Ok z.K z.cm z.p z.c G1 H1 n ∧ Step z.cm z.c (· = z.p) G H G1 H1, rfl, rfl, ⟨G, ok, Step.refl _ _ _⟩, fun H1 ⟨G1, ok1, s1⟩ => ⟨ok1.sub _ _ (s1.same _ _ ha), ok1.sub _ _ (s1.same _ _ hb)⟩, el, fun i u v H1 ⟨G1, ok1, s1⟩ h1 h2 => k i u v G1 H1 s1 ok1 h1 h2, fun H' ⟨G1, ok1, s1⟩ => hq _ _ G1 H' n ok1 s1 (.bl true) hm⟩
theorem lk_mem {α : Type} {l : List (Str × α)} {c : Str} {m : α} (h : l.lookup c = some m) : (c, m) ∈ l := by
  induction l with
  | nil => cases h
  | cons p l ih =>
    obtain ⟨a, x⟩ := p
    simp only [List.lookup] at h
    split at h
    · rename_i e
      cases h
      rw [beq_iff_eq.mp e]
      exact List.mem_cons_self
    · exact List.mem_cons_of_mem _ (ih h)
end
end Pu
theorem Ev.GM.mono {P : PySem.Program} {w : PySem.World} {K : PySem.W.Frag} {mg : PySem.Str → Option PySem.Value} {base : PySem.Heap} {k j : Nat} {C : PySem.Addr} {m : PySem.Str} {sp : L2.Sp} {dvs : List L2.V} (h : Ev.GM P w K mg base k C m sp dvs) (hk : k ≤ j) : Ev.GM P w K mg base j C m sp dvs :=
  let ⟨f, fd, ps, ds, a, b, c, d⟩ := h.ex
  ⟨f, fd, ps, ds, a, b, c.mono hk, d⟩
namespace Ev
open PySem PySem.Spec PyProof.Rows L2
section
variable {X : Cx} {k j : Nat} {E : XK} {D : Addr → Sp → Prop} {m : Str} {dvs : List V} {pos apos : Pos} {e o : Expr} {es : List Expr} {ta : TE} {t : TA}
def rOwnCD (K : PySem.W.Frag) (D : Addr → Sp → Prop) (E : XK) (g : Bool → Bool) : R2 := fun x y H Q => ∃ C sp, D C sp ∧ rOwnC K C sp E g x y H Q
def rOwn1D (D : Addr → Sp → Prop) (E : XK) (P : V → Prop) : V → Hp → VK → Prop := fun x H Q => ∃ C sp, D C sp ∧ rOwn1 C sp E P x H Q
def tMethD (D : Addr → Sp → Prop) (m : Str) (dvs : List V) (E : XK) (ta : TE) (t : TA) : TE := fun σ H Q => ta σ H fun x H1 => ∃ a C sp dx fs, x = .ref a ∧ D C sp ∧ H1 a = some (.ins C dx fs) ∧ fs.lookup m = none ∧ t σ H1 fun vs H2 => sp (x :: (vs ++ dvs)) H2 Q E
theorem pe_mD {pl : Sem Bool} (c : ∀ C sp, D C sp → GM X.prog X.w X.K X.mg X.base k C m sp dvs) (hgd : X.A.guards = some []) (hr : Room j X.A) (hk : k ≤ j) (hx : Passes (L2.CX X.prog X.w) X E) (he : PE X o ta) (ha : PA X (e :: es) t)
    (hst : starEach (e :: es) X.env = (false, eval e X.env) :: starEach es X.env := by rfl) (hpl : (backTo pos (starEach es X.env)).any (·.1) = false := by rfl)
    (ht : eval (.Call (.Attribute o m apos) (e :: es) [] pos) X.env = (do
      let ov ← eval o X.env
      standAt apos.atName
      let (f, first) ← holding [ov] (getMethod ov m pl)
      callWith pos f first (backTo pos (starEach (e :: es) X.env)) (backToKw pos (keywordEach [] X.env))) := by rfl) :
    PE X (.Call (.Attribute o m apos) (e :: es) [] pos) (tMethD D m dvs E ta t) := by
  refine ⟨fun pins s σ H Q I h => PySem.W.methodCall_KW (pl := pl) (thn (he.run pins s σ H _ I h) fun u s1 ⟨x, H1, I1, rx, a, C, sp, dx, fs, ex, hD, ea, l, q⟩ => ?_) ht⟩
  subst ex
  cases rx
  obtain ⟨_, _, _, _, hc, hm, F, b, d⟩ := (c C sp hD).ex
  exact getmeth_ok I1 ea hc hm l (PySem.W.callWith_K (first := [.ref a]) (h₀ := X.base) I.ok.mod.kin hm.kp (thn (ha.run pos pins s1 σ H1 _ I1 q) fun us s2 ⟨vs, H2, I2, r, q2⟩ =>
    ⟨I2.kIn, run_gp (us := .ref a :: us) (vs := .ref a :: vs) F hgd (hr.mono hk) b d hx I2 (.cons rfl r) q2⟩) hst hpl)
end
end Ev
namespace Pu
open PySem PySem.Spec PyProof.Rows L2
abbrev Ms := List (Str × (List PV → M PV))
def pOwnCD (ms : Ms) (g : Bool → Bool) : PV → PV → M PV := fun x y W n Q => match x with
  | .ins c fs => match ms.lookup c with
    | some m => pOwnC c m g (.ins c fs) y W n Q
    | none => False
  | _ => False
def pOwn1D (ms : Ms) (chk : PV → Bool) : PV → M PV := fun x W n Q => match x with
  | .ins c fs => match ms.lookup c with
    | some m => pOwn1 c m chk (.ins c fs) W n Q
    | none => False
  | _ => False
def mMethD (ms : Ms) (f : Str) (k : Nat) (dps : List PV) (a : PEnv → M PV) (r : PEnv → M (List PV)) : PEnv → M PV := fun env W n Q => a env W n fun x n1 => match x with
  | .ins c fs => match ms.lookup c with
    | some m => fs.lookup f = none ∧ r env W n1 fun args n2 => (args ++ dps).length + 1 = k ∧ m (.ins c fs :: (args ++ dps)) W n2 Q
    | none => False
  | _ => False
section
variable {z : Z} {ms : Ms} {D : Addr → Sp → Prop} {E : XK}
theorem simR_ownCD {g : Bool → Bool} (hl : Link z E) (hD : ∀ c m C, ms.lookup c = some m → z.cm c = some C → D C (spP z.K z.cm 2 m)) (hn : ∀ c C m d D', ms.lookup c = some m → z.cm c = some C → z.cm d = some D' → Ev.CI z.K D' ∧ PySem.W.notFirst z.K C (.ref D') = true) :
    SimR z (Ev.rOwnCD z.K D E g) (pOwnCD ms g) := by
  intro σ env G H n Qp Q x y px py ok fr er rx ry hm hq
  cases rx <;> try exact hm.elim
  rename_i a C dx c vs ps hc hg rf
  unfold pOwnCD at hm
  simp only at hm
  split at hm
  · rename_i m hlk
    exact ⟨C, _, hD c m C hlk hc, simR_ownC hl hc (fun d D' hd => hn c C m d D' hlk hc hd) σ env G H n Qp Q _ _ _ _ ok fr er (.ins hc hg rf) ry hm hq⟩
  · exact hm.elim
theorem simU_own1D {chk : PV → Bool} {P : V → Prop} (hl : Link z E) (hD : ∀ c m C, ms.lookup c = some m → z.cm c = some C → D C (spP z.K z.cm 1 m)) (hp : ∀ G v q, z.rep G v q → chk q = true → P v) : SimU z (Ev.rOwn1D D E P) (pOwn1D ms chk) := by
  intro σ env G H n Qp Q x px ok fr er rx hm hq
  cases rx <;> try exact hm.elim
  rename_i a C dx c vs ps hc hg rf
  unfold pOwn1D at hm
  simp only at hm
  split at hm
  · rename_i m hlk
    exact ⟨C, _, hD c m C hlk hc, simU_own1 hl hc hp σ env G H n Qp Q _ _ ok fr er (.ins hc hg rf) hm hq⟩
  · exact hm.elim
theorem sim_methD {f : Str} {k : Nat} {dvs : List V} {dps : List PV} {ta : TE} {tr : TA} {ma : PEnv → M PV} {mr : PEnv → M (List PV)} (hl : Link z E) (hD : ∀ c m C, ms.lookup c = some m → z.cm c = some C → D C (spP z.K z.cm k m)) (hd : ∀ G, z.repL G dvs dps) (ha : SimE z ta ma) (hr : SimA z tr mr) :
    SimE z (Ev.tMethD D f dvs E ta tr) (mMethD ms f k dps ma mr) := by
  intro σ env G H n Qp Q ok fr er hm hq
  refine ha.bind ok fr er hm fun x px G1 H1 n1 ok1 fr1 er1 s1 r1 hm1 => ?_
  cases r1 <;> try exact hm1.elim
  rename_i a C dx c vs ps hc hg rf
  simp only at hm1
  split at hm1
  · rename_i m hlk
    obtain ⟨hf, hm1⟩ := hm1
    have hlv : vs.lookup f = none := by
      rcases rf.look (f := f) with ⟨_, e⟩ | ⟨x, y, e, _⟩
      · exact e
      · rw [hf] at e
        cases e
    refine ⟨a, C, _, dx, vs, rfl, hD c m C hlk hc, ok1.sub _ _ hg, hlv, ?_⟩
    refine hr.bind ok1 fr1 er1 hm1 fun us args G2 H2 n2 ok2 fr2 er2 s2 r2 hm2 => ?_
    have rr : z.repL G2 (.ref a :: (us ++ dvs)) (.ins c ps :: (args ++ dps)) := .cons (.ins hc (s2.same _ _ hg) (rf.mono s2.same)) (r2.append (hd G2))
    refine ⟨z.p, z.c, G2, n2, _, z.W env, Qp, rr.len.trans (by rw [List.length_cons]; exact hm2.1), ok2, rr, hm2.2, fun v q G' H' n' ok' st' r' hq' => ((hq.step s1).step s2) v q G' H' n' ok' st' r' hq', fun cn fs C d G' H' n' ok' st' hc rx hw => ?_⟩
    exact hl σ env G' H' n' cn fs C d ok' (fr2.stepP st') (er2.step st') hc rx hw
  · exact hm1.elim
end
end Pu
namespace Pu
open PySem L2
theorem ati_1_0 {α : Type} {a : α} : atI [a] 0 = some a := rfl
theorem ati_1_m1 {α : Type} {a : α} : atI [a] (-1) = some a := rfl
theorem ati_2_0 {α : Type} {a b : α} : atI [a, b] 0 = some a := rfl
theorem ati_2_1 {α : Type} {a b : α} : atI [a, b] 1 = some b := rfl
theorem ati_2_m1 {α : Type} {a b : α} : atI [a, b] (-1) = some b := rfl
theorem ati_3_0 {α : Type} {a b c : α} : atI [a, b, c] 0 = some a := rfl
theorem ati_3_1 {α : Type} {a b c : α} : atI [a, b, c] 1 = some b := rfl
theorem ati_3_2 {α : Type} {a b c : α} : atI [a, b, c] 2 = some c := rfl
theorem ati_3_m1 {α : Type} {a b c : α} : atI [a, b, c] (-1) = some c := rfl
theorem ati_4_0 {α : Type} {a b c d : α} : atI [a, b, c, d] 0 = some a := rfl
theorem ati_4_1 {α : Type} {a b c d : α} : atI [a, b, c, d] 1 = some b := rfl
theorem ati_4_2 {α : Type} {a b c d : α} : atI [a, b, c, d] 2 = some c := rfl
theorem ati_4_3 {α : Type} {a b c d : α} : atI [a, b, c, d] 3 = some d := rfl
theorem ati_4_m1 {α : Type} {a b c d : α} : atI [a, b, c, d] (-1) = some d := rfl
theorem ati_5_0 {α : Type} {a b c d e : α} : atI [a, b, c, d, e] 0 = some a := rfl
theorem ati_5_1 {α : Type} {a b c d e : α} : atI [a, b, c, d, e] 1 = some b := rfl
theorem ati_5_2 {α : Type} {a b c d e : α} : atI [a, b, c, d, e] 2 = some c := rfl
theorem ati_5_3 {α : Type} {a b c d e : α} : atI [a, b, c, d, e] 3 = some d := rfl
theorem ati_5_4 {α : Type} {a b c d e : α} : atI [a, b, c, d, e] 4 = some e := rfl
theorem ati_5_m1 {α : Type} {a b c d e : α} : atI [a, b, c, d, e] (-1) = some e := rfl
theorem ati_6_0 {α : Type} {a b c d e f : α} : atI [a, b, c, d, e, f] 0 = some a := rfl
theorem ati_6_1 {α : Type} {a b c d e f : α} : atI [a, b, c, d, e, f] 1 = some b := rfl
theorem ati_6_2 {α : Type} {a b c d e f : α} : atI [a, b, c, d, e, f] 2 = some c := rfl
theorem ati_6_3 {α : Type} {a b c d e f : α} : atI [a, b, c, d, e, f] 3 = some d := rfl
theorem ati_6_4 {α : Type} {a b c d e f : α} : atI [a, b, c, d, e, f] 4 = some e := rfl
theorem ati_6_5 {α : Type} {a b c d e f : α} : atI [a, b, c, d, e, f] 5 = some f := rfl
theorem ati_6_m1 {α : Type} {a b c d e f : α} : atI [a, b, c, d, e, f] (-1) = some f := rfl
theorem ati_7_0 {α : Type} {a b c d e f g : α} : atI [a, b, c, d, e, f, g] 0 = some a := rfl
theorem ati_7_1 {α : Type} {a b c d e f g : α} : atI [a, b, c, d, e, f, g] 1 = some b := rfl
theorem ati_7_2 {α : Type} {a b c d e f g : α} : atI [a, b, c, d, e, f, g] 2 = some c := rfl
theorem ati_7_3 {α : Type} {a b c d e f g : α} : atI [a, b, c, d, e, f, g] 3 = some d := rfl
theorem ati_7_4 {α : Type} {a b c d e f g : α} : atI [a, b, c, d, e, f, g] 4 = some e := rfl
theorem ati_7_5 {α : Type} {a b c d e f g : α} : atI [a, b, c, d, e, f, g] 5 = some f := rfl
theorem ati_7_6 {α : Type} {a b c d e f g : α} : atI [a, b, c, d, e, f, g] 6 = some g := rfl
theorem ati_7_m1 {α : Type} {a b c d e f g : α} : atI [a, b, c, d, e, f, g] (-1) = some g := rfl
end Pu
namespace Ev
open PySem PySem.Spec PyProof.Rows L2
structure FnS (P : Program) (K : PySem.W.Frag) (x qual : Str) (st : Stmt) (f cc D : Addr) (fd : FuncData) : Prop where
  ex : ∃ (oc : Value) (od : Option Addr) (dV kV doc pm : Value) (an : Option Addr) (cda : Addr) (ct : Value) (osl : Array (Option Value)) (ccl : Value) (cdd : Option Addr) (vs : Array Value) (ccs : Array (Option Value)) (file : Str) (tf : Tok) (cl : Value) (cld : Option Addr) (csl : Array (Option Value)) (cdD : ClassData),
    fd = PySem.W.ksFn x qual (C8.fnArgs st) (C8.fnBody st) (C8.fnScope st) dV kV doc pm an (.ref cda) ct cc ∧ K.lookup f = some ⟨oc, od, .func fd, osl⟩ ∧ PySem.W.codeIn K (.ref cda) qual = true ∧
    K.lookup cda = some ⟨ccl, cdd, .fields vs, ccs⟩ ∧ vs[2]? = some (.str file tf) ∧ ((P.main.file : Str) == file) = true ∧ K.lookup cc = some ⟨cl, cld, .cell (some (.ref D)), csl⟩ ∧ PySem.W.clsIn K D = some cdD
structure ScS (N P : List Str) (sc : Scope) : Prop where
  kind : sc.kind = .function
  co : sc.isCoroutine = false
  gen : sc.isGenerator = false
  nd : N.Nodup
  pre : N.take P.length = P
  par : ∀ x ∈ P, sc.names.lookup x = some .local
  nocell : ∀ y ∈ sc.names, y.2 ≠ .cell
  free : ∀ y ∈ sc.names, y.2 = .free → y.1 = "__class__"
  cls : sc.names.lookup ("__class__" : Str) = some .free
  sup : sc.names.lookup ("super" : Str) = some .globalImplicit
def cxS (CX : CXT) (P : Program) (w : World) (K : PySem.W.Frag) (mg : Str → Option Value) (base : Heap) (N : List Str) (qual : Str) (scope : Scope) (f cda cc : Addr) (A : Around) (outer : List Env) (s : Shared) (H : Hp) (E : XK) : Cx where
  prog := P
  w := w
  K := K
  mg := mg
  base := base
  A := A.deeper (PySem.W.ksEnv qual scope s.heap.objs.size f (.ref cda) cc)
  N := N
  s_0 := s
  H_0 := H
  env := PySem.W.ksEnv qual scope s.heap.objs.size f (.ref cda) cc
  outer := outer
  stack := PySem.W.ksEnv qual scope s.heap.objs.size f (.ref cda) cc :: outer
  ex := []
  calm := true
  fn := fun x => !(x == "__class__")
  pn := []
  xe := fun e s' => wpAny (model P w) (A.deeper (PySem.W.ksEnv qual scope s.heap.objs.size f (.ref cda) cc)) (leaving (PySem.W.ksEnv qual scope s.heap.objs.size f (.ref cda) cc) e) (fun _ s'' => CX outer H s E e s'') (fun e' s'' => CX outer H s E e' s'') s'
theorem zip_lk {x : Str} {u : Value} : ∀ {ps : List Str} {us : List Value} {i : Nat}, ps.Nodup → ps[i]? = some x → us[i]? = some u → (ps.zip us).reverse.lookup x = some u
  | [], _, _, _, h, _ => by simp at h
  | _ :: _, [], _, _, _, h => by simp at h
  | p :: ps, w :: us, 0, nd, h1, h2 => by
    simp at h1 h2
    subst h1 h2
    rw [List.zip_cons_cons, List.reverse_cons, List.lookup_append]
    have e : (ps.zip us).reverse.lookup p = none := by
      rw [List.lookup_eq_none_iff]
      rintro ⟨a, b⟩ hy
      have := (List.of_mem_zip (List.mem_reverse.mp hy)).1
      have hne : p ≠ a := fun q => (List.nodup_cons.mp nd).1 (q ▸ this)
      simpa using hne
    rw [e]
    simp [List.lookup]
  | p :: ps, w :: us, i + 1, nd, h1, h2 => by
    rw [List.zip_cons_cons, List.reverse_cons, List.lookup_append, zip_lk (i := i) (List.nodup_cons.mp nd).2 (by simpa using h1) (by simpa using h2)]
    rfl
theorem lk1 {y : Str} {cc c : Addr} (h : ([("__class__", cc)] : List (Str × Addr)).lookup y = some c) : y = "__class__" ∧ c = cc := by
  simp only [List.lookup] at h
  split at h
  · rename_i q
    cases h
    exact ⟨beq_iff_eq.mp q, rfl⟩
  · cases h
theorem inv_startS {CX : CXT} {P : Program} {w : World} {K : PySem.W.Frag} {mg : Str → Option Value} {base : Heap} {N ps : List Str} {qual : Str} {scope : Scope} {f cda cc : Addr} {A : Around} {outer : List Env} {s : Shared} {h1 : Heap} {tk : Nat} {H : Hp} {E : XK} {us : List Value} {vs : List V} {oc : Obj} {D : Value}
    (S : ScS N ps scope) (hd : A.handled = none) (e0 : Env0 P w K mg base A outer s H) (hl : vs.length = ps.length) (r : Vals vs us) (hcc : base.get? cc = some oc) (hoc : oc.data = .cell (some D))
    (hns : h1.Ns s.heap.objs.size (fun x => (ps.zip us).reverse.lookup x)) (hk : ∀ b o, s.heap.get? b = some o → h1.get? b = some o) :
    Inv (cxS CX P w K mg base N qual scope f cda cc A outer s H E) [] (L2.start N vs) H { s with heap := h1, toks := tk } := by
  have hpl : ps.length ≤ N.length := by have := congrArg List.length S.pre; rw [List.length_take] at this; omega
  have noA : ∀ b : Addr, b ∉ (cxS CX P w K mg base N qual scope f cda cc A outer s H E).ex := fun b z => absurd (show b ∈ ([] : List Addr) from z) (by simp)
  refine ⟨⟨e0.mod, S.kind, rfl, rfl, Nat.le_refl _, fun y z c h1 h2 => (lk1 h1).1.trans (lk1 h2).1.symm, fun y hy => ?_, fun y c hf h => ?_, fun _ => hd, Around.frames_deeper e0.frames, .inr ⟨rfl, rfl⟩, fun b z => absurd z (noA b), e0.bs, e0.bsz, fun b _ _ => noA b, fun b z => absurd z (noA b), e0.funs, e0.frf⟩,
    rfl, e0.bare, Un.kept hk, ⟨_, hns, fun i y v h1 h2 h3 => ?_⟩, fun y c h => ⟨_, oc, ?_, hoc⟩, e0.hok.fresh (Nat.le_refl _), fun y c h => ?_, fun p hp => absurd (show p ∈ ([] : List (Addr × Obj)) from hp) (by simp), e0.hok.kept hk, ?_⟩
  · have hy : scope.names.lookup y = some .cell ∨ scope.names.lookup y = some .free := hy
    rcases hy with hy | hy
    · exact absurd rfl (S.nocell _ (PySem.mem_of_lookup hy))
    · have := S.free _ (PySem.mem_of_lookup hy) rfl
      refine ⟨cc, ?_⟩
      show ([("__class__", cc)] : List (Str × Addr)).lookup y = some cc
      rw [show y = "__class__" from this]
      simp [List.lookup]
  · have := (lk1 h).1
    subst this
    have hf : (!(("__class__" : Str) == "__class__")) = true := hf
    simp at hf
  · have hi : i < vs.length := by
      unfold L2.start at h2
      by_cases hi : i < vs.length
      · exact hi
      · rw [List.getElem?_append_right (by simpa using hi)] at h2
        rw [List.getElem?_replicate] at h2
        split at h2 <;> cases h2
    have ha : vs[i]? = some v := by
      unfold L2.start at h2
      rw [List.getElem?_append_left (by simpa using hi), List.getElem?_map] at h2
      cases e : vs[i]? with
      | none => rw [e] at h2; cases h2
      | some a => rw [e] at h2; cases h2; rfl
    obtain ⟨u, hu, rv⟩ := r.get ha
    have hp : ps[i]? = some y := by
      rw [← S.pre, List.getElem?_take_of_lt (by omega)]; exact h1
    have ndP : ps.Nodup := by rw [← S.pre]; exact S.nd.sublist (List.take_sublist _ _)
    exact ⟨u, rv, .inl ⟨S.par y (List.mem_of_getElem? hp), zip_lk ndP hp hu⟩⟩
  · rw [(lk1 h).2]
    exact hk _ _ (e0.bs _ _ hcc).1
  · rw [(lk1 h).2]
    exact (e0.bs _ _ hcc).2
  · unfold L2.start
    show _ = N.length
    rw [List.length_append, List.length_map, List.length_replicate]
    omega
theorem wp_app {M : Model} {Γ : PySem.Ctx} {env : Env} {b : List Stmt} {Q : Flow → Pos → Shared → Prop} {E : Value → Pos → Shared → Prop} : ∀ (a : List Stmt) (p : Pos) (s : Shared),
    Sem.wp M Γ (execs a env) (fun f p' s' => match f with | .next => Sem.wp M Γ (execs b env) Q E p' s' | f => Q f p' s') E p s → Sem.wp M Γ (execs (a ++ b) env) Q E p s
  | [], p, s, h => by
    rw [execs_nil, Sem.wp_pure'] at h
    exact h
  | st :: a, p, s, h => by
    rw [execs_cons, Sem.wp_bind'] at h
    rw [List.cons_append, execs_cons, Sem.wp_bind']
    refine Sem.wp_mono M Γ _ (fun f p' s' h' => ?_) (fun _ _ _ h' => h') _ _ h
    cases f with
    | next => exact wp_app a p' s' h'
    | _ => simp only [Sem.wp_pure'] at h' ⊢; exact h'
theorem at_app {M : Model} {A : Around} {c : Code} {env : Env} {a b : List Stmt} {Q : Flow → Shared → Prop} {E : Value → Shared → Prop} {s : Shared}
    (h : PySem.wpAt M A c (execs a env) (fun f s' => match f with | .next => PySem.wpAt M A c (execs b env) Q E s' | f => Q f s') E s) : PySem.wpAt M A c (execs (a ++ b) env) Q E s := fun Γ p hc hΓ => by
  refine wp_app a p s (Sem.wp_mono M Γ _ (fun f p' s' h' => ?_) (fun _ _ _ h' => h') _ _ (h Γ p hc hΓ))
  cases f with
  | next => exact h' Γ p' hc hΓ
  | _ => exact h'
def tSup (D : Addr) (sp : Sp) (dvs : List V) (E : XK) (ta : TA) : TS := fun Dn σ H => ∃ x dx fs, σ[0]? = some (some (.ref x)) ∧ H x = some (.ins D dx fs) ∧ ta σ H fun us H2 => sp (.ref x :: (us ++ dvs)) H2 (fun _ H3 => Dn.nx σ H3) E
structure Sup (P : Program) (K : PySem.W.Frag) (mg : Str → Option Value) (D : Addr) (m : Str) (f2 : Addr) : Prop where
  nm : mg "super" = none
  top : (P.main.scope.names.lookup ("super" : Str)).isSome = false
  boot : bootBuiltins "super" = some (.type "super")
  sub : PySem.W.mroIn K D (.ref D) = some true
  opq : PySem.W.nsIn K cStatics "thirdparty.any" = some none
  find : PySem.W.ks_superIn K D D m = some (some (.ref f2))
  ty : PySem.W.typeIn K (.ref f2) = some (.type "function")
  fi : PySem.W.fnIn K f2 = true
theorem boot_super : bootBuiltins "super" = some (.type "super") := by first | boot_by_name | rfl | kernel_rfl
section
variable {X : Cx} {CX : CXT} {k : Nat} {f2 D q : Addr} {fd : FuncData} {ps : List Str} {sp : Sp} {dvs : List V} {ds : List Value} {E : XK}
theorem run_bound {x : Addr} {pins : List (Addr × Obj)} {σ : L2.St} {H : Hp} {s : Shared} {Q : VK} {us : List Value} {vs : List V} (F : GOk X.prog X.w X.K X.mg X.base CX k f2 fd ps sp) (hgd : X.A.guards = some []) (hr : Room k X.A) (hb : Binds X.K fd ps ds) (hd : Vals dvs ds) (hx : Passes CX X E)
    (I : Inv X ((q, PySem.W.methodObj (.ref f2) (.ref x)) :: pins) σ H s) (r : Vals vs us) (h : sp (.ref x :: (vs ++ dvs)) H Q E) : wpAny (model X.prog X.w) X.A (call (.ref q) us) (EP X pins σ Q) X.xe s := by
  have r2 : Vals (V.ref x :: (vs ++ dvs)) (Value.ref x :: (us ++ ds)) := .cons rfl (r.append hd)
  have hl : ((Value.ref x :: us) ++ ds).length = ps.length := r2.length.symm.trans (F.len _ _ _ _ h)
  have z : wpAny (model X.prog X.w) X.A (call (.ref q) us) (EP X ((q, PySem.W.methodObj (.ref f2) (.ref x)) :: pins) σ Q) X.xe s := by
    refine wpAny_call (PySem.W.method_call (ClX.pin_at I) (codeAny_mono (F.run X.A X.stack s H ⟨.ref x :: us, []⟩ (.ref x :: (us ++ ds)) _ Q E hgd hr I.env0 (hb s (.ref x :: us) I.kIn hl) r2 h) fun res s' hq => ?_))
    match res, hq with
    | .error e, hq => exact hx _ σ H s e s' I hq
    | .ok (.ret u), hq => exact I.after hq
    | .ok .next, hq => exact hq.elim
    | .ok .brk, hq => exact hq.elim
    | .ok .cont, hq => exact hq.elim
  exact thn z fun _ _ y => ClX.unpinE y
end
theorem gfnS {CX : CXT} {P : Program} {w : World} {K : PySem.W.Frag} {mg : Str → Option Value} {base : Heap} {x qual m : Str} {st : Stmt} {f cc D f2 : Addr} {fd fd2 : FuncData} {N ps ps2 : List Str} {k k2 : Nat} {sp sp2 : Sp} {dvs : List V} {ds : List Value}
    {pre post : List Stmt} {p0 p1 apos pos pos' : Pos} {e : Expr} {es : List Expr} {ar : Arg}
    (F : FnS P K x qual st f cc D fd) (S : ScS N ps (C8.fnScope st)) (SP : Sup P K mg D m f2) (hp : ((C8.fnArgs st).posonlyargs ++ (C8.fnArgs st).args).head? = some ar) (hn : N[0]? = some ar.arg) (hpa : (C8.fnScope st).names.lookup ar.arg = some .local) (hcm : (m == ("__class__" : Str)) = false)
    (hbd : C8.fnBody st = pre ++ (.Expr (.Call (.Attribute (.Call (.Name "super" p0) [] [] p1) m apos) (e :: es) [] pos) pos' :: post))
    (len : ∀ vs H Q E, sp vs H Q E → vs.length = ps.length) (F2 : GOk P w K mg base CX k2 f2 fd2 ps2 sp2) (hk2 : k2 ≤ k) (hb2 : Binds K fd2 ps2 ds) (hd2 : Vals dvs ds)
    (hbody : ∀ (cda : Addr) (A : Around) (outer : List Env) (s : Shared) (H : Hp) (vs : List V) (Q : VK) (E : XK), (A.deeper (PySem.W.ksEnv qual (C8.fnScope st) s.heap.objs.size f (.ref cda) cc)).guards = some [] →
      Room k (A.deeper (PySem.W.ksEnv qual (C8.fnScope st) s.heap.objs.size f (.ref cda) cc)) → sp vs H Q E →
      ∃ t1 ta t2 E2, PSs (cxS CX P w K mg base N qual (C8.fnScope st) f cda cc A outer s H E) pre t1 ∧ PA (cxS CX P w K mg base N qual (C8.fnScope st) f cda cc A outer s H E) (e :: es) ta ∧ PSs (cxS CX P w K mg base N qual (C8.fnScope st) f cda cc A outer s H E) post t2 ∧
        Passes CX (cxS CX P w K mg base N qual (C8.fnScope st) f cda cc A outer s H E) E2 ∧ tSeq t1 (tSeq (tSup D sp2 dvs E2 ta) t2) { nx := fun _ H' => Q .non H', rt := Q } (L2.start N vs) H)
    (hst : ∀ env : Env, starEach (e :: es) env = (false, eval e env) :: starEach es env) (hpl : ∀ env : Env, (backTo pos (starEach es env)).any (·.1) = false)
    (pl : Env → Sem Bool) (hev : ∀ env : Env, eval (.Call (.Attribute (.Call (.Name "super" p0) [] [] p1) m apos) (e :: es) [] pos) env = (do
      let ov ← attributeBase (.Call (.Name "super" p0) [] [] p1) m env (eval (.Call (.Name "super" p0) [] [] p1) env)
      standAt apos.atName
      let (f, first) ← holding [ov] (getMethod ov m (pl env))
      callWith pos f first (backTo pos (starEach (e :: es) env)) [])) :
    GOk P w K mg base CX (k + 1) f fd ps sp := by
  obtain ⟨oc, od, dV, kV, doc, pm, an, cda, ct, osl, ccl, cdd, cvs, ccs, file, tf, cl, cld, csl, cdD, rfl, lk, hcd, lcd, hvs, hfile, lcc, hD⟩ := F.ex
  refine ⟨len, fun A outer s H args us vs Q E hgd hr e0 hb r hsp => ?_⟩
  have KX : K.In s.heap := e0.mod.kin.keeps (fun b o z => (e0.bs b o z).1)
  have lim : s.heap.NoLimit := e0.mod.nolimit.keeps (fun b o z => (e0.bs b o z).1)
  refine ks_codeAny_call_defAt (fd := PySem.W.ksFn x qual (C8.fnArgs st) (C8.fnBody st) (C8.fnScope st) dV kV doc pm an (.ref cda) ct cc) (body := C8.fnBody st) (binds := ps.zip us) hr.depth (KX _ _ lk) rfl lim (PySem.W.codeRec_of KX hcd) rfl hb S.nocell (fun y hy => S.par y.1 (List.of_mem_zip hy).1) (fun h1 hns hk => ?_) S.co S.gen S.kind
  obtain ⟨t1, ta, t2, E2, q1, qa, q2, hx, hq⟩ := hbody cda A outer s H vs Q E hgd (hr.deeper _) hsp
  have I0 := inv_startS (CX := CX) (N := N) (qual := qual) (f := f) (cda := cda) (E := E) (tk := s.toks + (ps.zip us).length) S hr.hd e0 (len _ _ _ _ hsp) r (e0.mod.kin _ _ lcc) rfl hns hk
  have fin : ∀ fl s', L2.SP (cxS CX P w K mg base N qual (C8.fnScope st) f cda cc A outer s H E) [] { nx := fun _ H' => Q .non H', rt := Q } fl s' → CR CX outer P w H s Q E (.ok (.ret (match fl with | .ret v => v | _ => .none))) s' := by
    intro fl s' hs
    cases fl with
    | ret u => exact let ⟨v, _, H', J, rv, q⟩ := hs; ⟨v, H', J.os, J.bare, J.base, J.hok, rv, q⟩
    | next => exact let ⟨_, H', J, q⟩ := hs; ⟨V.non, H', J.os, J.bare, J.base, J.hok, rfl, q⟩
    | brk => exact let ⟨_, _, _, q⟩ := hs; False.elim q
    | cont => exact let ⟨_, _, _, q⟩ := hs; False.elim q
  have main : ∀ body' : List Stmt, PySem.wpAt (model P w) (A.deeper (PySem.W.ksEnv qual (C8.fnScope st) s.heap.objs.size f (.ref cda) cc)) (.func body' (PySem.W.ksEnv qual (C8.fnScope st) s.heap.objs.size f (.ref cda) cc))
      (execs (pre ++ (.Expr (.Call (.Attribute (.Call (.Name "super" p0) [] [] p1) m apos) (e :: es) [] pos) pos' :: post)) (PySem.W.ksEnv qual (C8.fnScope st) s.heap.objs.size f (.ref cda) cc))
      (fun fl s' => CR CX outer P w H s Q E (.ok (.ret (match fl with | .ret v => v | _ => .none))) s') (cxS CX P w K mg base N qual (C8.fnScope st) f cda cc A outer s H E).xe { s with heap := h1, toks := s.toks + (ps.zip us).length } := by
    intro body'
    refine at_app (ks_wpAt_mono (wpAt_of_wpAny (q1.run [] _ _ H _ I0 hq)) (fun fl s1 hs => ?_) fun _ _ z => z)
    cases fl with
    | ret u => exact fin (.ret u) s1 hs
    | brk => exact let ⟨_, _, _, q⟩ := hs; False.elim q
    | cont => exact let ⟨_, _, _, q⟩ := hs; False.elim q
    | next =>
      obtain ⟨σ1, H1, I1, sx, dx, fs, hs0, hins, hta⟩ := hs
      refine ks_wpAt_execs_cons (ks_wpAt_Expr_any (ks_wpAt_MethodCall (pl := pl _) ?_ (hev _)) I1.quiet rfl)
      have KX1 := I1.kIn
      refine ks_wpAt_super_base (env := PySem.W.ksEnv qual (C8.fnScope st) s.heap.objs.size f (.ref cda) cc) S.sup S.cls hcm rfl (KX1 _ _ lk) rfl hp rfl (KX1 _ _ lcd) rfl hvs hfile SP.top ?_
      obtain ⟨mb, hb1, hb2'⟩ := I1.mod.blt
      refine PySem.W.ks_loadName_global S.kind S.sup (Calls.loadGlobal_builtin (env := PySem.W.ksEnv qual (C8.fnScope st) s.heap.objs.size f (.ref cda) cc) (I1.mod.glob.keeps I1.bk) SP.nm (hb1.keeps I1.bk) ((hb2' "super" (by decide)).trans SP.boot) ⟨rfl, ?_⟩)
      refine wpAny_loadName_free S.kind S.cls rfl ⟨_, KX1 _ _ lcc, rfl⟩ ?_
      obtain ⟨m0, hns0, hloc⟩ := I1.loc
      obtain ⟨u, ru, lu⟩ := hloc 0 ar.arg (.ref sx) hn hs0 (.inl hpa)
      have hu : m0 ar.arg = some (.ref sx) := by
        obtain rfl : u = Value.ref sx := ru
        rcases lu with ⟨_, h⟩ | ⟨h, _⟩
        · exact h
        · have h : (C8.fnScope st).names.lookup ar.arg = some .cell ∨ (C8.fnScope st).names.lookup ar.arg = some .free := h
          rw [hpa] at h
          rcases h with h | h <;> cases h
      refine wpAny_loadName_local S.kind hpa hns0 hu ?_
      obtain ⟨mA, O, _, _, _, _⟩ := ins_get I1.hok hins
      obtain ⟨odd, IA, _⟩ := O.look
      obtain ⟨oD, hD1, hD2⟩ : ∃ oD, s1.heap.get? D = some oD ∧ oD.data = .cls cdD := by
        unfold PySem.W.clsIn at hD
        split at hD
        · rename_i ho
          cases hD
          exact ⟨_, KX1 _ _ ho, rfl⟩
        · cases hD
      refine ks_wpAny_isType_cls hD1 hD2 ⟨rfl, ?_⟩
      obtain ⟨hh, gg, dr, tt, oo⟩ := s1
      refine ks_wpAny_call_super hD1 hD2 IA.at_ IA.cls (fun c e => ?_) (PySem.W.looks_mroIn KX1 SP.sub) (fun h' e kp => ?_)
      · have := IA.no
        unfold PySem.W.notCls at this
        rw [e] at this
        exact Bool.noConfusion this
      have I2 := I1.kept (h' := h') (t' := tt) kp
      have KX2 := I2.kIn
      obtain ⟨of, hof, hofc⟩ : ∃ of, h'.get? f2 = some of ∧ of.cls = .type "function" := by
        have ht' : (K.lookup f2).map (·.cls) = some (.type "function") := SP.ty
        cases z : K.lookup f2 with
        | none => rw [z] at ht'; cases ht'
        | some of => rw [z] at ht'; exact ⟨of, KX2 _ _ z, Option.some.inj ht'⟩
      have hm := SP.find
      unfold PySem.W.ks_superIn at hm
      rw [hD] at hm
      have hxD : sx ≠ D := PySem.W.ks_ne KX1 IA hD
      refine ks_wpAny_getMethod_super e (PySem.W.looks_opaque KX2 SP.opq) (l₀ := cdD.mro) (fun A Q E s k q => wpAny_bind ((PySem.W.looks_clsIn KX2 hD) A _ E s k (wpAny_pure q))) rfl KX2 hm hof hofc hxD hcm ?_
      have I3 := ClX.met_new (g := f2) (C := sx) I2
      refine ClX.callwith_cm I3 (ClX.base_none I2 (Nat.le_refl _)) SP.fi (thn (qa.run pos _ _ σ1 H1 _ I3 hta) fun us2 s3 ⟨vs2, H2, I4, rv, h4⟩ => ⟨⟨ClX.pin_at I4, I4.kIn⟩, ?_⟩) (hst _) (hpl _)
      refine thn (run_bound (F2.mono hk2) hgd (hr.deeper _) hb2 hd2 hx I4 rv h4) fun u s4 hs4 => ?_
      obtain ⟨v4, H4, I5, _, h5⟩ := hs4
      exact wpAt_of_wpAny (wpAny_mono (q2.run [] s4 σ1 H4 _ I5 h5) (fun fl s5 hs5 => fin fl s5 hs5) fun _ _ z => z)
  have := main (C8.fnBody st)
  rw [← hbd] at this
  exact this
end Ev
namespace Pu
open PySem PySem.Spec PyProof.Rows L2
def mSup (cn : Str) (k : Nat) (m : Str → List (Str × PV) → List PV → M (List (Str × PV))) (r : PEnv → M (List PV)) : MS := fun W D env n => match env[(0 : Nat)]? with
  | some (.obj c fs) => c = cn ∧ r env (W env) n fun args n1 => args.length + 1 = k ∧ m c fs args (W env) n1 fun fs' n2 => D.nx (env.set 0 (.obj c fs')) n2
  | _ => False
section
variable {z : Z}
theorem Fr.own {G H G' H' : Hp} {a : Addr} (fr : Fr z G H) (mine : Mine z G a) (st : Step z.cm z.c (fun b => b = z.p ∨ b = a) G H G' H') : Fr z G' H' :=
  ⟨⟨fr.st.same.trans st.same, fun b o e nb nt => (st.weak fr.lk).keep b o (fr.st.keep b o e nb nt) (fun q => by
    rcases q with q | q
    · exact nb (by rw [q]; exact fr.mp)
    · subst q
      rcases mine.h with h | h
      · exact h ⟨o, e, nt.1⟩
      · exact nb h) nt, fun b o e nb => fr.st.new b o (st.new b o e (fr.st.al b nb)) nb, fun b h => st.al b (fr.st.al b h)⟩, fr.mp, fr.sx.trans st.same, fr.lk⟩
theorem EnvRel.own {G H G' H' : Hp} {σ : L2.St} {env : PEnv} {i : Nat} {a : Addr} {s s' : Pu.Slot} (e : EnvRel z G H σ env) (hs : σ[i]? = some (some (.ref a))) (he : env[i]? = some s) (os : s.isOwn = true) (os' : s'.isOwn = true)
    (st : Step z.cm z.c (fun b => b = z.p ∨ b = a) G H G' H') (h : SlotRel z G' H' (some (.ref a)) s') : EnvRel z G' H' σ (env.set i s') := by
  refine ⟨fun j u hj => ?_, fun j k u u' b njk hj hk ou ou' aj ak => ?_, by rw [List.length_set, e.len]⟩
  · rcases get_set hj with ⟨rfl, rfl, hl⟩ | ⟨ne, hj⟩
    · exact ⟨_, hs, h⟩
    · obtain ⟨y, hy, r⟩ := e.at_ j u hj
      refine ⟨y, hy, ?_⟩
      have na : ∀ b, u.isOwn = true → y = some (.ref b) → b ≠ a := fun b ou yb q => by
        subst q
        exact e.df j i u s b ne hj he ou os (by rw [hy, yb]) hs
      have mi : ∀ {b o}, H b = some o → NT0 o → Mine z G b → Mine z G' b := fun {b o} hb nt m => by
        refine ⟨?_, m.p, m.c, m.h⟩
        cases q : G' b with
        | none => rfl
        | some v =>
          have := st.new b v q ⟨o, hb, nt⟩
          rw [m.g] at this
          cases this
      cases u with
      | no => trivial
      | val q => exact let ⟨v, e, r⟩ := r; ⟨v, e, r.mono st.same⟩
      | own ps =>
        obtain ⟨b, vs, rfl, hb, mb, h0, rb⟩ := r
        refine ⟨b, vs, rfl, st.keep _ _ hb (fun q => ?_) ko_lst, mi hb nt0_lst mb, h0, rb.mono st.same⟩
        rcases q with q | q
        · exact mb.p q
        · exact na b rfl rfl q
      | odc ps =>
        obtain ⟨b, vs, rfl, hb, mb, h0, rb⟩ := r
        refine ⟨b, vs, rfl, st.keep _ _ hb (fun q => ?_) ko_dK, mi hb nt0_dK mb, h0, rb.mono st.same⟩
        rcases q with q | q
        · exact mb.p q
        · exact na b rfl rfl q
      | obj c fs =>
        obtain ⟨b, C, dx, vs, rfl, hc, hb, mb, rb, me⟩ := r
        refine ⟨b, C, dx, vs, rfl, hc, st.keep _ _ hb (fun q => ?_) (ko_ins hc), mi hb nt0_ins mb, rb.mono st.same, me⟩
        rcases q with q | q
        · exact mb.p q
        · exact na b rfl rfl q
  · have key : ∀ {j : Nat} {u : Pu.Slot}, (env.set i s')[j]? = some u → u.isOwn = true → ∃ w : Pu.Slot, env[j]? = some w ∧ w.isOwn = true := fun {j u} hj ou => by
      rcases get_set hj with ⟨rfl, rfl, hl⟩ | ⟨ne, hj⟩
      · exact ⟨s, he, os⟩
      · exact ⟨u, hj, ou⟩
    obtain ⟨w, hw, ow⟩ := key hj ou
    obtain ⟨w', hw', ow'⟩ := key hk ou'
    exact e.df j k w w' b njk hw hw' ow ow' aj ak
end
end Pu
namespace Ev
open PySem PySem.Spec PyProof.Rows L2
section
variable {X : Cx} {k j : Nat} {E : XK} {m : Str} {sp : Sp} {dvs : List V} {pos apos : Pos} {e o : Expr} {es : List Expr} {ta : TE} {t tk : TA} {kws : List Keyword} {ks : List Str} {gV : List V → List V → List V}
def tStatD (D : Addr → Prop) (m : Str) (sp : Sp) (dvs : List V) (E : XK) (ta : TE) (t : TA) : TE := fun σ H Q => ta σ H fun x H1 => ∃ a C dx fs, x = .ref a ∧ D C ∧ H1 a = some (.ins C dx fs) ∧ fs.lookup m = none ∧ t σ H1 fun vs H2 => sp (vs ++ dvs) H2 Q E
theorem pe_sD {D : Addr → Prop} {pl : Sem Bool} (c : ∀ C, D C → GS X.prog X.w X.K X.mg X.base k C m sp dvs) (hgd : X.A.guards = some []) (hr : Room j X.A) (hk : k ≤ j) (hx : Passes (L2.CX X.prog X.w) X E) (he : PE X o ta) (ha : PA X (e :: es) t)
    (hst : starEach (e :: es) X.env = (false, eval e X.env) :: starEach es X.env := by rfl) (hpl : (backTo pos (starEach es X.env)).any (·.1) = false := by rfl)
    (ht : eval (.Call (.Attribute o m apos) (e :: es) [] pos) X.env = (do
      let ov ← eval o X.env
      standAt apos.atName
      let (f, first) ← holding [ov] (getMethod ov m pl)
      callWith pos f first (backTo pos (starEach (e :: es) X.env)) (backToKw pos (keywordEach [] X.env))) := by rfl) :
    PE X (.Call (.Attribute o m apos) (e :: es) [] pos) (tStatD D m sp dvs E ta t) := by
  refine ⟨fun pins s σ H Q I h => PySem.W.methodCall_KW (pl := pl) (thn (he.run pins s σ H _ I h) fun u s1 ⟨x, H1, I1, rx, a, C, dx, fs, ex, hD, ea, l, q⟩ => ?_) ht⟩
  obtain ⟨p, f, fd, ps, ds, hc, ha', hty, hg, htk, hcp, ⟨rest, hrc⟩, hkp, F, b, d⟩ := (c C hD).ex
  subst ex
  cases rx
  obtain ⟨mA, O, r, _, _, _⟩ := ins_get I1.hok ea
  have hn : mA m = none := RelO.none_of (by rw [← l]; exact r m)
  obtain ⟨od, J, hl⟩ := O.look
  have hl' : PySem.W.lookIn m od = some none := by
    have := hl m
    rw [hn] at this
    exact this
  have hcl : PySem.W.isClsIn X.K C = true := by
    obtain ⟨cd, hc', _⟩ := PySem.W.any_some hc.hd
    show (PySem.W.clsIn X.K C).isSome = true
    rw [hc']
    rfl
  refine PySem.W.method_usual (r := some (.ref p)) I1.kIn J (PySem.W.plainGet_of (hc.get m)).1 (PySem.W.plainGet_of (hc.get m)).2 ha' ?_ ?_
  · simp only [Option.all_some, hty, Option.any_some]
    decide +kernel
  · refine PySem.W.get_bind I1.kIn J (PySem.W.plainGet_of (hc.get m)).1 (ClX.find_cm hcl ha' hg htk hcp hl') (PySem.W.plainGet_of (hc.get m)).2 ?_
    refine wpAny_call (PySem.W.sm_get (s := { s1 with toks := s1.toks + 1 }) I1.kIn hrc (PySem.W.handed_on rfl ?_))
    exact PySem.W.callWith_K (first := []) (h₀ := X.base) I.ok.mod.kin hkp (thn (ha.run pos pins _ σ H1 _ (I1.tok _) q) fun us s2 ⟨vs, H2, I2, r, q2⟩ => ⟨I2.kIn, run_gp F hgd (hr.mono hk) b d hx I2 r q2⟩) hst hpl
def tMethDK (D : Addr → Sp → Prop) (m : Str) (l : Nat) (gV : List V → List V → List V) (E : XK) (ta : TE) (tk : TA) : TE := fun σ H Q => ta σ H fun x H1 => ∃ a C sp dx fs, x = .ref a ∧ D C sp ∧ H1 a = some (.ins C dx fs) ∧ fs.lookup m = none ∧ tk σ H1 fun zs H3 => zs.length = l ∧ sp (gV [x] zs) H3 Q E
end
end Ev
namespace Pu
open PySem PySem.Spec PyProof.Rows L2
def mStatO (cs : List Str) (f : Str) (k : Nat) (m : List PV → M PV) (i : Nat) (r : PEnv → M (List PV)) : PEnv → M PV := fun env W n Q => match env[i]? with
  | some (.obj c fs) => cs.contains c = true ∧ fs.lookup f = none ∧ r env W n fun args n2 => args.length = k ∧ m args W n2 Q
  | _ => False
def mStat (cs : List Str) (f : Str) (k : Nat) (m : List PV → M PV) (a : PEnv → M PV) (r : PEnv → M (List PV)) : PEnv → M PV := fun env W n Q => a env W n fun x n1 => match x with
  | .ins c fs => cs.contains c = true ∧ fs.lookup f = none ∧ r env W n1 fun args n2 => args.length = k ∧ m args W n2 Q
  | _ => False
def mMethOD (ms : Ms) (f : Str) (k : Nat) (i : Nat) (r : PEnv → M (List PV)) : PEnv → M PV := fun env W n Q => match env[i]? with
  | some (.obj c fs) => match ms.lookup c with
    | some m => fs.lookup f = none ∧ r env W n fun args n2 => args.length + 1 = k ∧ m (.ins c fs :: args) W0 n2.lock fun q n3 => q.isAtom = true ∧ Q q (n2.back n3)
    | none => False
  | _ => False
def mMethDK (ms : Ms) (f : Str) (l k : Nat) (gP : List PV → List PV → List PV) (a : PEnv → M PV) (s : PEnv → M (List PV)) : PEnv → M PV := fun env W n Q => a env W n fun x n1 => match x with
  | .ins c fs => match ms.lookup c with
    | some m => fs.lookup f = none ∧ s env W n1 fun qs n2 => qs.length = l ∧ (gP [] qs).length + 1 = k ∧ m (.ins c fs :: gP [] qs) W n2 Q
    | none => False
  | _ => False
def cutP (xs : List PV) (lo hi : Option Int) : List PV := (xs.drop (HT.sIx xs.length 0 lo)).take (HT.sIx xs.length xs.length hi - HT.sIx xs.length 0 lo)
def mNoPart : PEnv → M (Option Int) := fun _ _ n Q => Q none n
def mPart (a : PEnv → M PV) : PEnv → M (Option Int) := fun env W n Q => a env W n fun x n1 => match x with
  | .int i => Q (some i) n1
  | _ => False
def mSl (r : PV → Option Int → Option Int → M PV) (a : PEnv → M PV) (l h : PEnv → M (Option Int)) : PEnv → M PV := fun env W n Q => a env W n fun x n1 => l env W n1 fun lo n2 => h env W n2 fun hi n3 => r x lo hi W n3 Q
def pSlT : PV → Option Int → Option Int → M PV := fun x lo hi _ n Q => match x with
  | .tup xs => Q (.tup (cutP xs lo hi)) n
  | _ => False
def pSlL : PV → Option Int → Option Int → M PV := fun x lo hi _ n Q => match x with
  | .lst xs => Q (.lst (cutP xs lo hi)) n
  | _ => False
def pSlS : PV → Option Int → Option Int → M PV := fun x lo hi _ n Q => match x with
  | .str s => s.length ≤ 1000000 ∧ Q (.str (cutS s lo hi)) n
  | _ => False
def mLrg1 (a : PEnv → M PV) : PEnv → M PV := fun env W n Q => a env W n fun x n1 => match x with
  | .int j => j ≤ 1000000 ∧ -1000000 ≤ j ∧ Q (.lst (rngP 0 j.toNat)) n1
  | _ => False
def mLrg2 (a b : PEnv → M PV) : PEnv → M PV := fun env W n Q => a env W n fun x n1 => b env W n1 fun y n2 => match x, y with
  | .int i, .int j => -1000000000000000000 ≤ i ∧ i ≤ 1000000000000000000 ∧ j ≤ i + 1000000 ∧ -1000000000000000000 ≤ j ∧ Q (.lst (rngP i (j - i).toNat)) n2
  | _, _ => False
def SimSl (z : Z) (r : V → Option Int → Option Int → Hp → VK → Prop) (po : PV → Option Int → Option Int → M PV) : Prop := ∀ (σ : L2.St) (env : PEnv) (G H : Hp) (n : SN) (Qp : PV → SN → Prop) (Q : VK) (x : V) (px : PV) (lo hi : Option Int),
  Ok z.K z.cm z.p z.c G H n → Fr z G H → EnvRel z G H σ env → z.rep G x px → po px lo hi (z.W env) n Qp → Post z z.rep G H Qp Q → r x lo hi H Q
section
variable {z : Z}
theorem sim_noPart : Sim z eqO tNoPart mNoPart := fun σ env G H n Qp Q ok fr er hm hq => hq.here ok rfl hm
theorem sim_part {te : TE} {m : PEnv → M PV} (h : SimE z te m) : Sim z eqO (tPart te) (mPart m) := by
  intro σ env G H n Qp Q ok fr er hm hq
  refine h.bind ok fr er hm fun x px G1 H1 n1 ok1 fr1 er1 s1 r1 hm1 => ?_
  cases r1 <;> try exact hm1.elim
  exact ⟨_, rfl, (hq.step s1).here ok1 rfl hm1⟩
theorem sim_sl {r : V → Option Int → Option Int → Hp → VK → Prop} {po : PV → Option Int → Option Int → M PV} {te : TE} {tl th : TO} {m : PEnv → M PV} {ml mh : PEnv → M (Option Int)} (hr : SimSl z r po) (h : SimE z te m) (hl : Sim z eqO tl ml) (hh : Sim z eqO th mh) : SimE z (tSl r te tl th) (mSl po m ml mh) := by
  intro σ env G H n Qp Q ok fr er hm hq
  refine h.bind ok fr er hm fun x px G1 H1 n1 ok1 fr1 er1 s1 r1 hm1 => ?_
  refine hl.bind ok1 fr1 er1 hm1 fun lo plo G2 H2 n2 ok2 fr2 er2 s2 r2 hm2 => ?_
  cases r2
  refine hh.bind ok2 fr2 er2 hm2 fun hi phi G3 H3 n3 ok3 fr3 er3 s3 r3 hm3 => ?_
  cases r3
  exact hr σ env G3 H3 n3 Qp Q x px lo hi ok3 fr3 er3 ((r1.mono s2.same).mono s3.same) hm3 (((hq.step s1).step s2).step s3)
theorem cut_rep {G : Hp} {vs : List V} {ps : List PV} {lo hi : Option Int} (r : z.repL G vs ps) : z.repL G (cutV vs lo hi) (cutP ps lo hi) := by
  unfold cutV cutP
  rw [r.len]
  exact (r.drop _).take _
theorem simS_slT : SimSl z (rSlA z.K) pSlT := by
  intro σ env G H n Qp Q x px lo hi ok fr er rx hm hq
  cases rx <;> try exact hm.elim
  rename_i a vs ps hs rl
  refine ⟨a, vs, rfl, Ev.Same.seqT ok.sub hs, fun hw => ?_, fun _ p hp => ?_⟩
  · have e : cutP ps lo hi = ps := by
      unfold cutP
      rw [rl.len] at hw
      rw [hw.1, hw.2]
      simp
    have hm : Qp (.tup (cutP ps lo hi)) n := hm
    rw [e] at hm
    exact hq.here ok (.tup hs rl) hm
  · obtain ⟨ok2, s2⟩ := ok.new (o := .tup (cutV vs lo hi)) hp
    exact (hq.step s2).here ok2 (.tup (SqT.of upd_same) ((cut_rep rl).mono s2.same)) hm
theorem simS_slL : SimSl z (rSlL z.K) pSlL := by
  intro σ env G H n Qp Q x px lo hi ok fr er rx hm hq
  cases rx <;> try exact hm.elim
  rename_i a vs ps hs rl
  refine ⟨a, vs, rfl, SqL.of (ok.sub _ _ hs), fun p hp => ?_⟩
  obtain ⟨ok2, s2⟩ := ok.new (o := .lst (cutV vs lo hi)) hp
  exact (hq.step s2).here ok2 (.lst upd_same ((cut_rep rl).mono s2.same)) hm
theorem simS_slS : SimSl z rSlS pSlS := by
  intro σ env G H n Qp Q x px lo hi ok fr er rx hm hq
  cases rx <;> try exact hm.elim
  exact ⟨_, rfl, line_of hm.1, hq.here ok (.str _) hm.2⟩
theorem sim_cval {C : Addr} {f : Str} {v : V} {q : PV} (hk : ∃ mc u, ClX.CRead z.K C mc ∧ ClX.CVal z.K C mc f v u) (hr : ∀ G, z.rep G v q) : SimE z (ClX.tCVal z.K (tC (.ref C)) f) (mC q) := by
  intro σ env G H n Qp Q ok fr er hm hq
  obtain ⟨mc, u, a, b⟩ := hk
  exact ⟨C, mc, v, u, rfl, a, b, hq.here ok (hr G) hm⟩
theorem lk_none {G : Hp} {vs : List (Str × V)} {ps : List (Str × PV)} {f : Str} (rf : z.repF G vs ps) (h : ps.lookup f = none) : vs.lookup f = none := by
  rcases rf.look (f := f) with ⟨_, e⟩ | ⟨x, y, e, _⟩
  · exact e
  · rw [h] at e
    cases e
theorem sim_statO {cs : List Str} {f : Str} {D : Addr → Prop} {k i : Nat} {m : List PV → M PV} {E : XK} {tr : TA} {mr : PEnv → M (List PV)} (hl : Link z E) (hD : ∀ c C, cs.contains c = true → z.cm c = some C → D C) (hr : SimA z tr mr) :
    SimE z (Ev.tStatD D f (spP z.K z.cm k m) [] E (tVar i) tr) (mStatO cs f k m i mr) := by
  intro σ env G H n Qp Q ok fr er hm hq
  unfold mStatO at hm
  split at hm
  · rename_i c fs he
    obtain ⟨x, hx, a, C, dx, vs, rfl, hc, hh, mine, rf, me⟩ := er.at_ i _ he
    obtain ⟨h1, hf, hm1⟩ := hm
    refine ⟨_, hx, a, C, dx, vs, rfl, hD c C h1 hc, hh, lk_none rf hf, ?_⟩
    refine hr.bind ok fr er hm1 fun us args G2 H2 n2 ok2 fr2 er2 s2 r2 hm2 => ?_
    rw [List.append_nil]
    refine ⟨z.p, z.c, G2, n2, args, z.W env, Qp, r2.len.trans hm2.1, ok2, r2, hm2.2, fun v q G' H' n' ok' st' r' hq' => (hq.step s2) v q G' H' n' ok' st' r' hq', fun cn fs C d G' H' n' ok' st' hc rx hw => ?_⟩
    exact hl σ env G' H' n' cn fs C d ok' (fr2.stepP st') (er2.step st') hc rx hw
  · exact hm.elim
theorem sim_stat {cs : List Str} {f : Str} {D : Addr → Prop} {k : Nat} {m : List PV → M PV} {E : XK} {ta : TE} {tr : TA} {ma : PEnv → M PV} {mr : PEnv → M (List PV)} (hl : Link z E) (hD : ∀ c C, cs.contains c = true → z.cm c = some C → D C) (ha : SimE z ta ma) (hr : SimA z tr mr) :
    SimE z (Ev.tStatD D f (spP z.K z.cm k m) [] E ta tr) (mStat cs f k m ma mr) := by
  intro σ env G H n Qp Q ok fr er hm hq
  refine ha.bind ok fr er hm fun x px G1 H1 n1 ok1 fr1 er1 s1 r1 hm1 => ?_
  cases r1 <;> try exact hm1.elim
  rename_i a C dx c vs ps hc hg rf
  obtain ⟨h1, hf, hm1⟩ := hm1
  refine ⟨a, C, dx, vs, rfl, hD c C h1 hc, ok1.sub _ _ hg, lk_none rf hf, ?_⟩
  refine hr.bind ok1 fr1 er1 hm1 fun us args G2 H2 n2 ok2 fr2 er2 s2 r2 hm2 => ?_
  rw [List.append_nil]
  refine ⟨z.p, z.c, G2, n2, args, z.W env, Qp, r2.len.trans hm2.1, ok2, r2, hm2.2, fun v q G' H' n' ok' st' r' hq' => ((hq.step s1).step s2) v q G' H' n' ok' st' r' hq', fun cn fs C d G' H' n' ok' st' hc rx hw => ?_⟩
  exact hl σ env G' H' n' cn fs C d ok' (fr2.stepP st') (er2.step st') hc rx hw
theorem sim_methOD {ms : Ms} {f : Str} {D : Addr → Sp → Prop} {k i : Nat} {E : XK} {tr : TA} {mr : PEnv → M (List PV)} (hD : ∀ c m C, ms.lookup c = some m → z.cm c = some C → D C (spP z.K z.cm k m)) (hr : SimA z tr mr) :
    SimE z (Ev.tMethD D f [] E (tVar i) tr) (mMethOD ms f k i mr) := by
  intro σ env G H n Qp Q ok fr er hm hq
  unfold mMethOD at hm
  split at hm
  · rename_i c fs he
    split at hm
    · rename_i m hlk
      obtain ⟨x, hx, a, C', dx, vs, rfl, hc, hh, mine, rf, me⟩ := er.at_ i _ he
      obtain ⟨hf, hm1⟩ := hm
      refine ⟨_, hx, a, C', _, dx, vs, rfl, hD c m C' hlk hc, hh, lk_none rf hf, ?_⟩
      refine hr.bind ok fr er hm1 fun us args G2 H2 n2 ok2 fr2 er2 s2 r2 hm2 => ?_
      obtain ⟨_, hx2, a2, C2, dx2, vs2, e2, hc2, hh2, mine2, rf2, me2⟩ := er2.at_ i _ he
      rw [hx] at hx2
      cases Option.some.inj hx2
      cases e2
      rw [hc] at hc2
      cases hc2
      rw [List.append_nil]
      have sg : Same G2 (upd G2 a (.ins C' dx2 vs2)) := fun b o e => Ev.get_new e mine2.g
      have ok3 : Ok z.K z.cm z.p z.c (upd G2 a (.ins C' dx2 vs2)) H2 n2 := ⟨fun b o e => by
        by_cases q : b = a
        · subst q
          rw [upd_same] at e
          rw [← e]
          exact hh2
        · rw [upd_ne q] at e
          exact ok2.sub _ _ e, ok2.pen, (upd_ne mine2.p.symm).trans ok2.gp, gc_upd mine2.c.symm ok2.gc, ok2.tb, gt_upd ok2.gt nt0_ins, ok2.mu.frz hh2 (nt_ins hc) mine2.g, ok2.lk⟩
      have rr : z.repL (upd G2 a (.ins C' dx2 vs2)) (.ref a :: us) (.ins c fs :: args) := .cons (.ins hc upd_same (rf2.mono sg)) (r2.mono sg)
      refine ⟨z.p, ⟨z.c.a, true⟩, _, n2.lock, _, W0, _, rr.len.trans (by rw [List.length_cons]; exact hm2.1), ok3.lock, rr, hm2.2, fun v q G' H' n' ok' st' r' hq' => ?_, fun cn fs C d G' H' n' ok' st' hc rx hw => hw.elim⟩
      have ok4 := ok2.unlock ok' st' (sg.trans st'.same)
      exact (hq.step s2) v q G2 H' _ ok4 ⟨Same.refl _, fun b o e nb nt => st'.keep b o e nb ⟨nt.1, fun _ => rfl⟩, fun _ _ e _ => e, st'.al⟩ (atom_rep hq'.1 r') hq'.2
    · exact hm.elim
  · exact hm.elim
theorem sim_methDK {ms : Ms} {f : Str} {D : Addr → Sp → Prop} {l k : Nat} {gP : List PV → List PV → List PV} {gV : List V → List V → List V} {E : XK} {ta : TE} {tk : TA} {ma : PEnv → M PV} {mk : PEnv → M (List PV)} (hl : Link z E) (hD : ∀ c m C, ms.lookup c = some m → z.cm c = some C → D C (spP z.K z.cm k m))
    (hg : ∀ G x vs ps zs qs, ps.length = 0 → qs.length = l → z.repL G vs ps → z.repL G zs qs → ∃ us, gV (.ref x :: vs) zs = .ref x :: us ∧ z.repL G us (gP ps qs)) (ha : SimE z ta ma) (hk : SimA z tk mk) :
    SimE z (Ev.tMethDK D f l gV E ta tk) (mMethDK ms f l k gP ma mk) := by
  intro σ env G H n Qp Q ok fr er hm hq
  refine ha.bind ok fr er hm fun x px G1 H1 n1 ok1 fr1 er1 s1 r1 hm1 => ?_
  cases r1 <;> try exact hm1.elim
  rename_i a C dx c vs ps hc hgg rf
  simp only at hm1
  split at hm1
  · rename_i m hlk
    obtain ⟨hf, hm1⟩ := hm1
    refine ⟨a, C, _, dx, vs, rfl, hD c m C hlk hc, ok1.sub _ _ hgg, lk_none rf hf, ?_⟩
    refine hk.bind ok1 fr1 er1 hm1 fun zs qs G2 H2 n2 ok2 fr2 er2 s2 r2 hm2 => ?_
    obtain ⟨l1, l2, hm2⟩ := hm2
    obtain ⟨us, eu, ru⟩ := hg G2 a [] [] zs qs rfl l1 .nil r2
    refine ⟨r2.len.trans l1, ?_⟩
    rw [eu]
    have rr : z.repL G2 (.ref a :: us) (.ins c ps :: gP [] qs) := .cons (.ins hc (s2.same _ _ hgg) (rf.mono s2.same)) ru
    refine ⟨z.p, z.c, G2, n2, _, z.W env, Qp, rr.len.trans (by rw [List.length_cons]; exact l2), ok2, rr, hm2, fun v q G' H' n' ok' st' r' hq' => ((hq.step s1).step s2) v q G' H' n' ok' st' r' hq', fun cn fs C d G' H' n' ok' st' hc rx hw => ?_⟩
    exact hl σ env G' H' n' cn fs C d ok' (fr2.stepP st') (er2.step st') hc rx hw
  · exact hm1.elim
end
end Pu
namespace Pu
open PySem PySem.Spec PyProof.Rows L2
section
variable {z : Z}
theorem rep_rg {G : Hp} {a : Int} : ∀ l : List Nat, z.repL G (l.map fun (i : Nat) => V.int (a + i)) (l.map fun (i : Nat) => PV.int (a + i))
  | [] => .nil
  | _ :: l => .cons (.int _) (rep_rg l)
theorem sim_lrg1 {te : TE} {m : PEnv → M PV} (h : SimE z te m) : SimE z (tLstRg (tRg1 te)) (mLrg1 m) := by
  intro σ env G H n Qp Q ok fr er hm hq
  refine h.bind ok fr er hm fun x px G1 H1 n1 ok1 fr1 er1 s1 r1 hm1 => ?_
  cases r1 <;> try exact hm1.elim
  rename_i j
  obtain ⟨h1, h2, hm1⟩ := hm1
  refine ⟨_, rfl, ⟨by omega, by omega, by omega, by omega, by omega⟩, fun q hq1 => ?_⟩
  obtain ⟨ok2, s2⟩ := ok1.new (o := .lst (rgV 0 j)) hq1
  have e : rngP 0 j.toNat = (List.range (j - 0).toNat).map fun (i : Nat) => PV.int (0 + i) := by unfold rngP; rw [Int.sub_zero]
  rw [e] at hm1
  exact ((hq.step s1).step s2).here ok2 (.lst upd_same (rep_rg _)) hm1
theorem sim_lrg2 {te te2 : TE} {m m2 : PEnv → M PV} (h : SimE z te m) (h2 : SimE z te2 m2) : SimE z (tLstRg (tRg2 te te2)) (mLrg2 m m2) := by
  intro σ env G H n Qp Q ok fr er hm hq
  refine h.bind ok fr er hm fun x px G1 H1 n1 ok1 fr1 er1 s1 r1 hm1 => ?_
  refine h2.bind ok1 fr1 er1 hm1 fun y py G2 H2 n2 ok2 fr2 er2 s2 r2 hm2 => ?_
  cases r1 <;> try exact hm2.elim
  cases r2 <;> try exact hm2.elim
  obtain ⟨h1, h2, h3, h4, hm2⟩ := hm2
  refine ⟨_, _, rfl, rfl, ⟨by omega, by omega, by omega, by omega, by omega⟩, fun q hq1 => ?_⟩
  obtain ⟨ok3, s3⟩ := ok2.new (o := .lst (rgV _ _)) hq1 nt0_lst
  exact (((hq.step s1).step s2).step s3).here ok3 (.lst upd_same (rep_rg _)) hm2
end
section
variable {K : PySem.W.Frag} {x qual : Str} {params : Arguments} {body : List Stmt} {scope : Scope} {dvs : List V} {kws : List (Str × V)} {ps : List Str} {n : Nat} {ks : List Str} {dV kV doc pm cdv ct : Value} {an : Option Addr} {cc : Addr}
theorem kbn_cl {g : List Value → List Value → List Value} {gV : List V → List V → List V} (h : KBn K (PySem.W.fnOf x qual params body scope dV kV doc pm an cdv ct) ps n ks g gV) : KBn K (PySem.W.ksFn x qual params body scope dV kV doc pm an cdv ct cc) ps n ks g gV := ⟨h.to, h.rel⟩
theorem kbC_DK (hD : DflV K dV dvs) (hK : KwdV K kV kws) (ms : List (Str × V)) (spec : List (Nat × Nat)) (hd : dvs ≠ []) (hk : kws ≠ []) (hms : ∀ q ∈ ms, q ∈ kws)
    (h : ∀ (T D : Addr) (doc pm : Value) (an : Option Addr) (cdv ct : Value) (us its mv ws : List Value), us.length = n → its.length = dvs.length → mv.length = ms.length → ws.length = ks.length →
      ∃ k, bindArgs (PySem.W.fnOf x qual params body scope (.ref T) (.ref D) doc pm an cdv ct) ⟨us, ks.zip ws⟩ = seqItems? (.ref T) >>= k ∧ KwChain D ((ms.map (·.1)).zip mv) (k (some its.toArray)) (ps.zip (valS its mv spec us ws))) :
    ∃ g, KBn K (PySem.W.ksFn x qual params body scope dV kV doc pm an cdv ct cc) ps n ks g (pkS dvs (ms.map (·.2)) spec) := by
  rcases hD with ⟨e, _⟩ | ⟨_, T, o, its, m, rfl, lT, oT, rT⟩
  · exact absurd e hd
  · rcases hK with e | ⟨D, rfl, hq⟩
    · exact absurd e hk
    · obtain ⟨mv, hl, rk, hks⟩ := kwd_vals (ms := ms) fun q hm => hq q (hms q hm)
      refine ⟨valS its mv spec, kbn_cl ⟨fun s us ws X l1 l2 => ?_, fun r1 r2 => pkS_vals rT rk r1 r2⟩⟩
      obtain ⟨k, e1, e2⟩ := h T D doc pm an cdv ct us its mv ws l1 rT.length.symm hl l2
      refine BindsTo.of_looks fun M => ?_
      rw [e1]
      exact looks_items X lT oT (KwChain.looks X hks e2)
theorem kbC_D0 (hD : DflV K dV dvs) (spec : List (Nat × Nat)) (hd : dvs ≠ [])
    (h : ∀ (T : Addr) (us its ws : List Value), us.length = n → its.length = dvs.length → ws.length = ks.length →
      ∃ k, bindArgs (PySem.W.fnOf x qual params body scope (.ref T) kV doc pm an cdv ct) ⟨us, ks.zip ws⟩ = seqItems? (.ref T) >>= k ∧ k (some its.toArray) = pure (ps.zip (valS its [] spec us ws))) :
    ∃ g, KBn K (PySem.W.ksFn x qual params body scope dV kV doc pm an cdv ct cc) ps n ks g (pkS dvs [] spec) := by
  rcases hD with ⟨e, _⟩ | ⟨_, T, o, its, m, rfl, lT, oT, rT⟩
  · exact absurd e hd
  · refine ⟨valS its [] spec, kbn_cl ⟨fun s us ws X l1 l2 => ?_, fun r1 r2 => pkS_vals rT .nil r1 r2⟩⟩
    obtain ⟨k, e1, e2⟩ := h T us its ws l1 rT.length.symm l2
    refine BindsTo.of_looks fun M => ?_
    rw [e1]
    refine looks_items X lT oT ?_
    rw [e2]
    exact .now
end
section
variable {K : PySem.W.Frag} {x qual : Str} {params : Arguments} {body : List Stmt} {scope : Scope} {dvs : List V} {kws : List (Str × V)} {f : Addr} {fd : FuncData} {ps : List Str} {n : Nat} {ks : List Str}
end
end Pu
namespace Pu
open PySem PySem.Spec PyProof.Rows L2
def pCatL : PV → PV → M PV := fun x y _ n Q => match x, y with
  | .lst xs, .lst ys => xs.length + ys.length ≤ 1000000 ∧ Q (.lst (xs ++ ys)) n
  | _, _ => False
def pCatT : PV → PV → M PV := fun x y _ n Q => match x, y with
  | .tup xs, .tup ys => xs.length + ys.length ≤ 1000000 ∧ Q (.tup (xs ++ ys)) n
  | _, _ => False
def pCatS : PV → PV → M PV := fun x y _ n Q => match x, y with
  | .str s, .str t => s.length + t.length ≤ 1000000 ∧ Q (.str (s ++ t)) n
  | _, _ => False
def pRepL : PV → PV → M PV := fun x y _ n Q => match x, y with
  | .lst xs, .int k => (-1000000 ≤ k ∧ k ≤ 1000000 ∧ xs.length * k.toNat ≤ 1000000) ∧ Q (.lst (List.replicate k.toNat xs).flatten) n
  | _, _ => False
section
variable {z : Z}
theorem rep_flat {G : Hp} {vs : List V} {ps : List PV} (r : z.repL G vs ps) : ∀ k : Nat, z.repL G (List.replicate k vs).flatten (List.replicate k ps).flatten
  | 0 => .nil
  | k + 1 => by
    rw [List.replicate_succ, List.replicate_succ, List.flatten_cons, List.flatten_cons]
    exact r.append (rep_flat r k)
theorem simR_catL : SimR z rCat pCatL := by
  intro σ env G H n Qp Q x y px py ok fr er rx ry hm hq
  cases rx <;> try exact hm.elim
  cases ry <;> try exact hm.elim
  rename_i a vs ps hs rl b vs2 ps2 hs2 rl2
  refine ⟨_, _, vs, vs2, rfl, rfl, ok.sub _ _ hs, ok.sub _ _ hs2, by rw [rl.len, rl2.len]; exact line_of hm.1, fun p hp => ?_⟩
  obtain ⟨ok2, s2⟩ := ok.new (o := .lst (vs ++ vs2)) hp
  exact (hq.step s2).here ok2 (.lst upd_same ((rl.append rl2).mono s2.same)) hm.2
theorem simR_catT : SimR z (rCatA z.K) pCatT := by
  intro σ env G H n Qp Q x y px py ok fr er rx ry hm hq
  cases rx <;> try exact hm.elim
  cases ry <;> try exact hm.elim
  rename_i a vs ps hs rl b vs2 ps2 hs2 rl2
  have hm2 : Qp (.tup (ps ++ ps2)) n := hm.2
  refine ⟨_, _, vs, vs2, rfl, rfl, Ev.Same.seqT ok.sub hs, Ev.Same.seqT ok.sub hs2, by rw [rl.len, rl2.len]; exact line_of hm.1, fun e => ?_, fun _ e => ?_, fun _ _ p hp => ?_⟩
  · subst e
    cases rl
    exact hq.here ok (.tup hs2 rl2) hm2
  · subst e
    cases rl2
    rw [List.append_nil] at hm2
    exact hq.here ok (.tup hs rl) hm2
  · obtain ⟨ok2, s2⟩ := ok.new (o := .tup (vs ++ vs2)) hp
    exact (hq.step s2).here ok2 (.tup (SqT.of upd_same) ((rl.append rl2).mono s2.same)) hm2
theorem simR_catS : SimR z (fun x y H Q => ∃ i j, x = .str i ∧ y = .str j ∧ i.length + j.length ≤ sizeLine ∧ Q (.str (i ++ j)) H) pCatS := by
  intro σ env G H n Qp Q x y px py ok fr er rx ry hm hq
  cases rx <;> try exact hm.elim
  cases ry <;> try exact hm.elim
  exact ⟨_, _, rfl, rfl, line_of hm.1, hq.here ok (.str _) hm.2⟩
theorem simR_repL : SimR z rRep pRepL := by
  intro σ env G H n Qp Q x y px py ok fr er rx ry hm hq
  cases rx <;> try exact hm.elim
  cases ry <;> try exact hm.elim
  rename_i a vs ps hs rl k
  obtain ⟨⟨h1, h2, h3⟩, hm2⟩ := hm
  refine ⟨_, k, vs, rfl, rfl, ok.sub _ _ hs, by omega, by omega, by rw [rl.len]; exact line_of h3, fun p hp => ?_⟩
  obtain ⟨ok2, s2⟩ := ok.new (o := .lst (List.replicate k.toNat vs).flatten) hp
  exact (hq.step s2).here ok2 (.lst upd_same ((rep_flat rl k.toNat).mono s2.same)) hm2
end
end Pu
namespace Ev
open PySem PySem.Spec PyProof.Rows L2
section
variable {X : Cx} {pins : List (Addr × Obj)} {σ : L2.St} {H : Hp} {s : Shared} {a : Addr} {oe : Obj} {vs : Array Value} {cls : Value} {d : Option Addr}
end
section
variable {X : Cx} {x n : Str} {c : Value} {i : Nat} {body suite : List Stmt} {b₀ : Stmt} {np pos pos' : Pos} {tb : WX → TS} {ts : Addr → Value → Option Addr → TS} {Wout : WX}
end
end Ev
namespace Ev
open PySem PySem.Spec PyProof.Rows L2
def spX1 (K : PySem.W.Frag) (f : Str) : Sp := fun vs H Q _ => ∃ (a C : Addr) (y : V), vs = [.ref a, y] ∧ OexC K C ∧ PySem.W.findIn K (.ref C) f = some none ∧ H a = some (exo a C none) ∧
  ∀ dx, H dx = none → dx ≠ a → Q .non (upd (upd H dx (exd dx [(f, y)])) a (exo a C (some dx)))
section
variable (P : Program) (w : World) (K : PySem.W.Frag) (mg : Str → Option Value) (base : Heap)
structure XC (x : Str) (C : Addr) (sp : Sp) (n : Nat) : Prop where
  ex : ∃ (fI : Addr) (fd : FuncData) (ps : List Str), OexC K C ∧ PySem.W.findIn K (.ref C) "__init__" = some (some (.ref fI)) ∧ PySem.W.typeIn K (.ref fI) = some (.type "function") ∧ FnOk P w K mg base (L2.CX P w) 1 fI fd ps sp ∧ Binds K fd ps [] ∧ mg x = some (.ref C)
end
theorem upd_end {H1 H2 : Hp} {a d : Addr} {o : HO} (ha : H1 a = none) (nd : d ≠ a) (h : ∀ b, b ≠ a → b ≠ d → H2 b = H1 b) : upd (del H2 a) d o = upd H1 d o := by
  funext b
  by_cases e : b = d
  · rw [e, upd_same, upd_same]
  · rw [upd_ne e, upd_ne e]
    by_cases e2 : b = a
    · rw [e2, del_same, ha]
    · rw [del_ne e2, h b e2 e]
section
variable {X : Cx} {W : WX} {x : Str} {C : Addr} {sp : Sp} {n : Nat} {e : Expr} {es : List Expr} {ta : TA} {p pos pos' : Pos}
def tRai (C : Addr) (sp : Sp) (W : WX) (ta : TA) : TS := fun _ σ H => tMkO C sp [] ta σ H fun cls d H' => W cls d σ H'
theorem ps_rai (c : XC X.prog X.w X.K X.mg X.base x C sp n) (hc : X.calm = true) (tk : Takes X W) (hr : Room 2 X.A) (hg : Gl X x) (ha : PA X (e :: es) ta)
    (hdb : (x == ("__debug__" : Str)) = false := by decide) (he : starEach (e :: es) X.env = (false, eval e X.env) :: starEach es X.env := by rfl) (hpl : (backTo pos (starEach es X.env)).any (·.1) = false := by rfl) :
    PS X (.Raise (some (.Call (.Name x p) (e :: es) [] pos)) none pos') (tRai C sp W ta) := by
  obtain ⟨fI, fd, ps, T, iC, tI, F1, hb, hm⟩ := c.ex
  exact ps_raise hc tk (pmk_oex T iC tI F1 hr hb .nil passL hg hm ha hdb he hpl)
theorem passE {E : XK} (tk : Takes X (fun cls d _ H => E cls d H)) : Passes (L2.CX X.prog X.w) X E := passes_call tk fun _ _ _ _ h => h
end
def tXV (K : PySem.W.Frag) (te : TE) (f : Str) : TE := fun σ H Q => te σ H fun x H1 => ∃ (a C dd : Addr) (fs : List (Str × V)) (v : V), x = .ref a ∧ H1 a = some (ExcV a (.ref C) (some dd)) ∧ H1 dd = some (.xd fs) ∧ ExcC K C ∧ PySem.W.findIn K (.ref C) f = some none ∧ fs.lookup f = some v ∧ Q v H1
end Ev
namespace Ev
open PySem PySem.Spec PyProof.Rows L2 LamX
section
variable {X : Cx} {pins : List (Addr × Obj)} {σ : L2.St} {H : Hp} {s : Shared}
abbrev gvX (X : Cx) (Ng : List Str) (q : Str) (sg : Scope) (g : Addr) (cd : Value) (s : Shared) (H : Hp) : Cx := cxOf C8.CX0 X.prog X.w X.K X.mg X.base Ng q sg g cd X.A X.stack s H C8.E0
end
structure Gives (X : Cx) (Ng : List Str) (x : Str) (sg : Scope) (g : Addr) (cdg : Value) (bg : List Stmt) (a : Str) (q : Str) (TT : (XK → Hp → VK → Prop) → Addr → Addr → Hp → VK → Prop) : Prop where
  run : ∀ (f c' : Addr) (s : Shared) (H : Hp) (Q : VK) (tl : XK → Hp → VK → Prop), (X.A.deeper (envOfC x sg s.heap.objs.size g cdg)).guards = some [] → Room 2 (X.A.deeper (envOfC x sg s.heap.objs.size g cdg)) →
    (∀ (W : WX) (pn : List (Addr × Obj)) (xe : Value → Shared → Prop) (p1 p2 : Pos), Takes ((gvX X Ng x sg g cdg s H).tr pn xe) W →
      PE ((gvX X Ng x sg g cdg s H).tr pn xe) (.Call (.Name a p1) [] [] p2) (fun σZ HZ Q => σZ[0]? = some (some (.ref f)) ∧ HZ c' = some (CodeO c' q) ∧ tl (fun cls d H' => W cls d σZ H') HZ Q)) →
    H c' = some (CodeO c' q) → H f = none → TT tl f c' H Q →
    ∃ t, PSs (gvX X Ng x sg g cdg s H).nox bg t ∧ t { nx := fun _ H' => Q .non H', rt := Q } (L2.start Ng [.ref f]) H
structure GvD (K : PySem.W.Frag) (mg : Str → Option Value) (x a : Str) (st : Stmt) : Prop where
  ex : ∃ (g : Addr) (fd : FuncData), Fn K x x st g fd ∧ mg x = some (.ref g) ∧ PySem.W.keepIn K (.ref g) = true ∧ L2.Binds K fd [a] []
section
variable {X : Cx}
end
end Ev
namespace Ev
open PySem PySem.Spec PyProof.Rows L2
def SM (base : Heap) : Prop := ∃ o, base.get? sysModules = some o ∧ ∀ ws n, o.data ≠ .seq ws n
theorem law_gT {P : Program} {w : World} {K : PySem.W.Frag} {mg mb : Str → Option Value} {CX : CXT} {k : Nat} {fa a : Addr} {cs : List (Addr × Addr)} {fd : FuncData} {x : Str} {sp : Sp} {s₁ : Shared} {vs : List Value} {ns : List Int}
    (KX : K.In s₁.heap) (hns : s₁.heap.Ns mainGlobals mg) (hb : s₁.heap.Ns builtinsNs mb) (hbb : ∀ y : Str, y ≠ "__name__" → mb y = bootBuiltins y) (hlim : s₁.heap.NoLimit) (hmm : ∃ mm, s₁.heap.Ns sysModules mm) (hg : s₁.gens = #[])
    (hT : ∀ p ∈ cs, s₁.heap.get? p.2 = some (PySem.W.tabObj #[])) (nT : ∀ p ∈ cs, K.lookup p.2 = none) (C : ∀ p ∈ cs, PySem.W.CodeHd s₁.heap p.1 p.2)
    (hbm : ∃ (bm : Addr) (ob : Obj), mg "__builtins__" = some (.ref bm) ∧ bm ≠ builtinsNs ∧ s₁.heap.get? bm = some ob ∧ ob.cls = .type "module" ∧ ob.dict = some builtinsNs ∧ ob.data = .plain)
    (ha : s₁.heap.get? a = some { cls := .type "list", data := .seq vs.toArray }) (hi : IntsAre vs ns) (hl : ns.length ≤ sizeLine) (hr : Room k callerA)
    (F : ∀ base : Heap, K.In base → base.Ns mainGlobals mg → (∀ p ∈ cs, LamX.TabB base mg p.1 p.2) → SM base → GOk P w K mg base CX k fa fd [x] sp) (hbind : ∀ (s : Shared) (u : Value), BindsTo s fd ⟨[u], []⟩ [(x, u)])
    (hsp : ∀ H : Hp, (∀ p ∈ cs, H p.2 = some (.tbl #[])) → SqL K H a (ns.map V.int) → sp [.ref a] H (fun v _ => v = .bl true) fun _ _ _ => False)
    (hCX : ∀ H e s', CX [] H s₁ (fun _ _ _ => False) e s' → False) :
    codeAny (model P w) callerA (.call (.ref fa) ⟨[.ref a], []⟩) (fun r s' => r = .ok (.ret (.bool true)) ∧ OldK s₁.heap s'.heap ∧ s'.os = s₁.os ∧ AllBare s'.gens) s₁ := by
  have rv := vals_ints hi
  have tabs : ∀ {b : Addr}, b ∈ cs.map (·.2) → s₁.heap.get? b = some (PySem.W.tabObj #[]) ∧ K.lookup b = none := fun {b} hb => by
    obtain ⟨p, hp, e⟩ := List.mem_map.mp hb
    exact e ▸ ⟨hT p hp, nT p hp⟩
  have na : a ∉ cs.map (·.2) := fun z => by
    have q := (tabs z).1
    rw [ha] at q
    have z' := congrArg Obj.data (Option.some.inj q)
    cases z'
  obtain ⟨H, hH, hO, hS, hok, hA, hK⟩ : ∃ H : Hp, (∀ b ∈ cs.map (·.2), H b = some (.tbl #[])) ∧ (∀ b, H b = none ∨ b ∈ cs.map (·.2) ∨ ∃ ob xs, H b = some (.frz ob (.lst xs))) ∧ SqL K H a (ns.map V.int) ∧ HOk P w H s₁.heap ∧ (∀ b, H b ≠ none → b = a ∨ b ∈ cs.map (·.2)) ∧ (∀ b, H b ≠ none → K.lookup b = none) := by
    cases hk : K.lookup a with
    | some o =>
      have eo : o = { cls := .type "list", data := .seq vs.toArray } := Option.some.inj ((KX a o hk).symm.trans ha)
      subst eo
      refine ⟨fun b => if b ∈ cs.map (·.2) then some (.tbl #[]) else none, fun b hb => if_pos hb, fun b => ?_, Or.inr ⟨_, vs.toArray, _, hk, rfl, rfl, rfl, ?_, ?_⟩, fun b u z => ?_, fun b z => ?_, fun b z => ?_⟩
      · by_cases m : b ∈ cs.map (·.2)
        · exact .inr (.inl m)
        · exact .inl (if_neg m)
      · rw [List.size_toArray, hi.length]
        exact hl
      · simpa using rv
      · by_cases m : b ∈ cs.map (·.2)
        · cases (if_pos m).symm.trans z
          exact (tabs m).1
        · cases (if_neg m).symm.trans z
      · by_cases m : b ∈ cs.map (·.2)
        · exact .inr m
        · exact (z (if_neg m)).elim
      · by_cases m : b ∈ cs.map (·.2)
        · exact (tabs m).2
        · exact (z (if_neg m)).elim
    | none =>
      have at_ : ∀ {b : Addr}, b ≠ a → b ∉ cs.map (·.2) → (if b = a then some (HO.frz { cls := .type "list", data := .seq vs.toArray } (.lst (ns.map V.int))) else if b ∈ cs.map (·.2) then some (.tbl #[]) else none) = none := fun {b} h1 h2 => (if_neg h1).trans (if_neg h2)
      have atT : ∀ {b : Addr}, b ∈ cs.map (·.2) → (if b = a then some (HO.frz { cls := .type "list", data := .seq vs.toArray } (.lst (ns.map V.int))) else if b ∈ cs.map (·.2) then some (.tbl #[]) else none) = some (.tbl #[]) := fun {b} h1 => (if_neg fun z : b = a => na (z ▸ h1)).trans (if_pos h1)
      refine ⟨fun b => if b = a then some (.frz { cls := .type "list", data := .seq vs.toArray } (.lst (ns.map V.int))) else if b ∈ cs.map (·.2) then some (.tbl #[]) else none, fun b hb => atT hb, fun b => ?_, Or.inl (Or.inr ⟨{ cls := .type "list", data := .seq vs.toArray }, if_pos rfl⟩), fun b u z => ?_, fun b z => ?_, fun b z => ?_⟩
      · by_cases e : b = a
        · exact .inr (.inr ⟨_, _, if_pos e⟩)
        · by_cases m : b ∈ cs.map (·.2)
          · exact .inr (.inl m)
          · exact .inl (at_ e m)
      · by_cases e : b = a
        · subst e
          cases (if_pos rfl).symm.trans z
          exact ⟨ha, (List.length_map (as := ns) V.int).symm ▸ hl, vs, _, rv, ha⟩
        · by_cases m : b ∈ cs.map (·.2)
          · cases (atT m).symm.trans z
            exact (tabs m).1
          · cases (at_ e m).symm.trans z
      · by_cases e : b = a
        · exact .inl e
        · by_cases m : b ∈ cs.map (·.2)
          · exact .inr m
          · exact (z (at_ e m)).elim
      · by_cases e : b = a
        · exact e ▸ hk
        · by_cases m : b ∈ cs.map (·.2)
          · exact (tabs m).2
          · exact (z (at_ e m)).elim
  have keep : ∀ {b : Addr} {o : Obj}, s₁.heap.get? b = some o → H b = none → (hidT s₁.heap H).get? b = some o := fun e n => hidT_get e n
  have plain : ∀ {b : Addr} {o : Obj}, s₁.heap.get? b = some o → (∀ ws n, o.data ≠ .seq ws n) → o.data ≠ .fields #[] → H b = none := fun {b o} e h1 h2 => by
    refine Classical.byContradiction fun z => ?_
    rcases hA b z with e' | e'
    · subst e'
      cases ha.symm.trans e
      exact h1 _ _ rfl
    · cases (tabs e').1.symm.trans e
      exact h2 rfl
  have nsK : ∀ {b : Addr} {m : Str → Option Value}, s₁.heap.Ns b m → (hidT s₁.heap H).Ns b m := fun ⟨o, es, ep, e, d, r⟩ => ⟨o, es, ep, keep e (plain e (fun ws n z => by rw [d] at z; cases z) (fun z => by rw [d] at z; cases z)), d, r⟩
  have kb : K.In (hidT s₁.heap H) := fun b o e => keep (KX b o e) (Classical.byContradiction fun z => by
    rw [hK b z] at e
    cases e)
  have mod : Mod K mg (hidT s₁.heap H) := ⟨kb, nsK hns, ⟨mb, nsK hb, hbb⟩, let ⟨mc, h1, h2⟩ := hlim; ⟨mc, nsK h1, h2⟩⟩
  have memT : ∀ p ∈ cs, p.2 ∈ cs.map (·.2) := fun p hp => List.mem_map.mpr ⟨p, hp, rfl⟩
  have TB : ∀ p ∈ cs, LamX.TabB (hidT s₁.heap H) mg p.1 p.2 := fun p hp => by
    obtain ⟨g0, ge, gp, gh, gd, _⟩ := hns
    have nG : mainGlobals ≠ p.2 := fun z => by
      rw [z, hT p hp] at gh
      cases gh
      cases gd
    refine ⟨?_, ?_, nG⟩
    · obtain ⟨o, us, file, tf, flags, tg, inF, text, tt, e1, r1, r2, r3, rest⟩ := C p hp
      refine ⟨o, us, file, tf, flags, tg, inF, text, tt, keep e1 (plain e1 (fun ws n z => ?_) fun z => ?_), r1, r2, r3, rest⟩
      · rw [r2] at z
        cases z
      · rw [r2] at z
        cases z
        simp at r3
    · obtain ⟨bm, ob, b1, b2, b3, b4, b5, b6⟩ := hbm
      refine ⟨bm, ob, b1, b2, fun z => ?_, fun z => ?_, keep b3 (plain b3 (fun ws n z => ?_) fun z => ?_), b4, b5, b6⟩
      · rw [z, gh] at b3
        cases b3
        rw [gd] at b6
        cases b6
      · rw [z, hT p hp] at b3
        cases b3
        cases b6
      · rw [b6] at z
        cases z
      · rw [b6] at z
        cases z
  have sm : SM (hidT s₁.heap H) := by
    obtain ⟨mm, hm⟩ := hmm
    obtain ⟨o, es, ep, e, d, _⟩ := nsK hm
    exact ⟨o, e, fun ws n z => by rw [d] at z; cases z⟩
  have e0 : Env0 P w K mg (hidT s₁.heap H) callerA [] s₁ H := ⟨rfl, mod, fun _ _ e => of_hidT e, Nat.le_of_eq (hidT_size _ _), trivial, fun b hb => (nomatch (show b ∈ ([] : List Addr) from hb)), hok, .of_eq hg⟩
  refine codeAny_mono ((F _ kb (nsK hns) TB sm).run callerA [] s₁ H ⟨[.ref a], []⟩ [.ref a] [.ref a] _ _ rfl hr e0 (hbind s₁ (.ref a)) (.cons rfl .nil) (hsp H (fun p hp => hH _ (memT p hp)) hS)) fun r s' h => ?_
  match r, h with
  | .error e, z => exact (hCX H e s' z).elim
  | .ok .next, z => exact z.elim
  | .ok .brk, z => exact z.elim
  | .ok .cont, z => exact z.elim
  | .ok (.ret u), ⟨v, H', os, bare, un, hok', r', (q : v = .bl true)⟩ =>
    subst q
    cases (show u = Value.bool true from r')
    have same : ∀ b o, b ∉ cs.map (·.2) → s₁.heap.get? b = some o → s'.heap.get? b = some o := fun b o nb e => by
      rcases hO b with z | z | ⟨ob, xs, z⟩
      · exact un.keep b o e z (fun y => (nomatch (show b ∈ ([] : List Addr) from y))) (by simp)
      · exact (nb z).elim
      · exact (hok' b _ (un.frzs b ob _ z)).1.trans ((hok b _ z).1.symm.trans e)
    have grown : ∀ p ∈ cs, ∃ more : Array Value, s'.heap.get? p.2 = some (PySem.W.tabObj more) := fun p hp => by
      obtain ⟨more, z⟩ := un.tbls p.2 #[] (hH _ (memT p hp))
      exact ⟨_, hok' p.2 _ z⟩
    refine ⟨rfl, ⟨fun b o e => ?_, fun b o e => ?_⟩, os, bare⟩
    · by_cases m : b ∈ cs.map (·.2)
      · obtain ⟨p, hp, ep⟩ := List.mem_map.mp m
        obtain ⟨more, hm⟩ := grown p hp
        subst ep
        cases (hT p hp).symm.trans e
        exact .inr (.inl ⟨((C p hp).tab (hT p hp)).isCodeTable, rfl, #[], more, rfl, by rw [Array.empty_append]; exact hm⟩)
      · exact .inl (same b o m e)
    · by_cases m : b ∈ cs.map (·.2)
      · obtain ⟨p, hp, ep⟩ := List.mem_map.mp m
        obtain ⟨more, hm⟩ := grown p hp
        exact ⟨_, ep ▸ hm⟩
      · exact ⟨o, same b o m e⟩
def LawT (l : PySem.W.OpenLaw) (w : World) (K : PySem.W.Frag) (k n : Nat) (x : Str) (mg : Str → Option Value) (fa : Addr) (names : List Str) : Prop :=
  ∃ (fd : FuncData) (cs : List (Str × Addr × Addr)) (sp : Sp), (∀ q ∈ cs, q.1 ∈ names ∧ PySem.W.tabIn K q.1 = some q.2 ∧ K.lookup q.2.2 = none) ∧ (∀ (s : Shared) (u : Value), BindsTo s fd ⟨[u], []⟩ [(x, u)]) ∧
    (∀ (H : Hp) (a : Addr) (ns : List Int), ns.length ≤ n → (∀ q ∈ cs, H q.2.2 = some (.tbl #[])) → SqL K H a (ns.map V.int) → sp [.ref a] H (fun v _ => v = .bl true) fun _ _ _ => False) ∧
    ∀ base : Heap, K.In base → base.Ns mainGlobals mg → (∀ q ∈ cs, LamX.TabB base mg q.2.1 q.2.2) → SM base → GOk l.prog w K mg base (L2.CX l.prog w) k fa fd [x] sp
theorem walk_gT {l : PySem.W.OpenLaw} {n k : Nat} {q : Program} {loose : List Str} {XP : (Str → Option Value) → Heap → Prop} {YP : World → Heap → Prop} {d : DefRec} {K : Params → PySem.W.Frag} {x : Str} (names : List Str)
    (hn : l.most = some n) (hn2 : n ≤ sizeLine) (hdf : d.params.defaults = []) (hr : Room k callerA) (himp : importsNone q = true) (hrec : ∀ y ∈ names, ((recsOf q).any fun e => e.name == y) = true) (hY : ∀ (w : World) (h : Heap), YP w h → (K w.params).In h)
    (F : ∀ (w : World) (mg : Str → Option Value) (fa : Addr) (h : Heap), (K w.params).In h → h.Ns mainGlobals mg → mg d.name = some (.ref fa) → LawT l w (K w.params) k n x mg fa names) :
    PySem.W.WalkO q loose XP YP l.row.toRowW d [] (fun f vs => PySem.call f vs) := by
  refine Att.attach_callB hn hdf fun w s₀ s₁ mg mb fa o pm cd doc a vs ns G Y ho hd hcd hmg hobj hints hlen hbits hg => ?_
  have KX := hY w _ Y
  obtain ⟨fd, cs, sp, hcs, b, hsp, hF⟩ := F w mg fa _ KX G.T.g hmg
  have tab : ∀ r ∈ cs, PySem.W.CodeHd s₁.heap r.2.1 r.2.2 ∧ s₁.heap.get? r.2.2 = some (PySem.W.tabObj #[]) := fun r hr => by
    obtain ⟨h1, h2, _⟩ := hcs r hr
    have z := hrec _ h1
    cases e : (recsOf q).find? (fun e => e.name == r.1) with
    | none =>
      rw [List.find?_eq_none] at e
      rw [List.any_eq_true] at z
      obtain ⟨y, hy, ey⟩ := z
      exact (e y hy ey).elim
    | some dr => exact PySem.W.tab_of G.T KX e h2
  refine law_gT (cs := cs.map (·.2)) KX G.T.g G.T.b G.T.builtins G.T.nolimit (let ⟨mm, e, _⟩ := (G.T.seer himp).mods; ⟨mm, e⟩) hg (fun p hp => ?_) (fun p hp => ?_) (fun p hp => ?_) G.T.bmain hobj hints (Nat.le_trans hlen hn2) hr (fun base h1 h2 h3 h4 => hF base h1 h2 (fun r hr => h3 _ (List.mem_map.mpr ⟨r, hr, rfl⟩)) h4) b (fun H h1 h2 => hsp H a ns hlen (fun r hr => h1 _ (List.mem_map.mpr ⟨r, hr, rfl⟩)) h2) fun H e s' z => ?_
  · obtain ⟨r, hr, e⟩ := List.mem_map.mp hp
    exact e ▸ (tab r hr).2
  · obtain ⟨r, hr, e⟩ := List.mem_map.mp hp
    exact e ▸ (hcs r hr).2.2
  · obtain ⟨r, hr, e⟩ := List.mem_map.mp hp
    exact e ▸ (tab r hr).1
  · obtain ⟨_, _, _, _, _, _, _, _, _, _, _, _, y⟩ := z
    exact y.elim
end Ev
namespace Pu
open PySem PySem.Spec PyProof.Rows L2
def mFnX (k : Nat) (b : MS) (args : List PV) : M PV := fun W n Q => b (fun _ => W) { nx := fun _ n' => Q .non n', rt := Q } (startP k args) n
def mInitX (k : Nat) (b : MS) (cn : Str) (fs : List (Str × PV)) (args : List PV) : M (List (Str × PV)) := fun W n Q =>
  b (fun _ => W) { nx := initEnd Q, rt := fun _ _ => False } (.obj cn fs :: startP (k - 1) args) n
theorem qfnX {CX : CXT} {P : Program} {w : World} {K : PySem.W.Frag} {mg : Str → Option Value} {base : Heap} {x qual : Str} {st : Stmt} {f : Addr} {fd : FuncData} {N ps : List Str} {k : Nat} {cm : Md} {b : MS} (hN : ps.length ≤ N.length)
    (F : Ev.Fn K x qual st f fd) (S : FnScope N ps (C8.fnScope st))
    (hb : ∀ (cdv : Value) (A : Around) (outer : List Env) (s : Shared) (H : Hp) (E : XK), fd.code = cdv → (A.deeper (envOfC qual (C8.fnScope st) s.heap.objs.size f cdv)).guards = some [] → Room k (A.deeper (envOfC qual (C8.fnScope st) s.heap.objs.size f cdv)) →
      ∃ t, PSs (cxOf CX P w K mg base N qual (C8.fnScope st) f cdv A outer s H E) (C8.fnBody st) t ∧ ∀ z : Z, z.K = K → z.cm = cm → (∃ wp, z.W = fun _ => wp) → Link z E → SimS z t b) :
    Ev.GOk P w K mg base CX (k + 1) f fd ps (spP K cm ps.length (mFnX N.length b)) := by
  refine Ev.gfnX F S (fun vs H Q E h => ?_) (fun cdv A outer s H vs Q E hcode hgd hr h => ?_)
  · obtain ⟨_, _, _, _, _, _, _, hl, _⟩ := h
    exact hl
  · obtain ⟨p, c, G, n, args, Wp, Qp, hl, ok, rl, hm, hq, hx⟩ := h
    obtain ⟨t, ht, hs⟩ := hb cdv A outer s H E hcode hgd hr
    refine ⟨t, ht, ?_⟩
    refine hs ⟨K, cm, p, c, H, G, (· = p), fun _ => Wp, G, p, p, p, c.lk⟩ rfl rfl ⟨_, rfl⟩ (fun σ env G' H' n' cn fs C d ok' fr' er' hc rx hw => hx cn fs C d G' H' n' ok' fr'.st hc rx hw) (L2.start N vs) (startP N.length args) G H n _ _ ok ⟨Step.refl _ _ _, rfl, Same.refl _, id⟩ (envStart rl (by rw [hl]; exact hN)) hm ⟨fun σ env G' H' n' _ ok' fr' er' h' => ?_, fun v q G' H' n' _ ok' fr' r' h' => ?_, fun _ _ _ _ _ _ _ _ _ h' => h', fun _ _ _ _ _ _ _ _ _ h' => h'⟩
    · exact hq .non .non G' H' n' ok' fr'.st .non h'
    · exact hq v q G' H' n' ok' fr'.st r' h'
theorem qinitX {CX : CXT} {P : Program} {w : World} {K : PySem.W.Frag} {mg : Str → Option Value} {base : Heap} {x qual : Str} {st : Stmt} {f : Addr} {fd : FuncData} {N ps : List Str} {k : Nat} {cm : Md} {b : MS} (hN : ps.length ≤ N.length)
    (F : Ev.Fn K x qual st f fd) (S : FnScope N ps (C8.fnScope st))
    (hb : ∀ (cdv : Value) (A : Around) (outer : List Env) (s : Shared) (H : Hp) (E : XK), fd.code = cdv → (A.deeper (envOfC qual (C8.fnScope st) s.heap.objs.size f cdv)).guards = some [] → Room k (A.deeper (envOfC qual (C8.fnScope st) s.heap.objs.size f cdv)) →
      ∃ t, PSs (cxOf CX P w K mg base N qual (C8.fnScope st) f cdv A outer s H E) (C8.fnBody st) t ∧ ∀ z : Z, z.K = K → z.cm = cm → (∃ wp, z.W = fun _ => wp) → Link z E → SimS z t b) :
    Ev.GOk P w K mg base CX (k + 1) f fd ps (spI K cm ps.length (mInitX N.length b)) := by
  refine Ev.gfnX F S (fun vs H Q E h => ?_) (fun cdv A outer s H vs Q E hcode hgd hr h => ?_)
  · obtain ⟨_, _, _, _, _, _, _, _, us, _, _, _, _, _, rfl, hl, _⟩ := h
    exact hl
  · obtain ⟨p, c, G, n, cn, C, x, dx, us, vf, fs, args, Wp, Qp, rfl, hl, ok, hc, hx, gx, nxp, nxc, rf, rl, hm, hq, hxx⟩ := h
    obtain ⟨t, ht, hs⟩ := hb cdv A outer s H E hcode hgd hr
    refine ⟨t, ht, ?_⟩
    have es : L2.start N (V.ref x :: us) = some (.ref x) :: (us.map some ++ List.replicate (N.length - 1 - us.length) none) := by
      simp [L2.start]
      omega
    rw [es]
    have er := envStart (z := ⟨K, cm, p, c, H, G, fun b => b = p ∨ b = x, fun _ => Wp, G, x, C, dx, c.lk⟩) (H := H) (k := N.length - 1) rl (by omega)
    refine hs ⟨K, cm, p, c, H, G, fun b => b = p ∨ b = x, fun _ => Wp, G, x, C, dx, c.lk⟩ rfl rfl ⟨_, rfl⟩ (fun σ env G' H' n' cn fs C d ok' fr' er' hc rx hw => hxx cn fs C d G' H' n' ok' fr'.st hc rx hw) _ (.obj cn fs :: startP (N.length - 1) args) G H n _ _ ok ⟨Step.refl _ _ _, .inl rfl, Same.refl _, id⟩ ⟨fun i s h => ?_, fun i j s s' a nij hi hj os os' _ _ => ?_, by simp [er.len]⟩ hm ⟨fun σ env G' H' n' _ ok' fr' er' h' => ?_, fun _ _ _ _ _ _ _ _ _ h' => h'.elim, fun _ _ _ _ _ _ _ _ _ h' => h', fun _ _ _ _ _ _ _ _ _ h' => h'⟩
    · cases i with
      | zero =>
        cases h
        exact ⟨_, rfl, x, C, dx, vf, rfl, hc, hx, ⟨gx, nxp, nxc, .inr (.inr rfl)⟩, rf, rfl, rfl, rfl⟩
      | succ i => exact er.at_ i s h
    · have key : ∀ (l : Nat) (u : Slot), (Slot.obj cn fs :: startP (N.length - 1) args)[l]? = some u → u.isOwn = true → l = 0 := fun l u hl ou => by
        cases l with
        | zero => rfl
        | succ l =>
          have := startP_own (show (startP (N.length - 1) args)[l]? = some u from hl)
          rw [this] at ou
          cases ou
      exact nij ((key i s hi os).trans (key j s' hj os').symm)
    · have h' : initEnd Qp env n' := h'
      unfold initEnd at h'
      split at h'
      · rename_i fs' rest _
        obtain ⟨_, _, a, C', dx', vf', _, hc', hh, mine, rf', rfl, rfl, rfl⟩ := er'.at_ 0 _ rfl
        exact hq vf' fs' G' H' n' ok' fr'.st hh mine.g rf' h'
      · exact h'.elim
def mRai1 (cn f : Str) (r : PEnv → M (List PV)) : MS := fun W _ env n => r env (W env) n fun xs n1 => match xs with
  | [x] => W env cn [(f, x)] n1
  | _ => False
def mRai2 (cn f g : Str) (r : PEnv → M (List PV)) : MS := fun W _ env n => r env (W env) n fun xs n1 => match xs with
  | [x, y] => W env cn [(g, y), (f, x)] n1
  | _ => False
section
variable {z : Z}
theorem sim_rai1 {cn f : Str} {C : Addr} {E : XK} {ta : TA} {ma : PEnv → M (List PV)} (hl : Link z E) (hc : z.cm.cx cn = some C) (T : OexC z.K C) (hf : PySem.W.findIn z.K (.ref C) f = some none) (ha : SimA z ta ma) :
    SimS z (Ev.tRai C (Ev.spX1 z.K f) (fun cls d _ H => E cls d H) ta) (mRai1 cn f ma) := by
  intro σ env G H n D Dp ok fr er hm ed
  refine ha.bind ok fr er hm fun vs ps G1 H1 n1 ok1 fr1 er1 s1 r1 hm1 => ?_
  match ps, r1, hm1 with
  | [x], .cons (v := v) rx .nil, hm1 =>
    refine ⟨by simp, fun a na => ⟨a, C, v, rfl, T, hf, upd_same, fun dx nd nda => ⟨rfl, dx, [(f, v)], upd_same, ?_, ?_, ?_⟩⟩⟩
    · rw [upd_ne nda, upd_same]
    · rw [upd_ne nda] at nd
      exact nd
    · have nd1 : H1 dx = none := by
        rw [upd_ne nda] at nd
        exact nd
      rw [Ev.upd_end (H1 := H1) (d := dx) (o := .xd [(f, v)]) na nda (fun b h1 h2 => by rw [upd_ne h1, upd_ne h2, upd_ne h1])]
      obtain ⟨ok2, s2⟩ := ok1.new (o := .xd [(f, v)]) nd1
      exact hl σ env _ _ n1 cn [(f, x)] C (some dx) ok2 (fr1.stepP s2) (er1.step s2) hc (.some upd_same (.cons (rx.mono s2.same) .nil)) hm1
end
def blank (k : Nat) : PEnv := List.replicate k .no
def mTryK (sub : Str → Str → Bool) (d : Str) (k j : Nat) (b : MS) : MS := fun W D env n =>
  b (fun _ cn fs n' => if sub cn d = true then D.nx ((blank k).set j (.val (.exc cn fs))) n' else W (blank k) cn fs n') D env n
def mTryO (sub : Str → Str → Bool) (d : Str) (k : Nat) (s b : MS) : MS := fun W D env n =>
  b (fun _ cn fs n' => if sub cn d = true then s (fun _ => W0) D (blank k) n' else W (blank k) cn fs n') D env n
abbrev Z.re (z : Z) (W : PEnv → XP) (Gx : Hp) : Z := { z with W := W, Gx := Gx }
section
variable {z : Z}
theorem EnvRel.re {G H : Hp} {σ : L2.St} {env : PEnv} {W : PEnv → XP} {Gx : Hp} (e : EnvRel z G H σ env) : EnvRel (z.re W Gx) G H σ env := by
  refine ⟨fun i s h => ?_, e.df, e.len⟩
  obtain ⟨x, hx, r⟩ := e.at_ i s h
  refine ⟨x, hx, ?_⟩
  cases s with
  | no => trivial
  | val q => exact r
  | own ps => exact let ⟨a, vs, e, h, m, h0, r⟩ := r; ⟨a, vs, e, h, ⟨m.g, m.p, m.c, m.h⟩, h0, r⟩
  | odc ps => exact let ⟨a, vs, e, h, m, h0, r⟩ := r; ⟨a, vs, e, h, ⟨m.g, m.p, m.c, m.h⟩, h0, r⟩
  | obj c fs => exact let ⟨a, C, dx, vs, e, hc, h, m, r, me⟩ := r; ⟨a, C, dx, vs, e, hc, h, ⟨m.g, m.p, m.c, m.h⟩, r, me⟩
theorem EnvRel.un {G H : Hp} {σ : L2.St} {env : PEnv} {W : PEnv → XP} {Gx : Hp} (e : EnvRel (z.re W Gx) G H σ env) : EnvRel z G H σ env := by
  refine ⟨fun i s h => ?_, e.df, e.len⟩
  obtain ⟨x, hx, r⟩ := e.at_ i s h
  refine ⟨x, hx, ?_⟩
  cases s with
  | no => trivial
  | val q => exact r
  | own ps => exact let ⟨a, vs, e, h, m, h0, r⟩ := r; ⟨a, vs, e, h, ⟨m.g, m.p, m.c, m.h⟩, h0, r⟩
  | odc ps => exact let ⟨a, vs, e, h, m, h0, r⟩ := r; ⟨a, vs, e, h, ⟨m.g, m.p, m.c, m.h⟩, h0, r⟩
  | obj c fs => exact let ⟨a, C, dx, vs, e, hc, h, m, r, me⟩ := r; ⟨a, C, dx, vs, e, hc, h, ⟨m.g, m.p, m.c, m.h⟩, r, me⟩
theorem EndsRel.re {G : Hp} {D : Ends} {Dp : EndsP} {W : PEnv → XP} {Gx : Hp} (h : EndsRel z G D Dp) (sx : Same z.Gx G) : EndsRel (z.re W Gx) G D Dp :=
  ⟨fun σ env G' H' n' s ok fr er q => h.nx σ env G' H' n' s ok ⟨fr.st, fr.mp, sx.trans s, fr.lk⟩ er.un q, fun v q G' H' n' s ok fr r q' => h.rt v q G' H' n' s ok ⟨fr.st, fr.mp, sx.trans s, fr.lk⟩ r q',
   fun σ env G' H' n' s ok fr er q => h.bk σ env G' H' n' s ok ⟨fr.st, fr.mp, sx.trans s, fr.lk⟩ er.un q, fun σ env G' H' n' s ok fr er q => h.ct σ env G' H' n' s ok ⟨fr.st, fr.mp, sx.trans s, fr.lk⟩ er.un q⟩
def LinkW (z : Z) (W : WX) : Prop := ∀ (σ : L2.St) (env : PEnv) (G H : Hp) (n : SN) (cn : Str) (fs : List (Str × PV)) (C : Addr) (d : Option Addr), Ok z.K z.cm z.p z.c G H n → Fr z G H → EnvRel z G H σ env →
  z.cm.cx cn = some C → z.repX G d fs → z.W env cn fs n → W (.ref C) d σ H
def mTryKS (sub : Str → Str → Bool) (d : Str) (i j : Nat) (b : MS) : MS := fun W D env n =>
  b (fun env2 cn fs n' => if sub cn d = true then i < env2.length ∧ D.nx ((env2.set j (.val (.exc cn fs))).set i .no) n' else W env2 cn fs n') D env n
end
end Pu
namespace Pu
open PySem PySem.Spec PyProof.Rows L2 LamX
def mIsVC (sub : Str → Str → Bool) (d : Str) (a : PEnv → M PV) : PEnv → M PV := fun env W n Q => a env W n fun x n1 => match x with
  | .exc c _ => Q (.bl (sub c d)) n1
  | _ => False
def mIsVT (a : PEnv → M PV) : PEnv → M PV := fun env W n Q => a env W n fun x n1 => match x with
  | .exc _ _ => Q (.bl true) n1
  | _ => False
def mXFld (f : Str) (a : PEnv → M PV) : PEnv → M PV := fun env W n Q => a env W n fun x n1 => match x with
  | .exc _ fs => match fs.lookup f with
    | some y => Q y n1
    | none => False
  | _ => False
section
variable {z : Z}
theorem sim_xfld {f : Str} {ta : TE} {ma : PEnv → M PV} (hx : ∀ c C, z.cm.cx c = some C → ExcC z.K C) (hk : ∀ c C, z.cm.cx c = some C → PySem.W.findIn z.K (.ref C) f = some none) (ha : SimE z ta ma) : SimE z (Ev.tXV z.K ta f) (mXFld f ma) := by
  intro σ env G H n Qp Q ok fr er hm hq
  refine ha.bind ok fr er hm fun x px G1 H1 n1 ok1 fr1 er1 s1 r1 hm1 => ?_
  cases r1 <;> try exact hm1.elim
  rename_i a C dd c ps hc hg rx
  simp only at hm1
  cases rx with
  | none => simp at hm1
  | some hd rf =>
    rename_i d vs
    rcases rf.look (f := f) with ⟨e, _⟩ | ⟨x, y, e1, e2, ry⟩
    · rw [e] at hm1
      exact hm1.elim
    · rw [e1] at hm1
      exact ⟨a, C, d, vs, y, rfl, ok1.sub _ _ hg, ok1.sub _ _ hd, hx c C hc, hk c C hc, e2, (hq.step s1).here ok1 ry hm1⟩
theorem sim_peekN {i : Nat} {t : TE} {m : PEnv → M PV} (h : SimE z.nox.lock t m) (h2 : SimE z t m) : SimE z t (mPeek i m) := by
  intro σ env G H n Qp Q ok fr er hm hq
  unfold mPeek at hm
  split at hm
  · rename_i xs he
    exact peek_core (z := z.nox) (i := i) (xs := xs) rfl h ok fr.nox er.nox he hm fun v q G' H' n' ok' st' r' h' => hq v q G H' _ ok' st' (atom_rep h'.1 r') h'.2
  · exact h2 σ env G H n Qp Q ok fr er hm hq
theorem sim_peekTN {i : Nat} {t : TT} {m : PEnv → M Bool} (h : SimT z.nox.lock t m) (h2 : SimT z t m) : SimT z t (mPeekT i m) := by
  intro σ env G H n Qp Q ok fr er hm hq
  unfold mPeekT at hm
  split at hm
  · rename_i xs he
    exact peek_core (z := z.nox) (i := i) (xs := xs) rfl h ok fr.nox er.nox he hm fun v q G' H' n' ok' st' r' h' => hq v q G H' _ ok' st' r' h'
  · exact h2 σ env G H n Qp Q ok fr er hm hq
end
def noOwn (env : PEnv) : PEnv := env.map fun s => match s with
  | .val q => .val q
  | _ => .no
def mGive (mh : Addr → M PV → SN → (PV → SN → Prop) → Prop) (body : PEnv → M PV) : PEnv → M PV := fun env _ n Q => ∀ f : Addr, mh f (fun W' n' Q' => body (noOwn env) W' n' Q') n Q
def mAsk (f : Addr) (act : M PV) : PEnv → M PV := fun env W n Q => match env[(0 : Nat)]? with
  | some (.val (.ext (.ref g))) => g = f ∧ act W n Q
  | _ => False
section
variable {z : Z}
theorem EnvRel.noOwn {z' : Z} {G H : Hp} {σ : L2.St} {env : PEnv} (eK : z'.K = z.K) (ec : z'.cm = z.cm) (ep : z'.p = z.p) (e : EnvRel z G H σ env) : EnvRel z' G H σ (noOwn env) := by
  unfold Pu.noOwn
  have at_ : ∀ (i : Nat) (s : Slot), (env.map fun s => match s with
      | .val q => .val q
      | _ => .no)[i]? = some s → s.isOwn = false ∧ ∃ x, σ[i]? = some x ∧ SlotRel z' G H x s := fun i s h => by
    rw [List.getElem?_map] at h
    obtain ⟨s0, h0, rfl⟩ := Option.map_eq_some_iff.mp h
    obtain ⟨x, hx, r⟩ := e.at_ i s0 h0
    cases s0 with
    | val q =>
      obtain ⟨v, ev, rv⟩ := r
      refine ⟨rfl, x, hx, v, ev, ?_⟩
      show Rep z'.K z'.cm z'.p G v q
      rw [eK, ec, ep]
      exact rv
    | no => exact ⟨rfl, x, hx, trivial⟩
    | own ps => exact ⟨rfl, x, hx, trivial⟩
    | odc ps => exact ⟨rfl, x, hx, trivial⟩
    | obj c fs => exact ⟨rfl, x, hx, trivial⟩
  refine ⟨fun i s h => (at_ i s h).2, fun i j s s' a _ hi _ os _ _ _ => ?_, by rw [List.length_map]; exact e.len⟩
  rw [(at_ i s hi).1] at os
  cases os
theorem Pen.ext {H H' : Hp} {p c : Addr} {n : Int} (h : Ev.Pen H p c n) (e : ExtN H H') : Ev.Pen H' p c n := by
  obtain ⟨t, g, ns, h1, h2, r⟩ := h
  exact ⟨t, g, ns, e _ _ h1 (fun ps z => by cases z), e _ _ h2 (fun ps z => by cases z), r⟩
end
section
variable {z : Z}
theorem EnvRel.ownN {G H G' H' : Hp} {σ : L2.St} {env : PEnv} {i : Nat} {a : Addr} {s : Pu.Slot} (e : EnvRel z G H σ env) (hs : σ[i]? = some (some (.ref a))) (he : env[i]? = some s) (os : s.isOwn = true)
    (st : Step z.cm z.c (fun b => b = z.p ∨ b = a) G H G' H') : EnvRel z G' H' σ (env.set i .no) := by
  refine ⟨fun j u hj => ?_, fun j k u u' b njk hj hk ou ou' aj ak => ?_, by rw [List.length_set, e.len]⟩
  · rcases get_set hj with ⟨rfl, rfl, hl⟩ | ⟨ne, hj⟩
    · exact ⟨_, hs, trivial⟩
    · obtain ⟨y, hy, r⟩ := e.at_ j u hj
      refine ⟨y, hy, ?_⟩
      have na : ∀ b, u.isOwn = true → y = some (.ref b) → b ≠ a := fun b ou yb q => by
        subst q
        exact e.df j i u s b ne hj he ou os (by rw [hy, yb]) hs
      have mi : ∀ {b o}, H b = some o → NT0 o → Mine z G b → Mine z G' b := fun {b o} hb nt m => by
        refine ⟨?_, m.p, m.c, m.h⟩
        cases q : G' b with
        | none => rfl
        | some v =>
          have := st.new b v q ⟨o, hb, nt⟩
          rw [m.g] at this
          cases this
      cases u with
      | no => trivial
      | val q => exact let ⟨v, e, r⟩ := r; ⟨v, e, r.mono st.same⟩
      | own ps =>
        obtain ⟨b, vs, rfl, hb, mb, h0, rb⟩ := r
        refine ⟨b, vs, rfl, st.keep _ _ hb (fun q => ?_) ko_lst, mi hb nt0_lst mb, h0, rb.mono st.same⟩
        rcases q with q | q
        · exact mb.p q
        · exact na b rfl rfl q
      | odc ps =>
        obtain ⟨b, vs, rfl, hb, mb, h0, rb⟩ := r
        refine ⟨b, vs, rfl, st.keep _ _ hb (fun q => ?_) ko_dK, mi hb nt0_dK mb, h0, rb.mono st.same⟩
        rcases q with q | q
        · exact mb.p q
        · exact na b rfl rfl q
      | obj c fs =>
        obtain ⟨b, C, dx, vs, rfl, hc, hb, mb, rb, me⟩ := r
        refine ⟨b, C, dx, vs, rfl, hc, st.keep _ _ hb (fun q => ?_) (ko_ins hc), mi hb nt0_ins mb, rb.mono st.same, me⟩
        rcases q with q | q
        · exact mb.p q
        · exact na b rfl rfl q
  · have key : ∀ {j : Nat} {u : Pu.Slot}, (env.set i .no)[j]? = some u → u.isOwn = true → ∃ w : Pu.Slot, env[j]? = some w ∧ w.isOwn = true := fun {j u} hj ou => by
      rcases get_set hj with ⟨rfl, rfl, hl⟩ | ⟨ne, hj⟩
      · cases ou
      · exact ⟨u, hj, ou⟩
    obtain ⟨w, hw, ow⟩ := key hj ou
    obtain ⟨w', hw', ow'⟩ := key hk ou'
    exact e.df j k w w' b njk hw hw' ow ow' aj ak
theorem sim_supX {cn : Str} {C : Addr} {k : Nat} {m : Str → List (Str × PV) → List PV → M (List (Str × PV))} {E : XK} {ta : TA} {ma : PEnv → M (List PV)} (hW : ∃ wp, z.W = fun _ => wp) (hl : Link z E) (hc : z.cm cn = some C) (ha : SimA z ta ma) : SimS z (Ev.tSup C (spI z.K z.cm k m) [] E ta) (mSup cn k m ma) := by
  intro σ env G H n D Dp ok fr er hm ed
  unfold mSup at hm
  split at hm
  · rename_i c fs he
    obtain ⟨rfl, hm⟩ := hm
    obtain ⟨_, hx, a, C', dx, vs, rfl, hc', hh, mine, rf, me⟩ := er.at_ 0 _ he
    rw [hc] at hc'
    cases hc'
    refine ⟨a, dx, vs, hx, hh, ?_⟩
    refine ha.bind ok fr er hm fun us args G1 H1 n1 ok1 fr1 er1 s1 r1 hm1 => ?_
    obtain ⟨_, hx1, a1, C1, dx1, vs1, e1, hc1, hh1, mine1, rf1, me1⟩ := er1.at_ 0 _ he
    rw [hx] at hx1
    cases Option.some.inj hx1
    cases e1
    rw [hc] at hc1
    cases hc1
    rw [List.append_nil]
    refine ⟨z.p, z.c, G1, n1, c, C, a, dx1, us, vs1, fs, args, z.W env, _, rfl, by rw [r1.len]; exact hm1.1, ok1, hc, hh1, mine1.g, mine1.p, mine1.c, rf1, r1, hm1.2, fun vf' fs' G' H' n' ok' st' hx' gx' rf' hq' => ?_, fun cn fs2 C2 d G' H' n' ok' st' hc2 rx hw => ?_⟩
    · refine ed.nx σ _ G' H' n' (s1.same.trans st'.same) ok' (fr1.own mine1 st') ?_ hq'
      exact er1.own hx he rfl rfl st' ⟨a, C, dx1, vf', rfl, hc, hx', ⟨gx', mine1.p, mine1.c, mine1.h⟩, rf', me1⟩
    · obtain ⟨wp, hW⟩ := hW
      refine hl σ (env.set 0 .no) G' H' n' cn fs2 C2 d ok' (fr1.own mine1 st') (er1.ownN hx he rfl st') hc2 rx ?_
      rw [hW] at hw ⊢
      exact hw
  · exact hm.elim
end
theorem qinitSX {P : Program} {w : World} {K : PySem.W.Frag} {mg : Str → Option Value} {base : Heap} {x qual : Str} {st : Stmt} {f cc D f2 : Addr} {fd fd2 : FuncData} {N ps ps2 : List Str} {k k2 k3 : Nat} {cm : Md} {cn0 : Str}
    {pre post : List Stmt} {p0 p1 apos pos pos' : Pos} {e : Expr} {es : List Expr} {ar : Arg} {m2 : Str → List (Str × PV) → List PV → M (List (Str × PV))} {b1 b2 : MS} {ma : PEnv → M (List PV)} (hN : ps.length ≤ N.length)
    (F : Ev.FnS P K x qual st f cc D fd) (S : Ev.ScS N ps (C8.fnScope st)) (SP : Ev.Sup P K mg D "__init__" f2) (hcn : cm cn0 = some D) (hp : ((C8.fnArgs st).posonlyargs ++ (C8.fnArgs st).args).head? = some ar) (hn : N[0]? = some ar.arg) (hpa : (C8.fnScope st).names.lookup ar.arg = some .local)
    (hbd : C8.fnBody st = pre ++ (.Expr (.Call (.Attribute (.Call (.Name "super" p0) [] [] p1) "__init__" apos) (e :: es) [] pos) pos' :: post))
    (F2 : Ev.GOk P w K mg base (L2.CX P w) k2 f2 fd2 ps2 (spI K cm k3 m2)) (hk2 : k2 ≤ k) (hb2 : Binds K fd2 ps2 [])
    (hb : ∀ (cda : Addr) (A : Around) (outer : List Env) (s : Shared) (H : Hp) (E : XK), (A.deeper (PySem.W.ksEnv qual (C8.fnScope st) s.heap.objs.size f (.ref cda) cc)).guards = some [] → Room k (A.deeper (PySem.W.ksEnv qual (C8.fnScope st) s.heap.objs.size f (.ref cda) cc)) →
      ∃ t1 ta t2, PSs (Ev.cxS (L2.CX P w) P w K mg base N qual (C8.fnScope st) f cda cc A outer s H E) pre t1 ∧ PA (Ev.cxS (L2.CX P w) P w K mg base N qual (C8.fnScope st) f cda cc A outer s H E) (e :: es) ta ∧ PSs (Ev.cxS (L2.CX P w) P w K mg base N qual (C8.fnScope st) f cda cc A outer s H E) post t2 ∧
        ∀ z : Z, z.K = K → z.cm = cm → (∃ wp, z.W = fun _ => wp) → Link z E → SimS z t1 b1 ∧ SimA z ta ma ∧ SimS z t2 b2)
    (hst : ∀ env : Env, starEach (e :: es) env = (false, eval e env) :: starEach es env) (hpl : ∀ env : Env, (backTo pos (starEach es env)).any (·.1) = false)
    (pl : Env → Sem Bool) (hev : ∀ env : Env, eval (.Call (.Attribute (.Call (.Name "super" p0) [] [] p1) "__init__" apos) (e :: es) [] pos) env = (do
      let ov ← attributeBase (.Call (.Name "super" p0) [] [] p1) "__init__" env (eval (.Call (.Name "super" p0) [] [] p1) env)
      standAt apos.atName
      let (f, first) ← holding [ov] (getMethod ov "__init__" (pl env))
      callWith pos f first (backTo pos (starEach (e :: es) env)) [])) :
    Ev.GOk P w K mg base (L2.CX P w) (k + 1) f fd ps (spI K cm ps.length (mInitX N.length (mSeq b1 (mSeq (mSup cn0 k3 m2 ma) b2)))) := by
  refine Ev.gfnS (dvs := []) F S SP hp hn hpa (by decide +kernel) hbd (fun vs H Q E h => ?_) F2 hk2 hb2 .nil (fun cda A outer s H vs Q E hgd hr h => ?_) hst hpl pl hev
  · obtain ⟨_, _, _, _, _, _, _, _, us, _, _, _, _, _, rfl, hl, _⟩ := h
    exact hl
  · obtain ⟨p, c, G, n, cn, C, x, dx, us, vf, fs, args, Wp, Qp, rfl, hl, ok, hc, hx, gx, nxp, nxc, rf, rl, hm, hq, hxx⟩ := h
    obtain ⟨t1, ta, t2, q1, qa, q2, hs⟩ := hb cda A outer s H E hgd hr
    refine ⟨t1, ta, t2, E, q1, qa, q2, Ev.passE (takes_of rfl rfl rfl rfl), ?_⟩
    have es : L2.start N (V.ref x :: us) = some (.ref x) :: (us.map some ++ List.replicate (N.length - 1 - us.length) none) := by
      simp [L2.start]
      omega
    rw [es]
    have er := envStart (z := ⟨K, cm, p, c, H, G, fun b => b = p ∨ b = x, fun _ => Wp, G, x, C, dx, c.lk⟩) (H := H) (k := N.length - 1) rl (by omega)
    have lk : Link ⟨K, cm, p, c, H, G, fun b => b = p ∨ b = x, fun _ => Wp, G, x, C, dx, c.lk⟩ E := fun σ env G' H' n' cn fs C d ok' fr' er' hc rx hw => hxx cn fs C d G' H' n' ok' fr'.st hc rx hw
    obtain ⟨s1, s2, s3⟩ := hs ⟨K, cm, p, c, H, G, fun b => b = p ∨ b = x, fun _ => Wp, G, x, C, dx, c.lk⟩ rfl rfl ⟨_, rfl⟩ lk
    refine (sim_seq s1 (sim_seq (sim_supX ⟨_, rfl⟩ lk hcn s2) s3)) _ (.obj cn fs :: startP (N.length - 1) args) G H n _ _ ok ⟨Step.refl _ _ _, .inl rfl, Same.refl _, id⟩ ⟨fun i s h => ?_, fun i j s s' a nij hi hj os os' _ _ => ?_, by simp [er.len]⟩ hm ⟨fun σ env G' H' n' _ ok' fr' er' h' => ?_, fun _ _ _ _ _ _ _ _ _ h' => h'.elim, fun _ _ _ _ _ _ _ _ _ h' => h', fun _ _ _ _ _ _ _ _ _ h' => h'⟩
    · cases i with
      | zero =>
        cases h
        exact ⟨_, rfl, x, C, dx, vf, rfl, hc, hx, ⟨gx, nxp, nxc, .inr (.inr rfl)⟩, rf, rfl, rfl, rfl⟩
      | succ i => exact er.at_ i s h
    · have key : ∀ (l : Nat) (u : Pu.Slot), (Pu.Slot.obj cn fs :: startP (N.length - 1) args)[l]? = some u → u.isOwn = true → l = 0 := fun l u hl ou => by
        cases l with
        | zero => rfl
        | succ l =>
          have := startP_own (show (startP (N.length - 1) args)[l]? = some u from hl)
          rw [this] at ou
          cases ou
      exact nij ((key i s hi os).trans (key j s' hj os').symm)
    · have h' : initEnd Qp env n' := h'
      unfold initEnd at h'
      split at h'
      · rename_i fs' rest _
        obtain ⟨_, _, a, C', dx', vf', _, hc', hh, mine, rf', rfl, rfl, rfl⟩ := er'.at_ 0 _ rfl
        exact hq vf' fs' G' H' n' ok' fr'.st hh mine.g rf' h'
      · exact h'.elim
end Pu
namespace Pu
open PySem PySem.Spec PyProof.Rows L2
def mFmt (a : PEnv → M PV) : PEnv → M PV := fun env W n Q => a env W n fun x n1 => match x with
  | .str y => y.length ≤ 1000000 ∧ Q (.str y) n1
  | .int i => i.natAbs.log2 < 1920 ∧ Q (.str (toString i)) n1
  | _ => False
def mJs : List (PEnv → M PV) → Str → PEnv → XP → SN → (Str → SN → Prop) → Prop
  | [], acc, _, _, n, Q => Q acc n
  | m :: ms, acc, env, W, n, Q => m env W n fun x n1 => match x with
    | .str y => (acc ++ y).length ≤ 1000000 ∧ mJs ms (acc ++ y) env W n1 Q
    | _ => False
def mJoined (ms : List (PEnv → M PV)) : PEnv → M PV := fun env W n Q => mJs ms Str.empty env W n fun out n1 => Q (.str out) n1
inductive SJ (z : Z) : List TE → List (PEnv → M PV) → Prop where
  | nil : SJ z [] []
  | cons {t : TE} {m : PEnv → M PV} {ts : List TE} {ms : List (PEnv → M PV)} (h : SimE z t m) (r : SJ z ts ms) : SJ z (t :: ts) (m :: ms)
section
variable {z : Z}
theorem sim_fmt {te : TE} {m : PEnv → M PV} (h : SimE z te m) : SimE z (tFmt te) (mFmt m) := by
  intro σ env G H n Qp Q ok fr er hm hq
  refine h.bind ok fr er hm fun x px G1 H1 n1 ok1 fr1 er1 s1 r1 hm1 => ?_
  cases r1 <;> try exact hm1.elim
  · exact .inr ⟨_, rfl, hm1.1, (hq.step s1).here ok1 (.str _) hm1.2⟩
  · exact .inl ⟨_, rfl, line_of hm1.1, (hq.step s1).here ok1 (.str _) hm1.2⟩
theorem sj_run {ts : List TE} {ms : List (PEnv → M PV)} (h : SJ z ts ms) : ∀ (acc : Str) (σ : L2.St) (env : PEnv) (G H : Hp) (n : SN) (Qp : Str → SN → Prop) (Q : Str → Hp → Prop), Ok z.K z.cm z.p z.c G H n → Fr z G H → EnvRel z G H σ env → mJs ms acc env (z.W env) n Qp →
    (∀ out G' H' n', Ok z.K z.cm z.p z.c G' H' n' → Step z.cm z.c (· = z.p) G H G' H' → Qp out n' → Q out H') → tJs ts acc σ H Q := by
  induction h with
  | nil => exact fun acc σ env G H n Qp Q ok fr er hm hq => hq acc G H n ok (Step.refl _ _ _) hm
  | cons h r ih =>
    intro acc σ env G H n Qp Q ok fr er hm hq
    refine Sim.bind (z := z) (R := z.rep) h ok fr er hm fun x px G1 H1 n1 ok1 fr1 er1 s1 r1 hm1 => ?_
    cases r1 <;> try exact hm1.elim
    exact ⟨_, rfl, line_of hm1.1, ih _ σ env G1 H1 n1 Qp Q ok1 fr1 er1 hm1.2 fun out G' H' n' ok' st' h' => hq out G' H' n' ok' (s1.trans st' fun _ x => x) h'⟩
theorem sim_joined {ts : List TE} {ms : List (PEnv → M PV)} (h : SJ z ts ms) : SimE z (fun σ H Q => tJs ts Str.empty σ H fun out H1 => Q (.str out) H1) (mJoined ms) :=
  fun σ env G H n Qp Q ok fr er hm hq => sj_run h _ σ env G H n _ _ ok fr er hm fun out G' H' n' ok' st' h' => hq (.str out) (.str out) G' H' n' ok' st' (.str _) h'
end
def mSetIx (i : Nat) (ix e : PEnv → M PV) : MS := fun W D env n => e env (W env) n fun v n1 => match env[i]? with
  | some (.own xs) => ix env (W env) n1 fun k n2 => match k with
    | .int k => match ixN xs.length k with
      | some j => D.nx (env.set i (.own (xs.set j v))) n2
      | none => False
    | _ => False
  | _ => False
def mOwnList (i : Nat) (r : PEnv → M (List PV)) : MS := fun W D env n => r env (W env) n fun ys n1 => match ys with
  | [.lst xs] => D.nx (env.set i (.own xs)) n1
  | [.tup xs] => D.nx (env.set i (.own xs)) n1
  | _ => False
def mParOwn (i j : Nat) (ma : PEnv → M (List PV)) (mb : PEnv → M PV) : MS := fun W D env n => ma env (W env) n fun ys n1 => match ys with
  | [.lst xs] => mb env (W env) n1 fun y n2 => D.nx ((env.set i (.own xs)).set j (.val y)) n2
  | [.tup xs] => mb env (W env) n1 fun y n2 => D.nx ((env.set i (.own xs)).set j (.val y)) n2
  | _ => False
theorem repL_set {K : PySem.W.Frag} {cm : Md} {p : Addr} {G : Hp} {v : V} {q : PV} (r : Rep K cm p G v q) : ∀ {vs : List V} {ps : List PV} {j : Nat}, RepL K cm p G vs ps → RepL K cm p G (vs.set j v) (ps.set j q)
  | _, _, _, .nil => .nil
  | _, _, 0, .cons _ t => .cons r t
  | _, _, _ + 1, .cons h t => .cons h (repL_set r t)
section
variable {z : Z}
theorem sim_setIx {i : Nat} {te ti : TE} {me mi : PEnv → M PV} (he : SimE z te me) (hi : SimE z ti mi) : SimS z (tAsg te (gSub (tVar i) ti rSetL)) (mSetIx i mi me) := by
  intro σ env G H n D Dp ok fr er hm ed
  refine he.bind ok fr er hm fun v q G1 H1 n1 ok1 fr1 er1 s1 r1 hm1 => ?_
  split at hm1
  · rename_i ps hown
    obtain ⟨_, hx, a, vs, rfl, hh, mine, h0, rl⟩ := er1.at_ i _ hown
    refine ⟨_, hx, ?_⟩
    refine hi.bind ok1 fr1 er1 hm1 fun k kq G2 H2 n2 ok2 fr2 er2 s2 r2 hm2 => ?_
    obtain ⟨_, hx2, a2, vs2, e2, hh2, mine2, h02, rl2⟩ := er2.at_ i _ hown
    rw [hx] at hx2
    cases Option.some.inj hx2
    cases e2
    cases r2 <;> try exact hm2.elim
    rename_i kk
    simp only at hm2
    split at hm2
    · rename_i j hj
      refine ⟨a, vs2, kk, j, rfl, rfl, hh2, by rw [rl2.len]; exact hj, ?_⟩
      refine ed.nx _ _ G2 _ n2 (s1.same.trans s2.same) (ok2.set mine2 hh2) (fr2.set mine2) ?_ hm2
      exact er2.store hx hown rfl rfl mine2 ⟨a, _, rfl, upd_same, mine2, h02, repL_set (r1.mono s2.same) rl2⟩
    · exact hm2.elim
  · exact hm1.elim
theorem sim_ownList {i : Nat} {ta : TA} {m : PEnv → M (List PV)} (h : SimA z ta m) : SimS z (tAsg (tCB (fun xs H Q => ∃ p ys, xs = [.ref p] ∧ (SqL z.K H p ys ∨ SqT z.K H p ys) ∧ ∀ l, H l = none → Q (.ref l) (upd H l (.lst ys))) ta) (gName i)) (mOwnList i m) := by
  intro σ env G H n D Dp ok fr er hm ed
  refine h.bind ok fr er hm fun xs ps G1 H1 n1 ok1 fr1 er1 s1 r1 hm1 => ?_
  have fin : ∀ {a : Addr} {vs : List V} {qs : List PV}, z.repL G1 vs qs → Dp.nx (env.set i (.own qs)) n1 → ∀ l, H1 l = none → D.nx (σ.set i (some (.ref l))) (upd H1 l (.lst vs)) := fun {a vs qs} rl hk q hq1 => by
    obtain ⟨ok2, s2⟩ := ok1.newO (o := .lst vs) hq1
    have mine := ok1.mine fr1 hq1
    refine ed.nx _ _ G1 _ n1 s1.same ok2 (fr1.stepP s2) ?_ hk
    refine (er1.step s2).set ⟨q, vs, rfl, upd_same, mine, fr1.h0 hq1, rl⟩ fun _ j s' b nj hj os' hb eb => ?_
    cases Option.some.inj eb
    obtain ⟨x, hx, rx⟩ := er1.at_ j s' hj
    rw [hx] at hb
    cases Option.some.inj hb
    cases s' with
    | no => cases os'
    | val _ => cases os'
    | own ps =>
      obtain ⟨b, vs, e, hb, _⟩ := rx
      cases e
      rw [hq1] at hb
      cases hb
    | odc ps =>
      obtain ⟨b, vs, e, hb, _⟩ := rx
      cases e
      rw [hq1] at hb
      cases hb
    | obj c fs =>
      obtain ⟨b, C, dx, vs, e, _, hb, _⟩ := rx
      cases e
      rw [hq1] at hb
      cases hb
  split at hm1
  · cases r1 with
    | cons r t =>
      cases t
      cases r with
      | lst hs rl => exact ⟨_, _, rfl, .inl (SqL.of (ok1.sub _ _ hs)), fin (a := 0) rl hm1⟩
  · cases r1 with
    | cons r t =>
      cases t
      cases r with
      | tup hs rl => exact ⟨_, _, rfl, .inr (Ev.Same.seqT ok1.sub hs), fin (a := 0) rl hm1⟩
  · exact hm1.elim
theorem sim_parOwn {i j : Nat} {ta : TA} {tb : TE} {ma : PEnv → M (List PV)} {mb : PEnv → M PV} (ha : SimA z ta ma) (hb : SimE z tb mb) :
    SimS z (tPar i j (tCons (tCB (fun xs H Q => ∃ p ys, xs = [.ref p] ∧ (SqL z.K H p ys ∨ SqT z.K H p ys) ∧ ∀ l, H l = none → Q (.ref l) (upd H l (.lst ys))) ta) (tCons tb tNil))) (mParOwn i j ma mb) := by
  intro σ env G H n D Dp ok fr er hm ed
  refine ha.bind ok fr er hm fun xs ps G1 H1 n1 ok1 fr1 er1 s1 r1 hm1 => ?_
  have fin : ∀ {vs : List V} {qs : List PV}, z.repL G1 vs qs → (mb env (z.W env) n1 fun y n2 => Dp.nx ((env.set i (.own qs)).set j (.val y)) n2) → ∀ l, H1 l = none →
      (tCons tb tNil) σ (upd H1 l (.lst vs)) (fun ws H2 => ∃ x y, V.ref l :: ws = [x, y] ∧ D.nx ((σ.set i (some x)).set j (some y)) H2) := fun {vs qs} rl hk q hq1 => by
    obtain ⟨ok2, s2⟩ := ok1.newO (o := .lst vs) hq1
    have mine := ok1.mine fr1 hq1
    refine hb.bind ok2 (fr1.stepP s2) (er1.step s2) hk fun y py G3 H3 n3 ok3 fr3 er3 s3 r3 hm3 => ?_
    refine ⟨_, _, rfl, ?_⟩
    have g3 : G3 q = none := by
      cases e : G3 q with
      | none => rfl
      | some o =>
        have := s3.new q o e ⟨_, upd_same, nt0_lst⟩
        rw [mine.g] at this
        cases this
    have mine3 : Mine z G3 q := ⟨g3, mine.p, mine.c, mine.h⟩
    refine ed.nx _ _ G3 H3 n3 ((s1.same.trans s2.same).trans s3.same) ok3 fr3 (EnvRel.setV ?_ r3) hm3
    refine er3.set ⟨q, vs, rfl, s3.keep _ _ upd_same mine.p ko_lst, mine3, fr1.h0 hq1, (rl.mono s2.same).mono s3.same⟩ fun _ j s' b nj hj os' hb eb => ?_
    cases Option.some.inj eb
    obtain ⟨x, hx, rx⟩ := er1.at_ j s' hj
    rw [hx] at hb
    cases Option.some.inj hb
    cases s' with
    | no => cases os'
    | val _ => cases os'
    | own ps =>
      obtain ⟨b, vs, e, hb, _⟩ := rx
      cases e
      rw [hq1] at hb
      cases hb
    | odc ps =>
      obtain ⟨b, vs, e, hb, _⟩ := rx
      cases e
      rw [hq1] at hb
      cases hb
    | obj c fs =>
      obtain ⟨b, C, dx, vs, e, _, hb, _⟩ := rx
      cases e
      rw [hq1] at hb
      cases hb
  split at hm1
  · cases r1 with
    | cons r t =>
      cases t
      cases r with
      | lst hs rl => exact ⟨_, _, rfl, .inl (SqL.of (ok1.sub _ _ hs)), fin rl hm1⟩
  · cases r1 with
    | cons r t =>
      cases t
      cases r with
      | tup hs rl => exact ⟨_, _, rfl, .inr (Ev.Same.seqT ok1.sub hs), fin rl hm1⟩
  · exact hm1.elim
end
end Pu
namespace Ev
open PySem PySem.Spec PyProof.Rows L2
end Ev
namespace Pu
open PySem PySem.Spec PyProof.Rows L2
def pIxA : PV → PV → M PV := fun x y _ n Q => match x, y with
  | .lst xs, .int i => match atI xs i with
    | some v => Q v n
    | none => False
  | .tup xs, .int i => match atI xs i with
    | some v => Q v n
    | none => False
  | _, _ => False
theorem simR_ixA {z : Z} : SimR z (rIx z.K) pIxA := by
  intro σ env G H n Qp Q x y px py ok fr er rx ry hm hq
  cases rx <;> try exact hm.elim
  · exact .inl (simR_ixL σ env G H n Qp Q _ y _ py ok fr er (.lst (by assumption) (by assumption)) ry (by cases ry <;> first | exact hm | exact hm.elim) hq)
  · exact .inr (.inl (simR_ixT σ env G H n Qp Q _ y _ py ok fr er (.tup (by assumption) (by assumption)) ry (by cases ry <;> first | exact hm | exact hm.elim) hq))
end Pu
namespace Ev
open PySem PySem.Spec PyProof.Rows L2
def kD : Key → PyData
  | .inl i => .int i
  | .inr x => .str x
mutual
inductive Dq (K : PySem.W.Frag) (H : Hp) : V → PyData → Prop
  | non : Dq K H .non .none
  | bl (b : Bool) : Dq K H (.bl b) (.bool b)
  | int (i : Int) : Dq K H (.int i) (.int i)
  | str (x : Str) : Dq K H (.str x) (.str x)
  | lst {a : Addr} {xs : List V} {ds : List PyData} : SqL K H a xs → DqAll K H xs ds → Dq K H (.ref a) (.list ds)
  | tup {a : Addr} {xs : List V} {ds : List PyData} : SqT K H a xs → DqAll K H xs ds → Dq K H (.ref a) (.tuple ds)
  | dK {a : Addr} {kvs : List (Key × V)} {ds : List (PyData × PyData)} : H a = some (.dK kvs) → DqK K H kvs ds → Dq K H (.ref a) (.dict ds)
inductive DqAll (K : PySem.W.Frag) (H : Hp) : List V → List PyData → Prop
  | nil : DqAll K H [] []
  | cons {v : V} {vs : List V} {d : PyData} {ds : List PyData} : Dq K H v d → DqAll K H vs ds → DqAll K H (v :: vs) (d :: ds)
inductive DqK (K : PySem.W.Frag) (H : Hp) : List (Key × V) → List (PyData × PyData) → Prop
  | nil : DqK K H [] []
  | cons {k : Key} {v : V} {vs : List (Key × V)} {d : PyData} {ds : List (PyData × PyData)} : Dq K H v d → DqK K H vs ds → DqK K H ((k, v) :: vs) ((kD k, d) :: ds)
end
section
variable {X : Cx} {pins : List (Addr × Obj)} {σ : L2.St} {H : Hp} {s : Shared}
theorem sm_ne (I : Inv X pins σ H s) (sm : SM X.base) {a : Addr} {o : Obj} {ws : Array Value} {n : Nat} (h : s.heap.get? a = some o) (hd : o.data = .seq ws n) : a ≠ sysModules := fun e => by
  obtain ⟨o2, h2, h3⟩ := sm
  subst e
  rw [(I.bs _ _ h2).1] at h
  cases h
  exact h3 _ _ hd
mutual
theorem Dq.reads (I : Inv X pins σ H s) (sm : SM X.base) : ∀ (d : PyData) (v : V) (u : Value), Dq X.K H v d → RelV v u → ∃ as, Reads s.heap u d as ∧ sysModules ∉ as
  | .none, _, _, h, r => by
    cases h
    cases r
    exact ⟨_, Reads.none, by simp⟩
  | .bool b, _, _, h, r => by
    cases h
    cases r
    exact ⟨_, Reads.bool b, by simp⟩
  | .int i, _, _, h, r => by
    cases h
    obtain ⟨t, rfl⟩ := r
    exact ⟨_, Reads.int i t, by simp⟩
  | .str x, _, _, h, r => by
    cases h
    obtain ⟨t, rfl⟩ := r
    exact ⟨_, Reads.str x t, by simp⟩
  | .list ds, _, _, h, r => by
    cases h with
    | lst hs ha =>
      cases r
      obtain ⟨its, rv, ⟨o, n, ho, hc, _, hd⟩, _⟩ := I.list hs
      obtain ⟨as, hr, hn⟩ := Dq.readsAll I sm ds _ its ha rv
      refine ⟨_, Reads.list ho hc hd hr, fun h => ?_⟩
      rcases List.mem_cons.mp h with h | h
      · exact sm_ne I sm ho hd h.symm
      · exact hn h
  | .tuple ds, _, _, h, r => by
    cases h with
    | tup hs ha =>
      cases r
      obtain ⟨its, rv, ⟨o, ho, hc, n, hd⟩, _⟩ := I.tuple hs
      obtain ⟨as, hr, hn⟩ := Dq.readsAll I sm ds _ its ha rv
      exact ⟨_, Reads.tuple ho hc hd hr, hn⟩
  | .dict ds, _, _, h, r => by
    cases h with
    | dK hs ha =>
      rename_i a kvs
      cases r
      obtain ⟨_, hz, vs, rel, o, es, ep, ho, hx, hd, _, hp, _⟩ := dk_of I.hok hs
      obtain ⟨as, bs, h1, h2, n1, n2⟩ := Dq.readsK I sm ds _ vs es.toList ha rel hp
      refine ⟨_, Reads.dict ho hx.1 hd h1 h2, fun h => ?_⟩
      rcases List.mem_append.mp h with h | h
      · rcases List.mem_cons.mp h with h | h
        · subst h
          exact absurd hz (by decide)
        · exact n1 h
      · exact n2 h
theorem Dq.readsAll (I : Inv X pins σ H s) (sm : SM X.base) : ∀ (ds : List PyData) (vs : List V) (us : List Value), DqAll X.K H vs ds → Vals vs us → ∃ as, ReadsAll s.heap us ds as ∧ sysModules ∉ as
  | [], _, _, h, r => by
    cases h
    cases r
    exact ⟨_, ReadsAll.nil, by simp⟩
  | d :: ds, _, _, h, r => by
    cases h with
    | cons h1 h2 =>
      cases r with
      | cons r1 r2 =>
        obtain ⟨as, q1, n1⟩ := Dq.reads I sm d _ _ h1 r1
        obtain ⟨bs, q2, n2⟩ := Dq.readsAll I sm ds _ _ h2 r2
        exact ⟨_, ReadsAll.cons q1 q2, fun h => (List.mem_append.mp h).elim n1 n2⟩
theorem Dq.readsK (I : Inv X pins σ H s) (sm : SM X.base) : ∀ (ds : List (PyData × PyData)) (kvs : List (Key × V)) (vs : List (Key × Value)) (es : List DictEntry), DqK X.K H kvs ds → KV kvs vs → Pairs (mixKind X.prog X.w) es vs →
    ∃ as bs, ReadsAll s.heap (es.map (·.key)) (ds.map (·.1)) as ∧ ReadsAll s.heap (es.map (·.val)) (ds.map (·.2)) bs ∧ sysModules ∉ as ∧ sysModules ∉ bs
  | [], _, _, _, h, r, p => by
    cases h
    cases r
    cases p
    exact ⟨_, _, ReadsAll.nil, ReadsAll.nil, by simp, by simp⟩
  | (kd, d) :: ds, _, _, _, h, r, p => by
    cases h with
    | @cons k v vs0 _ _ h1 h2 =>
      cases r with
      | @cons _ q _ qs r1 r2 =>
        cases p with
        | @cons e _ es _ p1 p2 p3 =>
          obtain ⟨k', u⟩ := q
          obtain ⟨e1, r1⟩ := r1
          cases e1
          obtain ⟨as, q1, n1⟩ := Dq.reads I sm d _ _ h1 r1
          obtain ⟨as2, bs2, a2, b2, n2, n3⟩ := Dq.readsK I sm ds _ _ es h2 r2 p3
          have hk : ∃ cs, Reads s.heap e.key (kD k) cs ∧ sysModules ∉ cs := by
            rcases keyIs_shape p1 with ⟨i, t, h3, h4⟩ | ⟨x, t, h3, h4⟩
            · have h3 : k = Sum.inl i := h3
              subst h3
              rw [h4]
              exact ⟨_, Reads.int i t, by simp⟩
            · have h3 : k = Sum.inr x := h3
              subst h3
              rw [h4]
              exact ⟨_, Reads.str x t, by simp⟩
          obtain ⟨cs, k1, k2⟩ := hk
          refine ⟨_, _, ReadsAll.cons k1 a2, ReadsAll.cons (?_ : Reads s.heap e.val d _) b2, fun h => (List.mem_append.mp h).elim k2 n2, fun h => (List.mem_append.mp h).elim n1 n3⟩
          rw [p2]
          exact q1
end
end
structure ShowsD (d : PyData) : Prop where
  sh : d.showable = true
  dp : d.depth ≤ 64
  ln : d.shown.length ≤ 16777216
theorem Shows.d {d : PyData} (h : Shows d) : ShowsD d := ⟨h.sh, h.dp, Nat.le_trans (shown_le d h.sh h.nd) h.ct⟩
section
variable {X : Cx}
def rReprD (K : PySem.W.Frag) : List V → Hp → VK → Prop := fun vs H Q => ∃ (x : V) (d : PyData), vs = [x] ∧ Dq K H x d ∧ ShowsD d ∧ Q (.str d.shown) H
end
end Ev
namespace Pu
open PySem PySem.Spec PyProof.Rows L2
def putP (kvs : List (Key × PV)) (k : Key) (v : PV) : List (Key × PV) :=
  if (kvs.any fun kv => decide (kv.1 = k)) = true then kvs.map (fun kv => if kv.1 = k then (kv.1, v) else kv) else kvs ++ [(k, v)]
def mergeP (kvs more : List (Key × PV)) : List (Key × PV) := more.foldl (fun acc kv => putP acc kv.1 kv.2) kvs
def mPairs : List (Key × (PEnv → M PV)) → PEnv → M (List (Key × PV))
  | [] => fun _ _ n Q => Q [] n
  | (k, m) :: r => fun env W n Q => m env W n fun x n1 => mPairs r env W n1 fun xs n2 => Q ((k, x) :: xs) n2
def mDct (ms : List (Key × (PEnv → M PV))) : PEnv → M PV := fun env W n Q => mPairs ms env W n fun xs n1 => xs.length ≤ 15 ∧ Q (.dct (mergeP [] xs)) n1
mutual
def PV.dataD : PV → Option PyData
  | .non => some .none
  | .bl b => some (.bool b)
  | .int i => some (.int i)
  | .str s => some (.str s)
  | .lst xs => (datasD xs).map .list
  | .tup xs => (datasD xs).map .tuple
  | .dct xs => (datasK xs).map .dict
  | _ => none
def datasD : List PV → Option (List PyData)
  | [] => some []
  | x :: xs => match x.dataD, datasD xs with
    | some d, some ds => some (d :: ds)
    | _, _ => none
def datasK : List (Key × PV) → Option (List (PyData × PyData))
  | [] => some []
  | (k, x) :: xs => match x.dataD, datasK xs with
    | some d, some ds => some ((Ev.kD k, d) :: ds)
    | _, _ => none
end
mutual
theorem dq_of {K : PySem.W.Frag} {cm : Md} {p : Addr} {G H : Hp} (s : Same G H) : ∀ {v : V} {q : PV} {d : PyData}, Rep K cm p G v q → q.dataD = some d → Ev.Dq K H v d
  | _, _, _, .non, e => by cases e; exact .non
  | _, _, _, .bl b, e => by cases e; exact .bl b
  | _, _, _, .int b, e => by cases e; exact .int b
  | _, _, _, .str b, e => by cases e; exact .str b
  | _, .lst xs, _, .lst h r, e => by
    simp only [PV.dataD] at e
    obtain ⟨ds, hd, rfl⟩ := Option.map_eq_some_iff.mp e
    exact .lst (SqL.of (s _ _ h)) (dqa_of s r hd)
  | _, .tup xs, _, .tup h r, e => by
    simp only [PV.dataD] at e
    obtain ⟨ds, hd, rfl⟩ := Option.map_eq_some_iff.mp e
    exact .tup (Ev.Same.seqT s h) (dqa_of s r hd)
  | _, .dct xs, _, .dct h r, e => by
    simp only [PV.dataD] at e
    obtain ⟨ds, hd, rfl⟩ := Option.map_eq_some_iff.mp e
    exact .dK (s _ _ h) (dqk_of s r hd)
  | _, _, _, .ins _ _ _, e => by simp [PV.dataD] at e
  | _, _, _, .exc _ _ _, e => by simp [PV.dataD] at e
  | _, _, _, .pen, e => by simp [PV.dataD] at e
  | _, _, _, .ext _, e => by simp [PV.dataD] at e
  | _, _, _, .mob _, e => by simp [PV.dataD] at e
theorem dqa_of {K : PySem.W.Frag} {cm : Md} {p : Addr} {G H : Hp} (s : Same G H) : ∀ {v : List V} {q : List PV} {d : List PyData}, RepL K cm p G v q → datasD q = some d → Ev.DqAll K H v d
  | _, _, _, .nil, e => by cases e; exact .nil
  | _, x :: xs, _, .cons r t, e => by
    simp only [datasD] at e
    split at e
    · rename_i d ds hd hds
      cases e
      exact .cons (dq_of s r hd) (dqa_of s t hds)
    · cases e
theorem dqk_of {K : PySem.W.Frag} {cm : Md} {p : Addr} {G H : Hp} (s : Same G H) : ∀ {v : List (Key × V)} {q : List (Key × PV)} {d : List (PyData × PyData)}, RepK K cm p G v q → datasK q = some d → Ev.DqK K H v d
  | _, _, _, .nil, e => by cases e; exact .nil
  | _, (k, x) :: xs, _, .cons r t, e => by
    simp only [datasK] at e
    split at e
    · rename_i d ds hd hds
      cases e
      exact .cons (dq_of s r hd) (dqk_of s t hds)
    · cases e
end
def pReprD : List PV → M PV := fun xs _ n Q => match xs with
  | [x] => match x.dataD with
    | some d => Ev.ShowsD d ∧ Q (.str d.shown) n
    | none => False
  | _ => False
section
variable {K : PySem.W.Frag} {cm : Md} {p : Addr} {G : Hp}
theorem RepK.any (k : Key) : ∀ {v : List (Key × V)} {q : List (Key × PV)}, RepK K cm p G v q → (v.any fun kv => decide (kv.1 = k)) = q.any fun kv => decide (kv.1 = k)
  | _, _, .nil => rfl
  | _, _, .cons _ r => by rw [List.any_cons, List.any_cons, RepK.any k r]
theorem RepK.mapP {k : Key} {x : V} {y : PV} (h : Rep K cm p G x y) : ∀ {v : List (Key × V)} {q : List (Key × PV)}, RepK K cm p G v q → RepK K cm p G (v.map fun kv => if kv.1 = k then (kv.1, x) else kv) (q.map fun kv => if kv.1 = k then (kv.1, y) else kv)
  | _, _, .nil => .nil
  | _, _, .cons (k := j) r t => by
    rw [List.map_cons, List.map_cons]
    by_cases e : j = k
    · rw [if_pos e, if_pos e]
      exact .cons h (RepK.mapP h t)
    · rw [if_neg e, if_neg e]
      exact .cons r (RepK.mapP h t)
theorem RepK.append : ∀ {v v2 : List (Key × V)} {q q2 : List (Key × PV)}, RepK K cm p G v q → RepK K cm p G v2 q2 → RepK K cm p G (v ++ v2) (q ++ q2)
  | _, _, _, _, .nil, s => s
  | _, _, _, _, .cons r t, s => .cons r (RepK.append t s)
theorem RepK.put {k : Key} {x : V} {y : PV} {v : List (Key × V)} {q : List (Key × PV)} (h : Rep K cm p G x y) (r : RepK K cm p G v q) : RepK K cm p G (putK v k x) (putP q k y) := by
  unfold putK putP
  rw [r.any k]
  split
  · exact r.mapP h
  · exact r.append (.cons h .nil)
theorem RepK.merge : ∀ {m : List (Key × V)} {n : List (Key × PV)} {v : List (Key × V)} {q : List (Key × PV)}, RepK K cm p G m n → RepK K cm p G v q → RepK K cm p G (mergeK v m) (mergeP q n)
  | _, _, _, _, .nil, s => s
  | _, _, v, q, .cons (k := k) (v := x) (q := y) r t, s => RepK.merge (v := putK v k x) (q := putP q k y) t (s.put r)
theorem RepK.len : ∀ {v : List (Key × V)} {q : List (Key × PV)}, RepK K cm p G v q → v.length = q.length
  | _, _, .nil => rfl
  | _, _, .cons _ r => by rw [List.length_cons, List.length_cons, RepK.len r]
end
section
variable {z : Z}
theorem simC_reprD : SimC z (Ev.rReprD z.K) pReprD := by
  intro σ env G H n Qp Q xs ps ok fr er rl hm hq
  unfold pReprD at hm
  split at hm
  · split at hm
    · rename_i d hd
      cases rl with
      | cons r t =>
        cases t
        exact ⟨_, d, rfl, dq_of ok.sub r hd, hm.1, hq.here ok (.str _) hm.2⟩
    · exact hm.elim
  · exact hm.elim
def PrR (z : Z) (G : Hp) (ps : List (V × V)) (qs : List (Key × PV)) : Prop := ∃ kvs : List (Key × V), ps = kvs.map (fun kv => (kV kv.1, kv.2)) ∧ RepK z.K z.cm z.p G kvs qs
theorem sim_pnil : Sim z (PrR z) (tPairs []) (mPairs []) := fun σ env G H n Qp Q ok fr er hm hq => hq.here ok ⟨[], rfl, .nil⟩ hm
theorem sim_pcons {k : Key} {tv : TE} {trs : List (TE × TE)} {m : PEnv → M PV} {ms : List (Key × (PEnv → M PV))} (hv : SimE z tv m) (hr : Sim z (PrR z) (tPairs trs) (mPairs ms)) : Sim z (PrR z) (tPairs ((tC (kV k), tv) :: trs)) (mPairs ((k, m) :: ms)) := by
  intro σ env G H n Qp Q ok fr er hm hq
  show tv σ H fun y H2 => tPairs trs σ H2 fun ps H3 => Q ((kV k, y) :: ps) H3
  refine hv.bind ok fr er hm fun y py G1 H1 n1 ok1 fr1 er1 s1 r1 hm1 => ?_
  refine hr.bind ok1 fr1 er1 hm1 fun ps qs G2 H2 n2 ok2 fr2 er2 s2 r2 hm2 => ?_
  obtain ⟨kvs, rfl, r2⟩ := r2
  exact ((hq.step s1).step s2).here ok2 ⟨(k, y) :: kvs, rfl, .cons (r1.mono s2.same) r2⟩ hm2
theorem sim_pconsI {k : Int} {tv : TE} {trs : List (TE × TE)} {m : PEnv → M PV} {ms : List (Key × (PEnv → M PV))} (hv : SimE z tv m) (hr : Sim z (PrR z) (tPairs trs) (mPairs ms)) : Sim z (PrR z) (tPairs ((tC (.int k), tv) :: trs)) (mPairs ((.inl k, m) :: ms)) := sim_pcons (k := .inl k) hv hr
theorem sim_pconsS {k : Str} {tv : TE} {trs : List (TE × TE)} {m : PEnv → M PV} {ms : List (Key × (PEnv → M PV))} (hv : SimE z tv m) (hr : Sim z (PrR z) (tPairs trs) (mPairs ms)) : Sim z (PrR z) (tPairs ((tC (.str k), tv) :: trs)) (mPairs ((.inr k, m) :: ms)) := sim_pcons (k := .inr k) hv hr
theorem sim_dnew : SimE z tDNewK (mC (.dct [])) := by
  intro σ env G H n Qp Q ok fr er hm hq p hp
  obtain ⟨ok2, s2⟩ := ok.new (o := .dK []) hp nt0_dK
  exact (hq.step s2).here ok2 (.dct upd_same .nil) hm
theorem sim_disp {trs : List (TE × TE)} {ms : List (Key × (PEnv → M PV))} (h : Sim z (PrR z) (tPairs trs) (mPairs ms)) : SimE z (tDisp trs) (mDct ms) := by
  intro σ env G H n Qp Q ok fr er hm hq p hp
  obtain ⟨ok2, s2⟩ := ok.newO (o := .dK []) hp
  have np := Ev.Pen.ne ok.pen hp
  have nc := Ev.Pen.neC ok.pen hp
  refine h.bind ok2 (fr.stepP s2) (er.step s2) hm fun ps qs G1 H1 n1 ok1 fr1 er1 s1 r1 hm1 => ?_
  obtain ⟨kvs, rfl, r1⟩ := r1
  have hh : H1 p = some (.dK []) := s1.keep p _ upd_same np ko_dK
  have g1 : G1 p = none := by
    cases e : G1 p with
    | none => rfl
    | some o =>
      have := s1.new p o e ⟨_, upd_same, nt0_dK⟩
      rw [ok.free hp] at this
      cases this
  refine ⟨hh, kvs, rfl, by rw [r1.len]; exact hm1.1, ?_⟩
  have mine : Mine z G1 p := ⟨g1, np, nc, .inl (fr.h0 hp)⟩
  have ok3 := Ok.set (z := z) (o := .dK (mergeK [] kvs)) ok1 mine hh
  have sg : Same G1 (upd G1 p (.dK (mergeK [] kvs))) := fun b o e => Ev.get_new e g1
  have ok4 : Ok z.K z.cm z.p z.c (upd G1 p (.dK (mergeK [] kvs))) (upd H1 p (.dK (mergeK [] kvs))) n1 := ⟨fun b o e => by
    by_cases q : b = p
    · subst q
      rw [upd_same] at e ⊢
      exact e
    · rw [upd_ne q] at e ⊢
      exact ok1.sub _ _ e, ok3.pen, (upd_ne np.symm).trans ok1.gp, gc_upd nc.symm ok1.gc, ok3.tb, gt_upd ok1.gt nt0_dK, ok1.mu.setG hh nt_dK.2 g1, ok1.lk⟩
  have sa := s2.trans s1 fun _ q => q
  refine hq (.ref p) (.dct (mergeP [] qs)) _ _ n1 ok4 ⟨sa.same.trans sg, fun b o e nb nt => ?_, fun b o e nb => ?_, fun b hb => ?_⟩ (.dct upd_same ((RepK.merge (r1.mono sg) .nil))) hm1.2
  · refine Ev.get_ne (fun q => ?_) (sa.keep b o e nb nt)
    rw [q, hp] at e
    cases e
  · by_cases q : b = p
    · subst q
      exact (nb.no hp).elim
    · rw [upd_ne q] at e
      exact sa.new b o e nb
  · exact (sa.al b hb).upd nt0_dK
end
theorem merge0 : mergeP [] [] = [] := rfl
theorem merge1 {k : Key} {v : PV} : mergeP [] [(k, v)] = [(k, v)] := by simp [mergeP, putP]
end Pu
namespace Ev
open PySem PySem.Spec PyProof.Rows L2
section
variable {X : Cx}
def rMulS : R2 := fun x y H Q => ∃ (a : Str) (n : Int), x = .str a ∧ y = .int n ∧ MulOk a n ∧ Q (.str (Txt.mul a n)) H
end
end Ev
namespace Pu
open PySem PySem.Spec PyProof.Rows L2
def pMulS : PV → PV → M PV := fun x y _ n Q => match x, y with
  | .str a, .int i => MulOk a i ∧ Q (.str (Txt.mul a i)) n
  | _, _ => False
def pIntS : List PV → M PV := fun xs _ n Q => match xs with
  | [.str a] => match PySem.intText? a with
    | some i => a.length ≤ 640 ∧ Q (.int i) n
    | none => False
  | _ => False
section
variable {z : Z}
theorem simR_mulS : SimR z Ev.rMulS pMulS := by
  intro σ env G H n Qp Q x y px py ok fr er rx ry hm hq
  cases rx <;> try exact hm.elim
  cases ry <;> try exact hm.elim
  exact ⟨_, _, rfl, rfl, hm.1, hq.here ok (.str _) hm.2⟩
theorem simC_intS : SimC z (fun xs H Q => ∃ a n, xs = [.str a] ∧ PySem.intText? a = some n ∧ a.length ≤ 640 ∧ Q (.int n) H) pIntS := by
  intro σ env G H n Qp Q xs ps ok fr er rl hm hq
  unfold pIntS at hm
  split at hm
  · cases rl with
    | cons r t =>
      cases t
      cases r
      split at hm
      · rename_i i hi
        exact ⟨_, i, rfl, hi, hm.1, hq.here ok (.int _) hm.2⟩
      · exact hm.elim
  · exact hm.elim
end
end Pu
namespace Ev
open PySem PySem.Spec PyProof.Rows L2
section
variable (P : Program) (w : World) (K : PySem.W.Frag) (mg : Str → Option Value) (base : Heap)
structure GI (k : Nat) (C : Addr) (sp : Sp) : Prop where
  ex : ∃ (f : Addr) (fd : FuncData) (ps : List Str), Meth K C "__call__" f ∧ PySem.W.fnIn K f = true ∧ GOk P w K mg base (L2.CX P w) k f fd ps sp ∧ Binds K fd ps []
end
section
variable {X : Cx} {k j n : Nat} {E : XK} {sp : Sp} {pos : Pos} {e o : Expr} {es : List Expr} {ta : TE} {t : TA}
def tInstD (D : Addr → Sp → Prop) (E : XK) (ta : TE) (t : TA) : TE := fun σ H Q => ta σ H fun x H1 => ∃ a, x = V.ref a ∧ t σ H1 fun vs H2 => ∃ C sp dx fs, D C sp ∧ H2 a = some (.ins C dx fs) ∧ sp (x :: vs) H2 Q E
def tInstDK (D : Addr → Sp → Prop) (l : Nat) (gV : List V → List V → List V) (E : XK) (ta : TE) (tk : TA) : TE := fun σ H Q => ta σ H fun x H1 => ∃ a, x = V.ref a ∧ tk σ H1 fun zs H3 => zs.length = l ∧ ∃ C sp dx fs, D C sp ∧ H3 a = some (.ins C dx fs) ∧ sp (gV [x] zs) H3 Q E
end
end Ev
namespace Pu
open PySem PySem.Spec PyProof.Rows L2
def mInstD (ms : Ms) (k : Nat) (a : PEnv → M PV) (r : PEnv → M (List PV)) : PEnv → M PV := fun env W n Q => a env W n fun x n1 => match x with
  | .ins c fs => match ms.lookup c with
    | some m => r env W n1 fun args n2 => args.length + 1 = k ∧ m (.ins c fs :: args) W n2 Q
    | none => False
  | _ => False
section
variable {z : Z} {ms : Ms} {D : Addr → Sp → Prop} {E : XK}
theorem sim_instD {k : Nat} {ta : TE} {tr : TA} {ma : PEnv → M PV} {mr : PEnv → M (List PV)} (hl : Link z E) (hD : ∀ c m C, ms.lookup c = some m → z.cm c = some C → D C (spP z.K z.cm k m)) (ha : SimE z ta ma) (hr : SimA z tr mr) : SimE z (Ev.tInstD D E ta tr) (mInstD ms k ma mr) := by
  intro σ env G H n Qp Q ok fr er hm hq
  refine ha.bind ok fr er hm fun x px G1 H1 n1 ok1 fr1 er1 s1 r1 hm1 => ?_
  cases r1 <;> try exact hm1.elim
  rename_i a C dx c vs ps hc hg rf
  simp only at hm1
  split at hm1
  · rename_i m hlk
    refine ⟨a, rfl, ?_⟩
    refine hr.bind ok1 fr1 er1 hm1 fun us args G2 H2 n2 ok2 fr2 er2 s2 r2 hm2 => ?_
    have rr : z.repL G2 (.ref a :: us) (.ins c ps :: args) := .cons (.ins hc (s2.same _ _ hg) (rf.mono s2.same)) r2
    refine ⟨C, _, dx, vs, hD c m C hlk hc, ok2.sub _ _ (s2.same _ _ hg), ?_⟩
    refine ⟨z.p, z.c, G2, n2, _, z.W env, Qp, rr.len.trans (by rw [List.length_cons]; exact hm2.1), ok2, rr, hm2.2, fun v q G' H' n' ok' st' r' hq' => ((hq.step s1).step s2) v q G' H' n' ok' st' r' hq', fun cn fs C d G' H' n' ok' st' hc rx hw => ?_⟩
    exact hl σ env G' H' n' cn fs C d ok' (fr2.stepP st') (er2.step st') hc rx hw
  · exact hm1.elim
def mInstDK (ms : Ms) (l k : Nat) (gP : List PV → List PV → List PV) (a : PEnv → M PV) (s : PEnv → M (List PV)) : PEnv → M PV := fun env W n Q => a env W n fun x n1 => match x with
  | .ins c fs => match ms.lookup c with
    | some m => s env W n1 fun qs n2 => qs.length = l ∧ (gP [] qs).length + 1 = k ∧ m (.ins c fs :: gP [] qs) W n2 Q
    | none => False
  | _ => False
def pIsB : PV → PV → M PV := fun x y _ n Q => match x, y with
  | .bl b, .bl c => Q (.bl (decide (b = c))) n
  | _, _ => False
def pNotB : PV → PV → M PV := fun x y _ n Q => match x, y with
  | .bl b, .bl c => Q (.bl (!decide (b = c))) n
  | _, _ => False
theorem simR_isB : SimR z (fun x y H Q => ∃ b c, x = .bl b ∧ y = .bl c ∧ Q (.bl (decide (b = c))) H) pIsB := by
  intro σ env G H n Qp Q x y px py ok fr er rx ry hm hq
  cases rx <;> try exact hm.elim
  cases ry <;> try exact hm.elim
  exact ⟨_, _, rfl, rfl, hq.here ok (.bl _) hm⟩
theorem simR_notB : SimR z (fun x y H Q => ∃ b c, x = .bl b ∧ y = .bl c ∧ Q (.bl (!decide (b = c))) H) pNotB := by
  intro σ env G H n Qp Q x y px py ok fr er rx ry hm hq
  cases rx <;> try exact hm.elim
  cases ry <;> try exact hm.elim
  exact ⟨_, _, rfl, rfl, hq.here ok (.bl _) hm⟩
theorem sim_instDK {l k : Nat} {gP : List PV → List PV → List PV} {gV : List V → List V → List V} {ta : TE} {tk : TA} {ma : PEnv → M PV} {mk : PEnv → M (List PV)} (hl : Link z E) (hD : ∀ c m C, ms.lookup c = some m → z.cm c = some C → D C (spP z.K z.cm k m))
    (hg : ∀ G x vs ps zs qs, ps.length = 0 → qs.length = l → z.repL G vs ps → z.repL G zs qs → ∃ us, gV (.ref x :: vs) zs = .ref x :: us ∧ z.repL G us (gP ps qs)) (ha : SimE z ta ma) (hk : SimA z tk mk) : SimE z (Ev.tInstDK D l gV E ta tk) (mInstDK ms l k gP ma mk) := by
  intro σ env G H n Qp Q ok fr er hm hq
  refine ha.bind ok fr er hm fun x px G1 H1 n1 ok1 fr1 er1 s1 r1 hm1 => ?_
  cases r1 <;> try exact hm1.elim
  rename_i a C dx c vs ps hc hg' rf
  simp only at hm1
  split at hm1
  · rename_i m hlk
    refine ⟨a, rfl, ?_⟩
    refine hk.bind ok1 fr1 er1 hm1 fun zs qs G2 H2 n2 ok2 fr2 er2 s2 r2 hm2 => ?_
    obtain ⟨us, eu, ru⟩ := hg G2 a [] [] zs qs rfl hm2.1 .nil r2
    have rr : z.repL G2 (.ref a :: us) (.ins c ps :: gP [] qs) := .cons (.ins hc (s2.same _ _ hg') (rf.mono s2.same)) ru
    refine ⟨r2.len.trans hm2.1, C, _, dx, vs, hD c m C hlk hc, ok2.sub _ _ (s2.same _ _ hg'), ?_⟩
    rw [eu]
    refine ⟨z.p, z.c, G2, n2, _, z.W env, Qp, rr.len.trans (by rw [List.length_cons]; exact hm2.2.1), ok2, rr, hm2.2.2, fun v q G' H' n' ok' st' r' hq' => ((hq.step s1).step s2) v q G' H' n' ok' st' r' hq', fun cn fs C d G' H' n' ok' st' hc rx hw => ?_⟩
    exact hl σ env G' H' n' cn fs C d ok' (fr2.stepP st') (er2.step st') hc rx hw
  · exact hm1.elim
end
end Pu
namespace Pu
open PySem L2
def seqB (b : Bool) : PV → Option (List PV)
  | .lst xs => if b = true then some xs else none
  | .tup xs => if b = true then none else some xs
  | _ => none
def zipP : List PV → List PV → List PV
  | x :: xs, y :: ys => .tup [x, y] :: zipP xs ys
  | _, _ => []
theorem zipP_len : ∀ (xs ys : List PV), (zipP xs ys).length = min xs.length ys.length
  | [], _ => by simp [zipP]
  | _ :: _, [] => by simp [zipP]
  | x :: xs, y :: ys => by simp only [zipP, List.length_cons, zipP_len xs ys]; omega
theorem zipP_get : ∀ {xs ys : List PV} {i : Nat} {q : PV}, (zipP xs ys)[i]? = some q → ∃ x y, xs[i]? = some x ∧ ys[i]? = some y ∧ q = .tup [x, y]
  | [], _, _, _, h => by simp [zipP] at h
  | _ :: _, [], _, _, h => by simp [zipP] at h
  | x :: xs, y :: ys, 0, q, h => by
    simp [zipP] at h
    exact ⟨x, y, rfl, rfl, h.symm⟩
  | x :: xs, y :: ys, i + 1, q, h => by
    simp only [zipP, List.getElem?_cons_succ] at h ⊢
    exact zipP_get h
def mZip (b1 b2 : Bool) (r : PEnv → M (List PV)) : PEnv → M (List PV) := fun env W n Q => r env W n fun vs n1 => match vs with
  | [x, y] => match seqB b1 x, seqB b2 y with
    | some xs, some ys => Q (zipP xs ys) n1
    | _, _ => False
  | _ => False
theorem rep_seqB {z : Z} {b : Bool} {G : Hp} {v : V} {q : PV} {xs : List PV} (r : z.rep G v q) (h : seqB b q = some xs) :
    ∃ a vs, v = .ref a ∧ (∀ G2 H2, Same G G2 → Same G2 H2 → Ev.SqB b z.K H2 a vs) ∧ z.repL G vs xs := by
  cases r <;> cases b <;> simp [seqB] at h
  · subst h
    rename_i a vs ps hs rl
    exact ⟨_, _, rfl, fun G2 H2 s1 s2 => SqL.of ((s1.trans s2) _ _ hs), rl⟩
  · subst h
    rename_i a vs ps hs rl
    exact ⟨_, _, rfl, fun G2 H2 s1 s2 => Ev.Same.seqT (s1.trans s2) hs, rl⟩
theorem sim_iZip {z : Z} {b1 b2 : Bool} {ta : TA} {m : PEnv → M (List PV)} (h : SimA z ta m) : SimI z (Ev.iZipB b1 b2 z.K ta) (mZip b1 b2 m) := by
  intro σ env G H n Qp Q ok fr er hm hq
  refine h.bind ok fr er hm fun xs px G1 H1 n1 ok1 fr1 er1 s1 r1 hm1 => ?_
  split at hm1
  · rename_i x y
    split at hm1
    · rename_i qs ws e1 e2
      match xs, r1 with
      | [v, w], .cons rx (.cons ry .nil) =>
        obtain ⟨a, vs, rfl, hs, rl⟩ := rep_seqB rx e1
        obtain ⟨b, us, rfl, hs2, rl2⟩ := rep_seqB ry e2
        refine ⟨a, b, vs, us, rfl, hs _ _ (Same.refl _) ok1.sub, hs2 _ _ (Same.refl _) ok1.sub, (hq.step s1).here (v := Ev.ItzB b1 b2 z.K a b) (q := zipP qs ws) ok1 (fun G2 H2 n2 i sg ok2 => ?_) hm1⟩
        have k1 := hs _ _ sg ok2.sub
        have k2 := hs2 _ _ sg ok2.sub
        refine ⟨fun hl => ⟨vs, us, k1, k2, ?_⟩, fun q hq2 => ?_⟩
        · rw [zipP_len] at hl
          rw [rl.len, rl2.len]
          omega
        · obtain ⟨p1, p2, g1, g2, rfl⟩ := zipP_get hq2
          obtain ⟨y1, f1, ry1⟩ := rl.get g1
          obtain ⟨y2, f2, ry2⟩ := rl2.get g2
          refine ⟨⟨vs, us, y1, y2, k1, k2, f1, f2⟩, fun u H3 hx => ?_⟩
          obtain ⟨T, u1, u2, rfl, hn, rfl, a1, a2⟩ := hx
          have b1 := a1 _ k1
          have b2 := a2 _ k2
          rw [f1] at b1
          rw [f2] at b2
          cases b1
          cases b2
          obtain ⟨ok3, s3⟩ := ok2.new (o := .tup [y1, y2]) hn
          exact ⟨_, ok3, s3, .tup (SqT.of upd_same) (.cons ((ry1.mono sg).mono s3.same) (.cons ((ry2.mono sg).mono s3.same) .nil))⟩
    · exact hm1.elim
  · exact hm1.elim
end Pu
namespace Ev
open PySem PySem.Spec PyProof.Rows L2
section
variable {prog : Program} {w : World} {A : Around} {E : Value → Shared → Prop} {s : Shared}
end
def IteB (b : Bool) (K : PySem.W.Frag) (a : Addr) : It :=
  ⟨fun i H => ∃ (xs : List V) (x : V), SqB b K H a xs ∧ xs[i]? = some x, fun i H v H' => ∃ T x, v = .ref T ∧ H T = none ∧ H' = upd H T (.tup [.int (i : Nat), x]) ∧ ∀ xs, SqB b K H a xs → xs[i]? = some x, fun i H => ∃ xs : List V, SqB b K H a xs ∧ xs.length ≤ i⟩
def iEnumB (b : Bool) (K : PySem.W.Frag) (ta : TA) : TI := fun σ H R => ta σ H fun vs H1 => ∃ a xs, vs = [.ref a] ∧ SqB b K H1 a xs ∧ R (IteB b K a) H1
end Ev
namespace Pu
open PySem L2
def enP : Nat → List PV → List PV
  | _, [] => []
  | k, x :: xs => .tup [.int k, x] :: enP (k + 1) xs
theorem enP_len : ∀ {k : Nat} {xs : List PV}, (enP k xs).length = xs.length
  | _, [] => rfl
  | k, _ :: xs => by rw [enP, List.length_cons, List.length_cons, enP_len]
theorem enP_get : ∀ {k : Nat} {xs : List PV} {i : Nat} {q : PV}, (enP k xs)[i]? = some q → ∃ x, xs[i]? = some x ∧ q = .tup [.int ((k + i : Nat) : Int), x]
  | _, [], _, _, h => by simp [enP] at h
  | k, x :: xs, 0, q, h => by
    simp [enP] at h
    exact ⟨x, rfl, h.symm⟩
  | k, x :: xs, i + 1, q, h => by
    simp only [enP, List.getElem?_cons_succ] at h ⊢
    obtain ⟨y, hy, e⟩ := enP_get h
    exact ⟨y, hy, by rw [e, show k + 1 + i = k + (i + 1) by omega]⟩
def mEnum (b : Bool) (r : PEnv → M (List PV)) : PEnv → M (List PV) := fun env W n Q => r env W n fun vs n1 => match vs with
  | [x] => match seqB b x with
    | some xs => Q (enP 0 xs) n1
    | _ => False
  | _ => False
theorem sim_iEnum {z : Z} {b : Bool} {ta : TA} {m : PEnv → M (List PV)} (h : SimA z ta m) : SimI z (Ev.iEnumB b z.K ta) (mEnum b m) := by
  intro σ env G H n Qp Q ok fr er hm hq
  refine h.bind ok fr er hm fun xs px G1 H1 n1 ok1 fr1 er1 s1 r1 hm1 => ?_
  split at hm1
  · rename_i x
    split at hm1
    · rename_i qs e1
      match xs, r1 with
      | [v], .cons rx .nil =>
        obtain ⟨a, vs, rfl, hs, rl⟩ := rep_seqB rx e1
        refine ⟨a, vs, rfl, hs _ _ (Same.refl _) ok1.sub, (hq.step s1).here (v := Ev.IteB b z.K a) (q := enP 0 qs) ok1 (fun G2 H2 n2 i sg ok2 => ?_) hm1⟩
        have k1 := hs _ _ sg ok2.sub
        refine ⟨fun hl => ⟨vs, k1, ?_⟩, fun q hq2 => ?_⟩
        · rw [enP_len] at hl
          rw [rl.len]
          exact hl
        · obtain ⟨p1, g1, rfl⟩ := enP_get hq2
          obtain ⟨y1, f1, ry1⟩ := rl.get g1
          refine ⟨⟨vs, y1, k1, f1⟩, fun u H3 hx => ?_⟩
          obtain ⟨T, u1, rfl, hn, rfl, a1⟩ := hx
          have b1 := a1 _ k1
          rw [f1] at b1
          cases b1
          obtain ⟨ok3, s3⟩ := ok2.new (o := .tup [.int ((i : Nat) : Int), y1]) hn
          rw [Nat.zero_add]
          exact ⟨_, ok3, s3, .tup (SqT.of upd_same) (.cons (.int _) (.cons ((ry1.mono sg).mono s3.same) .nil))⟩
    · exact hm1.elim
  · exact hm1.elim
def PV.items : PV → Option (List PV)
  | .lst xs => some xs
  | .tup xs => some xs
  | _ => none
def mStar (a : PEnv → M PV) (r : PEnv → M (List PV)) : PEnv → M (List PV) := fun env W n Q => a env W n fun x n1 => match x.items with
  | some xs => r env W n1 fun ys n2 => Q (xs ++ ys) n2
  | none => False
theorem sim_star {z : Z} {te : TE} {tr : TA} {ma : PEnv → M PV} {mr : PEnv → M (List PV)} (ha : SimE z te ma) (hr : SimA z tr mr) : SimA z (StX.tStar z.K te tr) (mStar ma mr) := by
  intro σ env G H n Qp Q ok fr er hm hq
  refine ha.bind ok fr er hm fun x px G1 H1 n1 ok1 fr1 er1 s1 r1 hm1 => ?_
  cases r1 <;> simp only [PV.items] at hm1 <;> try exact hm1.elim
  · rename_i a vs ps hs rl
    refine ⟨a, vs, rfl, .inr (SqL.of (ok1.sub _ _ hs)), ?_⟩
    refine hr.bind ok1 fr1 er1 hm1 fun y py G2 H2 n2 ok2 fr2 er2 s2 r2 hm2 => ?_
    exact ((hq.step s1).step s2).here ok2 ((rl.mono s2.same).append r2) hm2
  · rename_i a vs ps hs rl
    refine ⟨a, vs, rfl, .inl (Ev.Same.seqT ok1.sub hs), ?_⟩
    refine hr.bind ok1 fr1 er1 hm1 fun y py G2 H2 n2 ok2 fr2 er2 s2 r2 hm2 => ?_
    exact ((hq.step s1).step s2).here ok2 ((rl.mono s2.same).append r2) hm2
end Pu
namespace Ev
open PySem PySem.Spec PyProof.Rows L2
def rRepW (K : PySem.W.Frag) : R2 := fun x y H Q => ∃ (l : Addr) (k : Int) (xs : List V), x = .ref l ∧ y = .int k ∧ SqT K H l xs ∧ (xs ≠ [] ∧ 2 ≤ k ∧ k ≤ 100000 ∧ xs.length * k.toNat ≤ 1000000) ∧ ∀ p, H p = none → Q (.ref p) (upd H p (.tup (List.replicate k.toNat xs).flatten))
end Ev
namespace Pu
open PySem PySem.Spec PyProof.Rows L2
def pRepT : PV → PV → M PV := fun x y _ n Q => match x, y with
  | .tup xs, .int k => (xs ≠ [] ∧ 2 ≤ k ∧ k ≤ 100000 ∧ xs.length * k.toNat ≤ 1000000) ∧ Q (.tup (List.replicate k.toNat xs).flatten) n
  | _, _ => False
theorem simR_repT {z : Z} : SimR z (Ev.rRepW z.K) pRepT := by
  intro σ env G H n Qp Q x y px py ok fr er rx ry hm hq
  cases rx <;> try exact hm.elim
  cases ry <;> try exact hm.elim
  rename_i a vs ps hs rl k
  obtain ⟨⟨h0, h1, h2, h3⟩, hm2⟩ := hm
  refine ⟨_, k, vs, rfl, rfl, Ev.Same.seqT ok.sub hs, ⟨fun e => h0 (by have := rl.len; rw [e] at this; exact List.eq_nil_of_length_eq_zero this.symm), h1, h2, by rw [rl.len]; exact h3⟩, fun p hp => ?_⟩
  obtain ⟨ok2, s2⟩ := ok.new (o := .tup (List.replicate k.toNat vs).flatten) hp
  exact (hq.step s2).here ok2 (.tup (SqT.of upd_same) ((rep_flat rl k.toNat).mono s2.same)) hm2
end Pu
namespace Ev
open PySem PySem.Spec PyProof.Rows L2
def veB : List Value := [.type "ValueError", .type "Exception", .type "BaseException", .type "object"]
structure XC0 (K : PySem.W.Frag) (mg : Str → Option Value) (x : Str) (C : Addr) : Prop where
  ox : OexC K C
  ei : PySem.W.excIn K C veB "ValueError.__new__" = true
  at_ : mg x = some (.ref C)
section
variable {X : Cx} {W : WX} {x : Str} {C : Addr} {p pos pos' : Pos}
end
end Ev
namespace Pu
open PySem L2
def mRai0 (cn : Str) : MS := fun W _ env n => W env cn [] n
end Pu
namespace Ev
open PySem PySem.Spec PyProof.Rows L2
section
variable {X : Cx}
def rSumT (K : PySem.W.Frag) : List V → Hp → VK → Prop := fun vs H Q => ∃ (a : Addr) (ns : List Int), vs = [V.ref a] ∧ SqT K H a (ns.map V.int) ∧ Q (.int ns.sum) H
end
end Ev
namespace Pu
open PySem L2
def pSumT : List PV → M PV := fun xs _ n Q => match xs with
  | [.tup ys] => match toInts ys with
    | some ns => Q (.int ns.sum) n
    | none => False
  | _ => False
theorem simC_sumT {z : Z} : SimC z (Ev.rSumT z.K) pSumT := by
  intro σ env G H n Qp Q xs ps ok fr er rl hm hq
  unfold pSumT at hm
  split at hm
  · cases rl with
    | cons r t =>
      cases t
      cases r with
      | tup hs rl =>
        split at hm
        · rename_i ns hn
          have e := ints_of rl hn
          subst e
          exact ⟨_, ns, rfl, Ev.Same.seqT ok.sub hs, hq.here ok (.int _) hm⟩
        · exact hm.elim
  · exact hm.elim
end Pu
namespace Pu
open PySem PySem.Spec PyProof.Rows L2
def sgns (s : Str) : List PV := s.cps.toList.map fun c => .str ⟨#[c]⟩
def mStrI (m : PEnv → M PV) : PEnv → M (List PV) := fun env W n Q => m env W n fun x n1 => match x with
  | .str s => Q (sgns s) n1
  | _ => False
theorem sgns_len {s : Str} : (sgns s).length = s.cps.size := by
  unfold sgns
  rw [List.length_map, Array.length_toList]
theorem sim_iStr {z : Z} {tl : TE} {m : PEnv → M PV} (h : SimE z tl m) : SimI z (iStr tl) (mStrI m) := by
  intro σ env G H n Qp Q ok fr er hm hq
  refine h.bind ok fr er hm fun x px G1 H1 n1 ok1 fr1 er1 s1 r1 hm1 => ?_
  cases r1 <;> try exact hm1.elim
  rename_i s
  refine ⟨s, rfl, (hq.step s1).here (v := Its s) (q := sgns s) ok1 (fun G2 H2 n2 i sg ok2 => ?_) hm1⟩
  refine ⟨fun hl => by rw [sgns_len] at hl; exact hl, fun q hq => ?_⟩
  have hl : i < s.cps.size := by
    have := (List.getElem?_eq_some_iff.mp hq).1
    rw [sgns_len] at this
    exact this
  refine ⟨hl, fun x H3 hx => ?_⟩
  obtain ⟨rfl, c, hc, rfl⟩ := hx
  unfold sgns at hq
  rw [List.getElem?_map, Array.getElem?_toList, hc] at hq
  cases hq
  exact ⟨G2, ok2, Step.refl _ _ _, .str _⟩
def pInSign (g : Bool → Bool) : PV → PV → M PV := fun x y _ n Q => match x, y with
  | .str s, .str z => match s.cps.toList with
    | [c] => Q (.bl (g (decide (c ∈ z.cps.toList)))) n
    | _ => False
  | _, _ => False
theorem one_of {s : Str} {c : Nat} (h : s.cps.toList = [c]) : s = ⟨#[c]⟩ := by
  obtain ⟨a⟩ := s
  cases a
  simp only at h
  subst h
  rfl
theorem simR_inSign {z : Z} : SimR z (fun x y H Q => ∃ (c : Nat) (z : Str), x = .str ⟨#[c]⟩ ∧ y = .str z ∧ Q (.bl (decide (c ∈ z.cps.toList))) H) (pInSign id) := by
  intro σ env G H n Qp Q x y px py ok fr er rx ry hm hq
  cases rx <;> try exact hm.elim
  cases ry <;> try exact hm.elim
  rename_i s t
  unfold pInSign at hm
  simp only at hm
  split at hm
  · rename_i c hc
    have := one_of hc
    subst this
    exact ⟨c, t, rfl, rfl, hq.here ok (.bl _) hm⟩
  · exact hm.elim
theorem simR_notInSign {z : Z} : SimR z (fun x y H Q => ∃ (c : Nat) (z : Str), x = .str ⟨#[c]⟩ ∧ y = .str z ∧ Q (.bl (!decide (c ∈ z.cps.toList))) H) (pInSign not) := by
  intro σ env G H n Qp Q x y px py ok fr er rx ry hm hq
  cases rx <;> try exact hm.elim
  cases ry <;> try exact hm.elim
  rename_i s t
  unfold pInSign at hm
  simp only at hm
  split at hm
  · rename_i c hc
    have := one_of hc
    subst this
    exact ⟨c, t, rfl, rfl, hq.here ok (.bl _) hm⟩
  · exact hm.elim
def PV.flt : PV → Option V
  | .non => some .non
  | .bl b => some (.bl b)
  | .int i => some (.int i)
  | .str s => some (.str s)
  | _ => none
def flts : List PV → Option (List V)
  | [] => some []
  | x :: xs => match x.flt, flts xs with
    | some v, some vs => some (v :: vs)
    | _, _ => none
theorem flt_of {z : Z} {G : Hp} {v w : V} {q : PV} (r : z.rep G v q) (h : q.flt = some w) : v = w ∧ flatV v = true := by
  cases r <;> simp [PV.flt] at h <;> subst h <;> exact ⟨rfl, rfl⟩
theorem flts_of {z : Z} {G : Hp} : ∀ {vs ws : List V} {qs : List PV}, z.repL G vs qs → flts qs = some ws → vs = ws ∧ vs.all flatV = true
  | _, _, _, .nil, h => by cases h; exact ⟨rfl, rfl⟩
  | _, _, _, .cons (q := q) (ps := ps) r t, h => by
    unfold flts at h
    split at h
    · rename_i v vs h1 h2
      cases h
      obtain ⟨e1, f1⟩ := flt_of r h1
      obtain ⟨e2, f2⟩ := flts_of t h2
      subst e1 e2
      refine ⟨rfl, ?_⟩
      rw [List.all_cons, f1, f2]
      rfl
    · cases h
def pIn (neg : Bool) : PV → PV → M PV := fun x y _ n Q => match x.flt, y.items with
  | some v, some ys => match flts ys with
    | some vs => Q (.bl (if neg then !inV v vs else inV v vs)) n
    | none => False
  | _, _ => False
theorem simR_in {z : Z} {neg : Bool} : SimR z (rIn z.K neg) (pIn neg) := by
  intro σ env G H n Qp Q x y px py ok fr er rx ry hm hq
  unfold pIn at hm
  split at hm
  · rename_i v ys h1 h2
    split at hm
    · rename_i vs h3
      obtain ⟨e1, f1⟩ := flt_of rx h1
      subst e1
      cases ry <;> simp [PV.items] at h2
      · subst h2
        rename_i a us qs hs rl
        obtain ⟨e2, f2⟩ := flts_of rl h3
        subst e2
        exact ⟨a, us, rfl, .inl (SqL.of (ok.sub _ _ hs)), f1, f2, hq.here ok (.bl _) hm⟩
      · subst h2
        rename_i a us qs hs rl
        obtain ⟨e2, f2⟩ := flts_of rl h3
        subst e2
        exact ⟨a, us, rfl, .inr (Ev.Same.seqT ok.sub hs), f1, f2, hq.here ok (.bl _) hm⟩
    · exact hm.elim
  · exact hm.elim
def strsP : List PV → Option (List Str)
  | [] => some []
  | .str s :: xs => (strsP xs).map (s :: ·)
  | _ => none
theorem strs_of {z : Z} {G : Hp} : ∀ {vs : List V} {ps : List PV} {ss : List Str}, z.repL G vs ps → strsP ps = some ss → vs = ss.map V.str
  | _, _, _, .nil, h => by cases h; rfl
  | _, _, _, .cons r t, h => by
    cases r <;> simp only [strsP] at h <;> try cases h
    obtain ⟨ss, h2, rfl⟩ := Option.map_eq_some_iff.mp h
    rw [strs_of t h2]
    rfl
theorem strs_rep {z : Z} {G : Hp} : ∀ ss : List Str, z.repL G (ss.map V.str) (ss.map PV.str)
  | [] => .nil
  | s :: ss => .cons (.str s) (strs_rep ss)
def pJoin : PV → PV → M PV := fun x y _ n Q => match x, y.items with
  | .str a, some ys => match strsP ys with
    | some ss => (ss.map (·.length)).sum + ss.length * a.length ≤ 16777216 ∧ Q (.str (Txt.join a ss)) n
    | none => False
  | _, _ => False
def pSplit : PV → PV → M PV := fun x y _ n Q => match x, y with
  | .str a, .str b => (b.length == 0) = false ∧ a.length ≤ 1000000 ∧ Q (.lst ((Txt.split a b).map PV.str)) n
  | _, _ => False
def mM1 (po : PV → PV → M PV) (a b : PEnv → M PV) : PEnv → M PV := fun env W n Q => a env W n fun x n1 => match x with
  | .str s => b env W n1 fun y n2 => po (.str s) y W n2 Q
  | _ => False
section
variable {z : Z} {to te : TE} {mo me : PEnv → M PV}
theorem sim_join (ho : SimE z to mo) (he : SimE z te me) : SimE z (tM1 (fun x xs H Q => ∃ a p, ∃ ys : List Str, x = .str a ∧ xs = [.ref p] ∧ (SqL z.K H p (ys.map V.str) ∨ SqT z.K H p (ys.map V.str)) ∧
      (ys.map (·.length)).sum + ys.length * a.length ≤ 16777216 ∧ Q (.str (Txt.join a ys)) H) to te) (mM1 pJoin mo me) := by
  intro σ env G H n Qp Q ok fr er hm hq
  refine ho.bind ok fr er hm fun x px G1 H1 n1 ok1 fr1 er1 s1 r1 hm1 => ?_
  cases r1 <;> try exact hm1.elim
  rename_i a
  refine ⟨⟨a, rfl⟩, ?_⟩
  refine he.bind ok1 fr1 er1 hm1 fun y py G2 H2 n2 ok2 fr2 er2 s2 r2 hm2 => ?_
  unfold pJoin at hm2
  split at hm2
  · rename_i b ys e1 e2
    cases e1
    split at hm2
    · rename_i ss hs
      have q2 := ((hq.step s1).step s2).here ok2 (v := .str (Txt.join a ss)) (q := .str (Txt.join a ss)) (.str _) hm2.2
      cases r2 <;> simp [PV.items] at e2
      · subst e2
        rename_i p us qs h1 rl
        have := strs_of rl hs
        subst this
        exact ⟨a, p, ss, rfl, rfl, .inl (SqL.of (ok2.sub _ _ h1)), hm2.1, q2⟩
      · subst e2
        rename_i p us qs h1 rl
        have := strs_of rl hs
        subst this
        exact ⟨a, p, ss, rfl, rfl, .inr (Ev.Same.seqT ok2.sub h1), hm2.1, q2⟩
    · exact hm2.elim
  · exact hm2.elim
theorem sim_split (ho : SimE z to mo) (he : SimE z te me) : SimE z (tM1 (fun x xs H Q => ∃ a b, x = .str a ∧ xs = [.str b] ∧ (b.length == 0) = false ∧ a.length + 2 ≤ sizeLine ∧ rNewStrs (Txt.split a b) H Q) to te) (mM1 pSplit mo me) := by
  intro σ env G H n Qp Q ok fr er hm hq
  refine ho.bind ok fr er hm fun x px G1 H1 n1 ok1 fr1 er1 s1 r1 hm1 => ?_
  cases r1 <;> try exact hm1.elim
  rename_i a
  refine ⟨⟨a, rfl⟩, ?_⟩
  refine he.bind ok1 fr1 er1 hm1 fun y py G2 H2 n2 ok2 fr2 er2 s2 r2 hm2 => ?_
  cases r2 <;> try exact hm2.elim
  rename_i b
  refine ⟨a, b, rfl, rfl, hm2.1, by rw [sizeLine_eq]; have := hm2.2.1; omega, fun p hp => ?_⟩
  obtain ⟨ok3, s3⟩ := ok2.new (o := .lst ((Txt.split a b).map V.str)) hp
  exact (((hq.step s1).step s2).step s3).here ok3 (.lst upd_same (strs_rep _)) hm2.2.2
end
def pIxU : PV → PV → M PV := fun x y W n Q => match x with
  | .str s => pIxS (.str s) y W n Q
  | x => pIxA x y W n Q
theorem simR_ixU {z : Z} : SimR z (rIx z.K) pIxU := by
  intro σ env G H n Qp Q x y px py ok fr er rx ry hm hq
  unfold pIxU at hm
  split at hm
  · exact .inr (.inr (simR_ixS σ env G H n Qp Q x y _ py ok fr er rx ry hm hq))
  · exact simR_ixA σ env G H n Qp Q x y _ py ok fr er rx ry hm hq
def pLenU : List PV → M PV := fun xs W n Q => match xs with
  | [.str s] => pLenS [.str s] W n Q
  | xs => pLen xs W n Q
theorem simC_lenU {z : Z} : SimC z (fun xs H Q => (∃ p ys, xs = [.ref p] ∧ (SqL z.K H p ys ∨ SqT z.K H p ys) ∧ Q (.int ys.length) H) ∨ (∃ s, xs = [.str s] ∧ s.length ≤ sizeLine ∧ Q (.int s.length) H)) pLenU := by
  intro σ env G H n Qp Q xs ps ok fr er rl hm hq
  unfold pLenU at hm
  split at hm
  · exact .inr (simC_lenS σ env G H n Qp Q xs _ ok fr er rl hm hq)
  · exact .inl (simC_len σ env G H n Qp Q xs _ ok fr er rl hm hq)
end Pu
namespace Ev
open PySem L2
end Ev
namespace Ev
open PySem PySem.Spec PyProof.Rows L2
section
variable (P : Program) (w : World) (K : PySem.W.Frag) (mg : Str → Option Value) (base : Heap)
structure GSC (k : Nat) (x : Str) (C : Addr) (m : Str) (sp : Sp) (n : Nat) (ks : List Str) (gV : List V → List V → List V) : Prop where
  ex : ∃ (p f : Addr) (fd : FuncData) (ps : List Str) (mc : Value) (g : List Value → List Value → List Value), mg x = some (.ref C) ∧ ClX.CRead K C mc ∧ PySem.W.findCls K (.ref C) mc m = some (.get (.builtin "staticmethod.__get__") (.ref p) .none (.ref C)) ∧
    (∃ rest, PySem.W.recIn K p "staticmethod" = some (.ref f :: rest)) ∧ PySem.W.keepIn K (.ref f) = true ∧ GOk P w K mg base (L2.CX P w) k f fd ps sp ∧ KBn K fd ps n ks g gV
end
section
variable {X : Cx} {k j n : Nat} {C : Addr} {x m : Str} {sp : Sp} {E : XK} {p pos apos : Pos} {e : Expr} {es : List Expr} {t tk : TA} {kws : List Keyword} {ks : List Str} {gV : List V → List V → List V}
end
end Ev
namespace Pu
open PySem PySem.Spec PyProof.Rows L2
def mDctP (mp : PEnv → M (List (Key × PV))) : PEnv → M PV := fun env W n Q => mp env W n fun xs n1 => xs.length ≤ 15 ∧ Q (.dct (mergeP [] xs)) n1
def mPair1 (mk mv : PEnv → M PV) : PEnv → M (List (Key × PV)) := fun env W n Q => mk env W n fun kx n1 => mv env W n1 fun x n2 => match kx with
  | .str s => Q [(.inr s, x)] n2
  | .int i => Q [(.inl i, x)] n2
  | _ => False
def mParOwn2 (i j : Nat) (ma : PEnv → M PV) (mb : PEnv → M (List PV)) : MS := fun W D env n => ma env (W env) n fun x n1 => mb env (W env) n1 fun ys n2 => ys.length ≤ 1000000 ∧ D.nx ((env.set i (.val x)).set j (.own ys)) n2
section
variable {z : Z}
theorem sim_pair1 {tk tv : TE} {mk mv : PEnv → M PV} (hk : SimE z tk mk) (hv : SimE z tv mv) : Sim z (PrR z) (tPairs [(tk, tv)]) (mPair1 mk mv) := by
  intro σ env G H n Qp Q ok fr er hm hq
  show tk σ H fun x H1 => tv σ H1 fun y H2 => Q [(x, y)] H2
  refine hk.bind ok fr er hm fun x px G1 H1 n1 ok1 fr1 er1 s1 r1 hm1 => ?_
  refine hv.bind ok1 fr1 er1 hm1 fun y py G2 H2 n2 ok2 fr2 er2 s2 r2 hm2 => ?_
  cases r1 <;> try exact hm2.elim
  · rename_i i
    exact ((hq.step s1).step s2).here ok2 ⟨[(.inl i, y)], rfl, .cons r2 .nil⟩ hm2
  · rename_i s
    exact ((hq.step s1).step s2).here ok2 ⟨[(.inr s, y)], rfl, .cons r2 .nil⟩ hm2
theorem sim_dispP {trs : List (TE × TE)} {mp : PEnv → M (List (Key × PV))} (h : Sim z (PrR z) (tPairs trs) mp) : SimE z (tDisp trs) (mDctP mp) := by
  intro σ env G H n Qp Q ok fr er hm hq p hp
  obtain ⟨ok2, s2⟩ := ok.newO (o := .dK []) hp
  have np := Ev.Pen.ne ok.pen hp
  have nc := Ev.Pen.neC ok.pen hp
  refine h.bind ok2 (fr.stepP s2) (er.step s2) hm fun ps qs G1 H1 n1 ok1 fr1 er1 s1 r1 hm1 => ?_
  obtain ⟨kvs, rfl, r1⟩ := r1
  have hh : H1 p = some (.dK []) := s1.keep p _ upd_same np ko_dK
  have g1 : G1 p = none := by
    cases e : G1 p with
    | none => rfl
    | some o =>
      have := s1.new p o e ⟨_, upd_same, nt0_dK⟩
      rw [ok.free hp] at this
      cases this
  refine ⟨hh, kvs, rfl, by rw [r1.len]; exact hm1.1, ?_⟩
  have mine : Mine z G1 p := ⟨g1, np, nc, .inl (fr.h0 hp)⟩
  have ok3 := Ok.set (z := z) (o := .dK (mergeK [] kvs)) ok1 mine hh
  have sg : Same G1 (upd G1 p (.dK (mergeK [] kvs))) := fun b o e => Ev.get_new e g1
  have ok4 : Ok z.K z.cm z.p z.c (upd G1 p (.dK (mergeK [] kvs))) (upd H1 p (.dK (mergeK [] kvs))) n1 := ⟨fun b o e => by
    by_cases q : b = p
    · subst q
      rw [upd_same] at e ⊢
      exact e
    · rw [upd_ne q] at e ⊢
      exact ok1.sub _ _ e, ok3.pen, (upd_ne np.symm).trans ok1.gp, gc_upd nc.symm ok1.gc, ok3.tb, gt_upd ok1.gt nt0_dK, ok1.mu.setG hh nt_dK.2 g1, ok1.lk⟩
  have sa := s2.trans s1 fun _ q => q
  refine hq (.ref p) (.dct (mergeP [] qs)) _ _ n1 ok4 ⟨sa.same.trans sg, fun b o e nb nt => ?_, fun b o e nb => ?_, fun b hb => ?_⟩ (.dct upd_same ((RepK.merge (r1.mono sg) .nil))) hm1.2
  · refine Ev.get_ne (fun q => ?_) (sa.keep b o e nb nt)
    rw [q, hp] at e
    cases e
  · by_cases q : b = p
    · subst q
      exact (nb.no hp).elim
    · rw [upd_ne q] at e
      exact sa.new b o e nb
  · exact (sa.al b hb).upd nt0_dK
theorem sim_parOwn2 {i j : Nat} {ta : TE} {tb : TA} {ma : PEnv → M PV} {mb : PEnv → M (List PV)} (ha : SimE z ta ma) (hb : SimA z tb mb) :
    SimS z (tPar i j (tCons ta (tCons (tLst tb) tNil))) (mParOwn2 i j ma mb) := by
  intro σ env G H n D Dp ok fr er hm ed
  refine ha.bind ok fr er hm fun x px G1 H1 n1 ok1 fr1 er1 s1 r1 hm1 => ?_
  refine hb.bind ok1 fr1 er1 hm1 fun ys ps G2 H2 n2 ok2 fr2 er2 s2 r2 hm2 => ?_
  refine ⟨by rw [r2.len]; exact line_of hm2.1, fun q hq1 => ⟨_, _, rfl, ?_⟩⟩
  have er3 := er2.setV (i := i) (r1.mono s2.same)
  obtain ⟨ok3, s3⟩ := ok2.newO (o := .lst ys) hq1
  have mine := ok2.mine fr2 hq1
  refine ed.nx _ _ G2 _ n2 (s1.same.trans s2.same) ok3 (fr2.stepP s3) ?_ hm2.2
  refine (er3.step s3).set ⟨q, ys, rfl, upd_same, mine, fr2.h0 hq1, r2⟩ fun _ k s' b nj hj os' hb eb => ?_
  cases Option.some.inj eb
  obtain ⟨x, hx, rx⟩ := er3.at_ k s' hj
  rw [hx] at hb
  cases Option.some.inj hb
  cases s' with
  | no => cases os'
  | val _ => cases os'
  | own ps =>
    obtain ⟨b, vs, e, hb, _⟩ := rx
    cases e
    rw [hq1] at hb
    cases hb
  | odc ps =>
    obtain ⟨b, vs, e, hb, _⟩ := rx
    cases e
    rw [hq1] at hb
    cases hb
  | obj c fs =>
    obtain ⟨b, C, dx, vs, e, _, hb, _⟩ := rx
    cases e
    rw [hq1] at hb
    cases hb
end
end Pu
namespace Ev
open PySem PySem.Spec PyProof.Rows L2
section
variable (P : Program) (w : World) (K : PySem.W.Frag) (mg : Str → Option Value) (base : Heap)
structure GCC (k : Nat) (x : Str) (C : Addr) (m : Str) (sp : Sp) (n : Nat) (ks : List Str) (gV : List V → List V → List V) : Prop where
  ex : ∃ (p f : Addr) (fd : FuncData) (ps : List Str) (mc : Value) (g : List Value → List Value → List Value), mg x = some (.ref C) ∧ ClX.CRead K C mc ∧ ClX.CMet K C mc m p f ∧ GOk P w K mg base (L2.CX P w) k f fd ps sp ∧ KBn K fd ps (n + 1) ks g gV
end
def tCC (C : Addr) (n l : Nat) (sp : Sp) (gV : List V → List V → List V) (E : XK) (t tk : TA) : TE := fun σ H Q => t σ H fun vs H1 => tk σ H1 fun zs H2 => vs.length = n ∧ zs.length = l ∧ sp (gV (.ref C :: vs) zs) H2 Q E
section
variable {X : Cx} {k j n : Nat} {C : Addr} {x m : Str} {sp : Sp} {E : XK} {p pos apos : Pos} {e : Expr} {es : List Expr} {t tk : TA} {kws : List Keyword} {ks : List Str} {gV : List V → List V → List V}
def tMakeV (C : Addr) (n l : Nat) (sp : Sp) (gV : List V → List V → List V) (E : XK) (ta : TE) (t tk : TA) : TE := fun σ H Q => ta σ H fun x H1 => x = .ref C ∧ tMakeK C n l sp gV E t tk σ H1 Q
end
end Ev
namespace Pu
open PySem PySem.Spec PyProof.Rows L2
def spC (K : PySem.W.Frag) (cm : Md) (C : Addr) (k : Nat) (m : List PV → M PV) : Sp := fun vs H Q E => ∃ us, vs = .ref C :: us ∧ spP K cm k m us H Q E
def mFnC (k : Nat) (b : Addr → MS) (args : List PV) : M PV := fun W n Q => ∀ a : Addr, mFnX k (b a) (.ext (.ref a) :: args) W n Q
def mRev (a : PEnv → M PV) : PEnv → M PV := fun env W n Q => a env W n fun x n1 => match x with
  | .lst xs => Q (.lst xs.reverse) n1
  | _ => False
def mMakeV (a : Addr) (i : Nat) (cn : Str) (n l k : Nat) (gP : List PV → List PV → List PV) (m : Str → List (Str × PV) → List PV → M (List (Str × PV))) (r s : PEnv → M (List PV)) : PEnv → M PV := fun env W n0 Q =>
  env[i]? = some (.val (.ext (.ref a))) ∧ mMake cn n l k gP m r s env W n0 Q
section
variable {z : Z}
theorem repL_rev {G : Hp} : ∀ {vs : List V} {ps : List PV}, z.repL G vs ps → ∀ {us : List V} {qs : List PV}, z.repL G us qs → z.repL G (vs.reverseAux us) (ps.reverseAux qs)
  | _, _, .nil, _, _, h => h
  | _, _, .cons r t, _, _, h => repL_rev t (.cons r h)
theorem sim_rev {te : TE} {m : PEnv → M PV} (h : SimE z te m) : SimE z (tRevL z.K te) (mRev m) := by
  intro σ env G H n Qp Q ok fr er hm hq
  refine h.bind ok fr er hm fun x px G1 H1 n1 ok1 fr1 er1 s1 r1 hm1 => ?_
  cases r1 <;> try exact hm1.elim
  rename_i a us qs hs rl
  refine ⟨a, us, rfl, SqL.of (ok1.sub _ _ hs), fun p hp => ?_⟩
  obtain ⟨ok2, s2⟩ := ok1.new (o := .lst us.reverse) hp
  exact ((hq.step s1).step s2).here ok2 (.lst upd_same ((repL_rev rl .nil).mono s2.same)) hm1
theorem sim_makeV {cn : Str} {C : Addr} {i n0 l k : Nat} {gP : List PV → List PV → List PV} {gV : List V → List V → List V} {m : Str → List (Str × PV) → List PV → M (List (Str × PV))} {E : XK} {ta tk : TA} {ma mk : PEnv → M (List PV)} (hl : Link z E) (hc : z.cm cn = some C)
    (hg : ∀ G x vs ps zs qs, ps.length = n0 → qs.length = l → z.repL G vs ps → z.repL G zs qs → ∃ us, gV (.ref x :: vs) zs = .ref x :: us ∧ z.repL G us (gP ps qs)) (ha : SimA z ta ma) (hk : SimA z tk mk) :
    SimE z (Ev.tMakeV C n0 l (spI z.K z.cm k m) gV E (tVar i) ta tk) (mMakeV C i cn n0 l k gP m ma mk) := by
  intro σ env G H n Qp Q ok fr er hm hq
  obtain ⟨he, hm⟩ := hm
  obtain ⟨x, hx, v, rfl, r⟩ := er.at_ i _ he
  cases r
  exact ⟨_, hx, rfl, sim_make hl hc hg ha hk σ env G H n Qp Q ok fr er hm hq⟩
theorem sim_cc {C : Addr} {n0 l k : Nat} {gP : List PV → List PV → List PV} {gV : List V → List V → List V} {m : List PV → M PV} {E : XK} {ta tk : TA} {ma mk : PEnv → M (List PV)} (hl : Link z E)
    (hg : ∀ G x vs ps zs qs, ps.length = n0 → qs.length = l → z.repL G vs ps → z.repL G zs qs → ∃ us, gV (.ref x :: vs) zs = .ref x :: us ∧ z.repL G us (gP ps qs)) (ha : SimA z ta ma) (hk : SimA z tk mk) :
    SimE z (Ev.tCC C n0 l (spC z.K z.cm C k m) gV E ta tk) (mCallK n0 l k gP m ma mk) := by
  intro σ env G H n Qp Q ok fr er hm hq
  refine ha.bind ok fr er hm fun vs ps G1 H1 n1 ok1 fr1 er1 s1 r1 hm1 => ?_
  refine hk.bind ok1 fr1 er1 hm1 fun zs qs G2 H2 n2 ok2 fr2 er2 s2 r2 hm2 => ?_
  obtain ⟨us, eu, rr⟩ := hg G2 C vs ps zs qs hm2.1 hm2.2.1 (r1.mono s2.same) r2
  refine ⟨r1.len.trans hm2.1, r2.len.trans hm2.2.1, us, eu, z.p, z.c, G2, n2, gP ps qs, z.W env, Qp, rr.len.trans hm2.2.2.1, ok2, rr, hm2.2.2.2, fun v q G' H' n' ok' st' r' hq' => ((hq.step s1).step s2) v q G' H' n' ok' st' r' hq', fun cn fs C d G' H' n' ok' st' hc rx hw => ?_⟩
  exact hl σ env G' H' n' cn fs C d ok' (fr2.stepP st') (er2.step st') hc rx hw
end
end Pu
namespace GQ
open PySem PySem.SeqAt
open AutoSeq1 (wpAny_loadPart')
open MeetsSeq MeetsSeq2 MeetsSeq3 SeqRoads2
section
variable {prog : Program} {w : World} {A : Around} {R : Result → Shared → Prop}
end
section
variable {prog : Program} {w : World} {A : Around} {E : Value → Shared → Prop} {s : Shared}
end
end GQ
namespace Ev
open PySem PySem.Spec PyProof.Rows L2
section
variable {X : Cx} {k j : Nat} {E : XK}
def rNeLI (K : PySem.W.Frag) (D : Addr → Sp → Prop) (E : XK) : R2 := fun x y H Q => rEqLI K D E x y H fun v H' => v = .bl true → Q (.bl false) H'
end
end Ev
namespace Pu
open PySem PySem.Spec PyProof.Rows L2
end Pu
namespace Pu
open PySem PySem.Spec PyProof.Rows L2
def mParOwn3 (i j l : Nat) (ma mb : PEnv → M PV) (mc : PEnv → M (List PV)) : MS := fun W D env n => ma env (W env) n fun x n1 => mb env (W env) n1 fun y n2 => mc env (W env) n2 fun ys n3 => ys.length ≤ 1000000 ∧ D.nx (((env.set i (.val x)).set j (.val y)).set l (.own ys)) n3
theorem sim_parOwn3 {z : Z} {i j l : Nat} {ta tb : TE} {tc : TA} {ma mb : PEnv → M PV} {mc : PEnv → M (List PV)} (ha : SimE z ta ma) (hb : SimE z tb mb) (hc : SimA z tc mc) :
    SimS z (tPar3 i j l (tCons ta (tCons tb (tCons (tLst tc) tNil)))) (mParOwn3 i j l ma mb mc) := by
  intro σ env G H n D Dp ok fr er hm ed
  refine ha.bind ok fr er hm fun x px G1 H1 n1 ok1 fr1 er1 s1 r1 hm1 => ?_
  refine hb.bind ok1 fr1 er1 hm1 fun y py G2 H2 n2 ok2 fr2 er2 s2 r2 hm2 => ?_
  refine hc.bind ok2 fr2 er2 hm2 fun ys ps G3 H3 n3 ok3 fr3 er3 s3 r3 hm3 => ?_
  refine ⟨by rw [r3.len]; exact line_of hm3.1, fun q hq1 => ⟨_, _, _, rfl, ?_⟩⟩
  have er4 := (er3.setV (i := i) (r1.mono (s2.same.trans s3.same))).setV (i := j) (r2.mono s3.same)
  obtain ⟨ok4, s4⟩ := ok3.newO (o := .lst ys) hq1
  have mine := ok3.mine fr3 hq1
  refine ed.nx _ _ G3 _ n3 ((s1.same.trans s2.same).trans s3.same) ok4 (fr3.stepP s4) ?_ hm3.2
  refine (er4.step s4).set ⟨q, ys, rfl, upd_same, mine, fr3.h0 hq1, r3⟩ fun _ k s' b nj hj os' hb eb => ?_
  cases Option.some.inj eb
  obtain ⟨x, hx, rx⟩ := er4.at_ k s' hj
  rw [hx] at hb
  cases Option.some.inj hb
  cases s' with
  | no => cases os'
  | val _ => cases os'
  | own ps =>
    obtain ⟨b, vs, e, hb, _⟩ := rx
    cases e
    rw [hq1] at hb
    cases hb
  | odc ps =>
    obtain ⟨b, vs, e, hb, _⟩ := rx
    cases e
    rw [hq1] at hb
    cases hb
  | obj c fs =>
    obtain ⟨b, C, dx, vs, e, _, hb, _⟩ := rx
    cases e
    rw [hq1] at hb
    cases hb
end Pu
namespace Ev
open PySem PySem.Spec PyProof.Rows L2
section
variable (P : Program) (w : World) (K : PySem.W.Frag) (mg : Str → Option Value) (base : Heap)
structure GP (k : Nat) (C : Addr) (m : Str) (sp : Sp) : Prop where
  ex : ∃ (p g : Addr) (fd : FuncData) (ps : List Str), Cls K C ∧ PropOf K C m p g ∧ GOk P w K mg base (L2.CX P w) k g fd ps sp ∧ Binds K fd ps []
end
section
variable {X : Cx} {k j : Nat} {C : Addr} {m : Str} {sp : Sp} {pos : Pos} {o : Expr} {ta : TE}
end
end Ev
namespace Pu
open PySem PySem.Spec PyProof.Rows L2
def mProp (cn : Str) (m : List PV → M PV) (a : PEnv → M PV) : PEnv → M PV := fun env W n Q => a env W n fun x n1 => match x with
  | .ins c fs => c = cn ∧ m [.ins c fs] W0 n1 Q
  | _ => False
theorem sim_prop {z : Z} {cn : Str} {C : Addr} {m : List PV → M PV} {ta : TE} {ma : PEnv → M PV} (hc : z.cm cn = some C) (ha : SimE z ta ma) : SimE z (tProp C (spP z.K z.cm 1 m) [] (fun _ _ _ => False) ta) (mProp cn m ma) := by
  intro σ env G H n Qp Q ok fr er hm hq
  refine ha.bind ok fr er hm fun x px G1 H1 n1 ok1 fr1 er1 s1 r1 hm1 => ?_
  cases r1 <;> try exact hm1.elim
  rename_i a C' dx c vs ps hc' hg rf
  obtain ⟨rfl, hm1⟩ := hm1
  rw [hc] at hc'
  cases hc'
  refine ⟨a, dx, vs, rfl, ok1.sub _ _ hg, z.p, z.c, G1, n1, [.ins c ps], W0, Qp, rfl, ok1, .cons (.ins hc hg rf) .nil, hm1, fun v q G' H' n' ok' st' r' hq' => (hq.step s1) v q G' H' n' ok' st' r' hq', fun cn fs C d G' H' n' ok' st' hc rx hw => hw.elim⟩
def mMakeSt (i : Nat) (f : Str) (cn : Str) (n l k : Nat) (gP : List PV → List PV → List PV) (m : Str → List (Str × PV) → List PV → M (List (Str × PV))) (r s : PEnv → M (List PV)) (e : PEnv → M PV) (b : MS) : MS := fun W D env n0 =>
  r env (W env) n0 fun ps n1 => s env (W env) n1 fun qs n2 => ps.length = n ∧ qs.length = l ∧ (gP ps qs).length + 1 = k ∧ i < env.length ∧
    m cn [] (gP ps qs) (W env) n2 fun fs n3 => e (env.set i .no) (W (env.set i .no)) n3 fun y n4 => fs.length < 1000 ∧ b W D (env.set i (.val (.ins cn (pputF f y fs)))) n4
theorem sim_makeSt {z : Z} {i : Nat} {f cn : Str} {C : Addr} {n0 l k : Nat} {gP : List PV → List PV → List PV} {gV : List V → List V → List V} {m : Str → List (Str × PV) → List PV → M (List (Str × PV))} {E : XK} {ta tk : TA} {ma mk : PEnv → M (List PV)} {tv : TE} {me : PEnv → M PV} {tb : TS} {mb : MS}
    (hl : Link z E) (hc : z.cm cn = some C) (hk : ∀ c C, z.cm c = some C → Cls z.K C ∧ NoAttr z.K C f)
    (hg : ∀ G x vs ps zs qs, ps.length = n0 → qs.length = l → z.repL G vs ps → z.repL G zs qs → ∃ us, gV (.ref x :: vs) zs = .ref x :: us ∧ z.repL G us (gP ps qs)) (ha : SimA z ta ma) (hkw : SimA z tk mk) (he : SimE z tv me) (hb : SimS z tb mb) :
    SimS z (tSeq (tAsg (tMakeK C n0 l (spI z.K z.cm k m) gV E ta tk) (gName i)) (tSeq (sFld z.K (tVar i) tv f) tb)) (mMakeSt i f cn n0 l k gP m ma mk me mb) := by
  intro σ env G H n D Dp ok fr er hm ed
  refine ha.bind ok fr er hm fun vs ps G1 H1 n1 ok1 fr1 er1 s1 r1 hm1 => ?_
  refine hkw.bind ok1 fr1 er1 hm1 fun zs qs G2 H2 n2 ok2 fr2 er2 s2 r2 hm2 => ?_
  obtain ⟨l1, l2, l3, hil, hm2⟩ := hm2
  refine ⟨r1.len.trans l1, r2.len.trans l2, fun x dx nx ndx ne => ?_⟩
  obtain ⟨us, eu, ru⟩ := hg G2 x vs ps zs qs l1 l2 (r1.mono s2.same) r2
  obtain ⟨ok3, s3⟩ := ok2.newO (o := .own x) ndx
  have nx3 : upd H2 dx (.own x) x = none := (upd_ne ne.symm).trans nx
  obtain ⟨ok4, s4⟩ := ok3.newO (o := .ins C dx []) nx3
  have st4 := s3.trans s4 fun _ q => q
  have nxp := Ev.Pen.ne ok2.pen nx
  have nxc := Ev.Pen.neC ok2.pen nx
  have down : ∀ {G' H' : Hp}, Step z.cm z.c (fun b => b = z.p ∨ b = x) G2 (upd (upd H2 dx (.own x)) x (.ins C dx [])) G' H' → Step z.cm z.c (· = z.p) G2 H2 G' H' := fun {G' H'} st' =>
    ⟨st'.same, fun b o e nb nt => st'.keep b o (st4.keep b o e nb nt) (fun q => by
      rcases q with q | q
      · exact nb q
      · subst q
        rw [nx] at e
        cases e) nt, fun b o e nb => st'.new b o e (st4.al b nb), fun b h => st'.al b (st4.al b h)⟩
  refine ⟨z.p, z.c, G2, n2, cn, C, x, dx, us, [], [], gP ps qs, z.W env, _, eu, by rw [ru.len]; exact l3, ok4, hc, upd_same, ok2.free nx, nxp, nxc, .nil, ru, hm2, fun vf' fs' G' H' n' ok' st' hx' gx' rf' hq' => ⟨rfl, ?_⟩, fun cn fs C d G' H' n' ok' st' hc rx hw => ?_⟩
  · have st5 := down st'
    have fr5 := fr2.stepP st5
    have er5 := (er2.step st5).wipe1 (i := i) (x := some (.ref x))
    have hxl : (σ.set i (some (.ref x)))[i]? = some (some (.ref x)) := by rw [List.getElem?_set_self (by rw [er2.len]; exact hil)]
    refine he.bind ok' fr5 er5 hq' fun y py G6 H6 n6 ok6 fr6 er6 s6 r6 hm6 => ?_
    have hx6 : H6 x = some (.ins C dx vf') := s6.keep _ _ hx' nxp (ko_ins hc)
    have gx6 : G6 x = none := by
      cases e : G6 x with
      | none => rfl
      | some o =>
        have := s6.new x o e ⟨_, hx', nt0_ins⟩
        rw [gx'] at this
        cases this
    obtain ⟨k1, k2⟩ := hk cn C hc
    refine ⟨.ref x, hxl, x, C, dx, vf', rfl, hx6, k1, k2, by rw [rf'.len]; exact hm6.1, ?_⟩
    have sg : Same G6 (upd G6 x (.ins C dx (putF f y vf'))) := fun b o e => Ev.get_new e gx6
    have ok7 : Ok z.K z.cm z.p z.c (upd G6 x (.ins C dx (putF f y vf'))) (upd H6 x (.ins C dx (putF f y vf'))) n6 := ⟨fun b o e => by
      by_cases q : b = x
      · subst q
        rw [upd_same] at e ⊢
        exact e
      · rw [upd_ne q] at e ⊢
        exact ok6.sub _ _ e, ok6.pen.set nxp nxc, (upd_ne nxp.symm).trans ok6.gp, gc_upd nxc.symm ok6.gc, Tabs.set ok6.tb hx6 nt0_ins (fun φ => by simp), gt_upd ok6.gt nt0_ins, ok6.mu.setG hx6 (nt_ins hc).2 (by assumption), ok6.lk⟩
    have s56 := st5.trans s6 fun _ q => q
    have nh : ¬ Has H2 x := fun h => h.no nx
    have st7 : Step z.cm z.c (· = z.p) G2 H2 (upd G6 x (.ins C dx (putF f y vf'))) (upd H6 x (.ins C dx (putF f y vf'))) := ⟨s56.same.trans sg, fun b o e nb nt => by
      rw [upd_ne (fun q => by rw [q, nx] at e; cases e)]
      exact s56.keep b o e nb nt, fun b o e nb => by
      by_cases q : b = x
      · subst q
        exact (nh nb).elim
      · rw [upd_ne q] at e
        exact s56.new b o e nb, fun b h => (s56.al b h).upd nt0_ins⟩
    have rp : z.rep (upd G6 x (.ins C dx (putF f y vf'))) (.ref x) (.ins cn (pputF f py fs')) := .ins hc upd_same (repF_put (r6.mono sg) (rf'.mono (s6.same.trans sg)))
    have sall : Same G (upd G6 x (.ins C dx (putF f y vf'))) := (s1.same.trans s2.same).trans st7.same
    exact hb _ _ _ _ n6 D Dp ok7 (fr2.stepP st7) ((er2.step st7).setV rp) hm6.2 (ed.mono sall)
  · have st5 := down st'
    exact hl σ env G' H' n' cn fs C d ok' (fr2.stepP st5) (er2.step st5) hc rx hw
end Pu
namespace Ev
open PySem PySem.Spec PyProof.Rows L2
section
variable {X : Cx} {k j : Nat} {E : XK}
def PairT (K : PySem.W.Frag) (D : Addr → Sp → Prop) (E : XK) (J : Hp → Prop) (H : Hp) (u v : V) : Prop := PairI K D E J H u v ∨ ∃ d e, Dp K H u d ∧ Dp K H v e ∧ d.canLay0 = true ∧ e.canLay0 = true ∧ min d.depth e.depth ≤ 60 ∧ PyData.eqv d e = true
def rEqTI (K : PySem.W.Frag) (D : Addr → Sp → Prop) (E : XK) : R2 := fun x y H Q => ∃ (a b : Addr) (xs ys : List V) (J : Hp → Prop), x = .ref a ∧ y = .ref b ∧ J H ∧ SqT K H a xs ∧ SqT K H b ys ∧ xs.length = ys.length ∧
  (∀ (i : Nat) (u v : V) (H1 : Hp), J H1 → xs[i]? = some u → ys[i]? = some v → PairT K D E J H1 u v) ∧ ∀ H', J H' → Q (.bl true) H'
end
end Ev
namespace Pu
open PySem PySem.Spec PyProof.Rows L2
def pairsT (ms : List (Str × (List PV → M PV))) : List PV → List PV → Prop
  | [], [] => True
  | .ins c fs :: xs, y :: ys => (y.isTy "int").isSome = true ∧ (match y with | .ins _ _ => True | _ => False) ∧ (match ms.lookup c with
    | some m => ∀ n, m [.ins c fs, y] W0 n fun v n1 => v = .bl true ∧ n1 = n
    | none => False) ∧ pairsT ms xs ys
  | x :: xs, y :: ys => (match x.data, y.data with
    | some d, some e => d.canLay0 = true ∧ e.canLay0 = true ∧ min d.depth e.depth ≤ 60 ∧ PyData.eqv d e = true
    | _, _ => False) ∧ pairsT ms xs ys
  | _, _ => False
def pEqTI (ms : List (Str × (List PV → M PV))) : PV → PV → M PV := fun x y _ n Q => match x, y with
  | .tup xs, .tup ys => pairsT ms xs ys ∧ Q (.bl true) n
  | _, _ => False
section
variable {z : Z}
theorem pairsT_cons {ms : List (Str × (List PV → M PV))} {x y : PV} {xs ys : List PV} (h : pairsT ms (x :: xs) (y :: ys)) : (pairsI ms [x] [y] ∨ ∃ d e, x.data = some d ∧ y.data = some e ∧ d.canLay0 = true ∧ e.canLay0 = true ∧ min d.depth e.depth ≤ 60 ∧ PyData.eqv d e = true) ∧ pairsT ms xs ys := by
  unfold pairsT at h
  split at h
  · rename_i e _
    cases e
  · rename_i c fs xs' y' ys' e1 e2
    cases e1
    cases e2
    exact ⟨.inl ⟨h.1, h.2.1, h.2.2.1, trivial⟩, h.2.2.2⟩
  · rename_i e1 e2
    cases e1
    cases e2
    refine ⟨.inr ?_, h.2⟩
    have h := h.1
    split at h
    · rename_i d e h1 h2
      exact ⟨d, e, h1, h2, h⟩
    · exact h.elim
  · exact h.elim
theorem pairsT_of {G H0 : Hp} {n : SN} {ms : List (Str × (List PV → M PV))} {D : Addr → Sp → Prop} {E : XK} {J : Hp → Prop} (hJ : ∀ G1 H1 G' H', Step z.cm z.c (· = z.p) G H0 G1 H1 → Ok z.K z.cm z.p z.c G' H' n → Step z.cm z.c (· = z.p) G1 H1 G' H' → J H')
    (hD : ∀ c m C, ms.lookup c = some m → z.cm c = some C → D C (spP z.K z.cm 2 m)) (hn : ∀ c C m d D', ms.lookup c = some m → z.cm c = some C → z.cm d = some D' → Ev.CI z.K D' ∧ PySem.W.notFirst z.K C (.ref D') = true) :
    ∀ {xs ys : List PV} {us vs : List V}, z.repL G us xs → z.repL G vs ys → pairsT ms xs ys → us.length = vs.length ∧ ∀ (i : Nat) (u v : V) (G1 H1 : Hp), Step z.cm z.c (· = z.p) G H0 G1 H1 → Ok z.K z.cm z.p z.c G1 H1 n → us[i]? = some u → vs[i]? = some v → Ev.PairT z.K D E J H1 u v
  | [], [], _, _, .nil, .nil, _ => ⟨rfl, fun i u v G1 H1 _ _ h _ => by simp at h⟩
  | [], _ :: _, _, _, .nil, .cons _ _, h => by
    unfold pairsT at h
    exact h.elim
  | x :: xs, [], _, _, .cons _ _, .nil, h => by
    unfold pairsT at h
    split at h
    · rename_i e _
      cases e
    · rename_i e
      cases e
    · rename_i e
      cases e
    · exact h.elim
  | x :: xs, y :: ys, _, _, .cons r rs, .cons r2 rs2, h => by
    obtain ⟨hh, ht⟩ := pairsT_cons h
    obtain ⟨e, k⟩ := pairsT_of hJ hD hn rs rs2 ht
    refine ⟨by simp [e], fun i u v G1 H1 st ok hu hv => ?_⟩
    cases i with
    | succ i => exact k i u v G1 H1 st ok (by simpa using hu) (by simpa using hv)
    | zero =>
      simp at hu hv
      subst hu hv
      rcases hh with hh | ⟨d, e, h1, h2, c1, c2, dp, ev⟩
      · exact .inl ((pairs_of hJ hD hn (.cons r .nil) (.cons r2 .nil) hh).2 0 _ _ G1 H1 st ok rfl rfl)
      · exact .inr ⟨d, e, dp_of ok.sub (r.mono st.same) h1, dp_of ok.sub (r2.mono st.same) h2, c1, c2, dp, ev⟩
theorem simR_eqTI {ms : List (Str × (List PV → M PV))} {D : Addr → Sp → Prop} {E : XK} (hD : ∀ c m C, ms.lookup c = some m → z.cm c = some C → D C (spP z.K z.cm 2 m)) (hn : ∀ c C m d D', ms.lookup c = some m → z.cm c = some C → z.cm d = some D' → Ev.CI z.K D' ∧ PySem.W.notFirst z.K C (.ref D') = true) :
    SimR z (Ev.rEqTI z.K D E) (pEqTI ms) := by
  intro σ env G H n Qp Q x y px py ok fr er rx ry hm hq
  cases rx <;> try exact hm.elim
  cases ry <;> try exact hm.elim
  rename_i a us xs ha ru b vs ys hb rv
  obtain ⟨hp, hm⟩ := hm
  obtain ⟨el, k⟩ := pairsT_of (J := fun H1 => ∃ G1, Ok z.K z.cm z.p z.c G1 H1 n ∧ Step z.cm z.c (· = z.p) G H G1 H1) (D := D) (E := E) (G := G) (H0 := H) (n := n) (fun G1 H1 G' H' s1 ok' s' => ⟨G', ok', s1.trans s' fun _ x => x⟩) hD hn ru rv hp
  exact ⟨a, b, us, vs, fun H1 => ∃ G1, Ok z.K z.cm z.p z.c G1 H1 n ∧ Step z.cm z.c (· = z.p) G H G1 H1, rfl, rfl, ⟨G, ok, Step.refl _ _ _⟩, Ev.Same.seqT ok.sub ha, Ev.Same.seqT ok.sub hb, el, fun i u v H1 ⟨G1, ok1, s1⟩ h1 h2 => k i u v G1 H1 s1 ok1 h1 h2, fun H' ⟨G1, ok1, s1⟩ => hq _ _ G1 H' n ok1 s1 (.bl true) hm⟩
end
end Pu
namespace Ev
open PySem PySem.Spec PyProof.Rows L2
section
variable {X : Cx} {k j : Nat} {f C : Addr} {fd : FuncData} {ps : List Str} {sp : Sp} {dvs : List V} {ds : List Value} {x m : Str} {p pos apos : Pos} {e o : Expr} {es : List Expr} {ta : TE} {t : TA} {W : WX}
def tMethS (C : Addr) (m : Str) (sp : Sp) (W : WX) (ta : TE) (t : TA) : TE := fun σ H Q => ta σ H fun x H1 => ∃ a dx fs, x = .ref a ∧ H1 a = some (.ins C dx fs) ∧ fs.lookup m = none ∧ t σ H1 fun vs H2 => sp (x :: vs) H2 Q (WE W σ)
def tCallS (sp : Sp) (W : WX) (t : TA) : TE := fun σ H Q => t σ H fun vs H1 => sp vs H1 Q (WE W σ)
end
end Ev
namespace Pu
open PySem PySem.Spec PyProof.Rows L2
theorem sim_methS {z : Z} {cn f : Str} {C : Addr} {k : Nat} {m : List PV → M PV} {W : WX} {ta : TE} {tr : TA} {ma : PEnv → M PV} {mr : PEnv → M (List PV)} (hl : LinkW z W) (hc : z.cm cn = some C) (ha : SimE z ta ma) (hr : SimA z tr mr) :
    SimE z (Ev.tMethS C f (spP z.K z.cm k m) W ta tr) (mMeth cn f k m [] ma mr) := by
  intro σ env G H n Qp Q ok fr er hm hq
  refine ha.bind ok fr er hm fun x px G1 H1 n1 ok1 fr1 er1 s1 r1 hm1 => ?_
  cases r1 <;> try exact hm1.elim
  rename_i a C' dx c vs ps hc' hg rf
  obtain ⟨rfl, hf, hm1⟩ := hm1
  rw [hc] at hc'
  cases hc'
  have hlk : vs.lookup f = none := by
    rcases rf.look (f := f) with ⟨_, e⟩ | ⟨x, y, e, _⟩
    · exact e
    · rw [hf] at e
      cases e
  refine ⟨a, dx, vs, rfl, ok1.sub _ _ hg, hlk, ?_⟩
  refine hr.bind ok1 fr1 er1 hm1 fun us args G2 H2 n2 ok2 fr2 er2 s2 r2 hm2 => ?_
  rw [List.append_nil] at hm2
  have rr : z.repL G2 (.ref a :: us) (.ins c ps :: args) := .cons (.ins hc (s2.same _ _ hg) (rf.mono s2.same)) r2
  refine ⟨z.p, z.c, G2, n2, _, z.W env, Qp, rr.len.trans (by rw [List.length_cons]; exact hm2.1), ok2, rr, hm2.2, fun v q G' H' n' ok' st' r' hq' => ((hq.step s1).step s2) v q G' H' n' ok' st' r' hq', fun cn fs C d G' H' n' ok' st' hc rx hw => ?_⟩
  exact hl σ env G' H' n' cn fs C d ok' (fr2.stepP st') (er2.step st') hc rx hw
theorem sim_callS {z : Z} {k : Nat} {m : List PV → M PV} {W : WX} {ta : TA} {ma : PEnv → M (List PV)} (hl : LinkW z W) (ha : SimA z ta ma) : SimE z (Ev.tCallS (spP z.K z.cm k m) W ta) (mCall k m [] ma) := by
  intro σ env G H n Qp Q ok fr er hm hq
  refine ha.bind ok fr er hm fun vs args G1 H1 n1 ok1 fr1 er1 s1 r1 hm1 => ?_
  rw [List.append_nil] at hm1
  refine ⟨z.p, z.c, G1, n1, args, z.W env, Qp, r1.len.trans hm1.1, ok1, r1, hm1.2, fun v q G' H' n' ok' st' r' hq' => (hq.step s1) v q G' H' n' ok' st' r' hq', fun cn fs C d G' H' n' ok' st' hc rx hw => ?_⟩
  exact hl σ env G' H' n' cn fs C d ok' (fr1.stepP st') (er1.step st') hc rx hw
end Pu
namespace Ev
open PySem PySem.Spec PyProof.Rows L2
section
variable {X : Cx} {pins : List (Addr × Obj)} {σ : L2.St} {H : Hp} {s : Shared} {tg : Expr} {R : It → Hp → Prop} {a : Addr} {xs : List V}
end
def iAny (K : PySem.W.Frag) (te : TE) : TI := fun σ H R => te σ H fun x H1 => ∃ (a : Addr) (xs : List V), x = .ref a ∧ ((SqL K H1 a xs ∧ R (Itl K a) H1) ∨ (SqT K H1 a xs ∧ R (Itt K a) H1))
def iEnumA (K : PySem.W.Frag) (ta : TA) : TI := fun σ H R => ta σ H fun vs H1 => ∃ (b : Bool) (a : Addr) (xs : List V), vs = [.ref a] ∧ SqB b K H1 a xs ∧ R (IteB b K a) H1
end Ev
namespace Pu
open PySem PySem.Spec PyProof.Rows L2
def mAnyI (m : PEnv → M PV) : PEnv → M (List PV) := fun env W n Q => m env W n fun x n1 => match x.items with
  | some xs => Q xs n1
  | none => False
theorem it_list {z : Z} {G : Hp} {a : Addr} {vs : List V} {ps : List PV} (hs : G a = some (.lst vs)) (rl : z.repL G vs ps) : ItRep z G (Itl z.K a) ps := fun G2 H2 n2 i sg ok2 => by
  have h2 : SqL z.K H2 a vs := SqL.of ((sg.trans ok2.sub) _ _ hs)
  refine ⟨fun hl => ⟨vs, h2, by rw [rl.len]; exact hl⟩, fun q hq => ?_⟩
  obtain ⟨y, hy, ry⟩ := rl.get hq
  refine ⟨⟨vs, y, h2, hy⟩, fun x H3 hx => ?_⟩
  obtain ⟨rfl, hx⟩ := hx
  have := hx vs h2
  rw [hy] at this
  cases this
  exact ⟨G2, ok2, Step.refl _ _ _, ry.mono sg⟩
theorem it_tup {z : Z} {G : Hp} {a : Addr} {vs : List V} {ps : List PV} (hs : SqT z.K G a vs) (rl : z.repL G vs ps) : ItRep z G (Itt z.K a) ps := fun G2 H2 n2 i sg ok2 => by
  have h2 := Ev.Same.seqT (sg.trans ok2.sub) hs
  refine ⟨fun hl => ⟨vs, h2, by rw [rl.len]; exact hl⟩, fun q hq => ?_⟩
  obtain ⟨y, hy, ry⟩ := rl.get hq
  refine ⟨⟨vs, y, h2, hy⟩, fun x H3 hx => ?_⟩
  obtain ⟨rfl, hx⟩ := hx
  have := hx vs h2
  rw [hy] at this
  cases this
  exact ⟨G2, ok2, Step.refl _ _ _, ry.mono sg⟩
theorem sim_iAny {z : Z} {tl : TE} {m : PEnv → M PV} (h : SimE z tl m) : SimI z (Ev.iAny z.K tl) (mAnyI m) := by
  intro σ env G H n Qp Q ok fr er hm hq
  refine h.bind ok fr er hm fun x px G1 H1 n1 ok1 fr1 er1 s1 r1 hm1 => ?_
  cases r1 <;> simp only [PV.items] at hm1
  case lst hs rl => exact ⟨_, _, rfl, .inl ⟨SqL.of (ok1.sub _ _ hs), (hq.step s1).here ok1 (it_list hs rl) hm1⟩⟩
  case tup hs rl => exact ⟨_, _, rfl, .inr ⟨Ev.Same.seqT ok1.sub hs, (hq.step s1).here ok1 (it_tup hs rl) hm1⟩⟩
def mEnumA (r : PEnv → M (List PV)) : PEnv → M (List PV) := fun env W n Q => r env W n fun vs n1 => match vs with
  | [x] => match x.items with
    | some xs => Q (enP 0 xs) n1
    | none => False
  | _ => False
theorem sim_iEnumA {z : Z} {ta : TA} {m : PEnv → M (List PV)} (h : SimA z ta m) : SimI z (Ev.iEnumA z.K ta) (mEnumA m) := by
  intro σ env G H n Qp Q ok fr er hm hq
  refine h.bind ok fr er hm fun xs px G1 H1 n1 ok1 fr1 er1 s1 r1 hm1 => ?_
  split at hm1
  · rename_i x
    match xs, r1 with
    | [v], .cons rx .nil =>
      obtain ⟨b, qs, e0, hm1⟩ : ∃ b qs, seqB b x = some qs ∧ Qp (enP 0 qs) n1 := by
        cases x <;> simp only [PV.items] at hm1
        case lst ys => exact ⟨true, ys, rfl, hm1⟩
        case tup ys => exact ⟨false, ys, rfl, hm1⟩
      obtain ⟨a, vs, rfl, hs, rl⟩ := rep_seqB rx e0
      refine ⟨b, a, vs, rfl, hs _ _ (Same.refl _) ok1.sub, (hq.step s1).here (v := Ev.IteB b z.K a) (q := enP 0 qs) ok1 (fun G2 H2 n2 i sg ok2 => ?_) hm1⟩
      have k1 := hs _ _ sg ok2.sub
      refine ⟨fun hl => ⟨vs, k1, ?_⟩, fun q hq2 => ?_⟩
      · rw [enP_len] at hl
        rw [rl.len]
        exact hl
      · obtain ⟨p1, g1, rfl⟩ := enP_get hq2
        obtain ⟨y1, f1, ry1⟩ := rl.get g1
        refine ⟨⟨vs, y1, k1, f1⟩, fun u H3 hx => ?_⟩
        obtain ⟨T, u1, rfl, hn, rfl, a1⟩ := hx
        have b1 := a1 _ k1
        rw [f1] at b1
        cases b1
        obtain ⟨ok3, s3⟩ := ok2.new (o := .tup [.int ((i : Nat) : Int), y1]) hn
        rw [Nat.zero_add]
        exact ⟨_, ok3, s3, .tup (SqT.of upd_same) (.cons (.int _) (.cons ((ry1.mono sg).mono s3.same) .nil))⟩
  · exact hm1.elim
end Pu
namespace Ev
open PySem PySem.Spec PyProof.Rows L2
def ItN (b : Bool) (l it : Addr) (i : Nat) : HO := .ext fun h => SI b h it l i
theorem SI.ok {P : Program} {w : World} {H : Hp} {h : Heap} {b : Bool} {l it : Addr} {i : Nat} (e : SI b h it l i) : ObjOk P w H h it (ItN b l it i) :=
  ⟨e, let ⟨o, x, _⟩ := e.obj; ⟨o, x⟩, fun _ _ q k => q.to fun o x => k o x⟩
section
variable {prog : Program} {w : World} {A : Around} {E : Value → Shared → Prop} {s : Shared} {l : Addr}
end
def spIt (K : PySem.W.Frag) (C : Addr) (F : Str) (n : Nat) : Sp := fun vs H Q _ => ∃ (a dx : Addr) (fs : List (Str × V)) (b : Bool) (l : Addr) (zs : List V), vs = [.ref a] ∧ H a = some (.ins C dx fs) ∧ fs.lookup F = some (.ref l) ∧ SqB b K H l zs ∧
  ∀ it, H it = none → n ≤ it → Q (.ref it) (upd H it (ItN b l it 0))
section
variable (P : Program) (w : World) (K : PySem.W.Frag) (mg : Str → Option Value) (base : Heap)
structure GIt (k : Nat) (C : Addr) (F : Str) (f : Addr) (fd : FuncData) : Prop where
  run : ∀ (A : Around) (outer : List Env) (s : Shared) (H : Hp) (args : Args) (us : List Value) (vs : List V) (Q : VK), A.guards = some [] → Room k A → Env0 P w K mg base A outer s H → BindsTo s fd args ([("self" : Str)].zip us) → Vals vs us →
    spIt K C F s.heap.objs.size vs H Q (fun _ _ _ => False) → codeAny (model P w) A (.call (.ref f) args) (CR (L2.CX P w) outer P w H s Q fun _ _ _ => False) s
structure GIo (k : Nat) (C : Addr) (F : Str) : Prop where
  ex : ∃ (f : Addr) (fd : FuncData), Cls K C ∧ Meth K C "__iter__" f ∧ GIt P w K mg base k C F f fd ∧ Binds K fd ["self"] []
end
section
variable {X : Cx} {k j : Nat} {C : Addr} {F : Str} {pins : List (Addr × Obj)} {σ : L2.St} {H : Hp} {s : Shared} {a dx l : Addr} {fs : List (Str × V)} {b : Bool} {zs : List V} {A' : Around}
def rListO (K : PySem.W.Frag) (C : Addr) (F : Str) (sp : Sp) : List V → Hp → VK → Prop := fun xs H Q => ∃ (a dx : Addr) (fs : List (Str × V)) (b : Bool) (l : Addr) (zs : List V), xs = [.ref a] ∧ H a = some (.ins C dx fs) ∧ fs.lookup F = some (.ref l) ∧ zs.length ≤ 1000000 ∧ (∀ q, H q = none → SqB b K (upd H q (.lst [])) l zs) ∧
  ∀ q, H q = none → sp [.ref a] (upd H q (.lst [])) (fun v H' => (∃ n : Int, v = .int n ∧ 0 ≤ n ∧ n ≤ 1000000) ∧ (H' q = some (.lst []) ∧ (∀ acc, SqB b K (upd H' q (.lst acc)) l zs) ∧ Q (.ref q) (upd H' q (.lst zs)))) fun _ _ _ => False
end
def iOwn (K : PySem.W.Frag) (C : Addr) (F : Str) (te : TE) : TI := fun σ H R => te σ H fun x H1 => ∃ (a dx : Addr) (fs : List (Str × V)) (l : Addr) (zs : List V), x = .ref a ∧ H1 a = some (.ins C dx fs) ∧ fs.lookup F = some (.ref l) ∧ ((SqL K H1 l zs ∧ R (Itl K l) H1) ∨ (SqT K H1 l zs ∧ R (Itt K l) H1))
end Ev
namespace Pu
open PySem PySem.Spec PyProof.Rows L2
def PV.isLenO : PV → Bool
  | .int n => decide (0 ≤ n ∧ n ≤ 1000000)
  | _ => false
def pListO (cn F : Str) (m : List PV → M PV) : List PV → M PV := fun xs _ n Q => match xs with
  | [.ins c fs] => c = cn ∧ match (fs.lookup F).bind PV.items with
    | some ys => ys.length ≤ 1000000 ∧ m [.ins c fs] W0 n fun v n1 => v.isLenO = true ∧ Q (.lst ys) n1
    | none => False
  | _ => False
def mIterO (cn F : Str) (m : PEnv → M PV) : PEnv → M (List PV) := fun env W n Q => m env W n fun x n1 => match x with
  | .ins c fs => c = cn ∧ match (fs.lookup F).bind PV.items with
    | some ys => Q ys n1
    | none => False
  | _ => False
theorem fld_items {z : Z} {G : Hp} {vs : List (Str × V)} {ps : List (Str × PV)} {F : Str} {ys : List PV} (rf : z.repF G vs ps) (e : (ps.lookup F).bind PV.items = some ys) :
    ∃ (b : Bool) (l : Addr) (zs : List V), vs.lookup F = some (.ref l) ∧ (∀ G2 H2, Same G G2 → Same G2 H2 → Ev.SqB b z.K H2 l zs) ∧ z.repL G zs ys ∧ ItRep z G (if b = true then Itl z.K l else Itt z.K l) ys := by
  rcases rf.look (f := F) with ⟨e1, _⟩ | ⟨x, y, e1, e2, r⟩
  · rw [e1] at e
    cases e
  · rw [e1] at e
    have e : x.items = some ys := e
    cases r <;> simp only [PV.items] at e <;> cases e
    case inr.lst.refl hs rl => exact ⟨true, _, _, e2, fun G2 H2 s1 s2 => SqL.of ((s1.trans s2) _ _ hs), rl, it_list hs rl⟩
    case inr.tup.refl hs rl => exact ⟨false, _, _, e2, fun G2 H2 s1 s2 => Ev.Same.seqT (s1.trans s2) hs, rl, it_tup hs rl⟩
theorem sim_iOwn {z : Z} {cn F : Str} {C : Addr} {te : TE} {m : PEnv → M PV} (hc : z.cm cn = some C) (h : SimE z te m) : SimI z (Ev.iOwn z.K C F te) (mIterO cn F m) := by
  intro σ env G H n Qp Q ok fr er hm hq
  refine h.bind ok fr er hm fun x px G1 H1 n1 ok1 fr1 er1 s1 r1 hm1 => ?_
  cases r1 <;> try exact hm1.elim
  rename_i a C' dx c vs ps hc' hg rf
  obtain ⟨rfl, hm1⟩ := hm1
  rw [hc] at hc'
  cases hc'
  split at hm1
  · rename_i ys e
    obtain ⟨b, l, zs, e2, hs, rl, it⟩ := fld_items rf e
    refine ⟨a, dx, vs, l, zs, rfl, ok1.sub _ _ hg, e2, ?_⟩
    have hR := (hq.step s1).here ok1 it hm1
    cases b
    · exact .inr ⟨hs _ _ (Same.refl _) ok1.sub, hR⟩
    · exact .inl ⟨hs _ _ (Same.refl _) ok1.sub, hR⟩
  · exact hm1.elim
theorem simC_listO {z : Z} {cn F : Str} {C : Addr} {m : List PV → M PV} (hc : z.cm cn = some C) : SimC z (Ev.rListO z.K C F (spP z.K z.cm 1 m)) (pListO cn F m) := by
  intro σ env G H n Qp Q xs ps ok fr er rl hm hq
  unfold pListO at hm
  split at hm
  case h_2 => exact hm.elim
  rename_i c fs
  obtain ⟨rfl, hm⟩ := hm
  split at hm
  case h_2 => exact hm.elim
  rename_i ys e
  obtain ⟨hy, hm⟩ := hm
  match xs, rl with
  | [_], .cons (.ins (a := a) (C := C') (dx := dx) (vs := vs) hc' hg rf) .nil =>
    rw [hc] at hc'
    cases hc'
    obtain ⟨b, l, zs, e2, hs, rl, _⟩ := fld_items rf e
    refine ⟨a, dx, vs, b, l, zs, rfl, ok.sub _ _ hg, e2, by rw [rl.len]; exact hy, fun q hq0 => hs G _ (Same.refl _) fun b o h => Ev.get_new (ok.sub b o h) hq0, fun q hq0 => ?_⟩
    obtain ⟨ok2, st2⟩ := ok.newO (o := .lst []) hq0
    have nq := ok.free hq0
    have np := Ev.Pen.ne ok.pen hq0
    have nc := Ev.Pen.neC ok.pen hq0
    refine ⟨z.p, z.c, G, n, [.ins c fs], W0, _, rfl, ok2, .cons (.ins hc hg rf) .nil, hm, fun v w G' H' n' ok' st' r' hq' => ?_, fun _ _ _ _ _ _ _ _ _ _ _ hw => hw.elim⟩
    obtain ⟨hl, hQ⟩ := hq'
    have hH : H' q = some (.lst []) := st'.keep _ _ upd_same np ko_lst
    have gq : G' q = none := by
      cases eg : G' q with
      | none => rfl
      | some u =>
        have := st'.new q u eg ⟨_, upd_same, nt0_lst⟩
        rw [nq] at this
        cases this
    have sub2 : ∀ o, Same G' (upd H' q o) := fun o b u h => Ev.get_ne (fun zz => by rw [zz, gq] at h; cases h) (ok'.sub b u h)
    refine ⟨?_, hH, fun acc => hs G' _ st'.same (sub2 _), ?_⟩
    · cases r' <;> first | exact ⟨_, rfl, of_decide_eq_true hl⟩ | (cases hl)
    · refine hq _ _ (upd G' q (.lst zs)) _ n' ⟨fun b u h => ?_, ok'.pen.set np nc, (upd_ne np.symm).trans ok'.gp, gc_upd nc.symm ok'.gc, Tabs.set ok'.tb hH nt0_lst (fun _ z => by cases z), gt_upd ok'.gt nt0_lst, ok'.mu.setG hH nt_lst.2 gq, ok'.lk⟩ ⟨fun b u h => ?_, fun b u h nb nt => ?_, fun b u h hb => ?_, fun b hb => ?_⟩ (.lst upd_same (rl.mono (st'.same.trans fun b u h => Ev.get_new h gq))) hQ
      · by_cases zz : b = q
        · subst zz
          rw [upd_same] at h ⊢
          exact h
        · rw [upd_ne zz] at h ⊢
          exact ok'.sub _ _ h
      · exact Ev.get_new (st'.same b u h) gq
      · have zz : b ≠ q := fun zz => by rw [zz, hq0] at h; cases h
        rw [upd_ne zz]
        exact st'.keep b u ((upd_ne zz).trans h) nb nt
      · have zz : b ≠ q := fun zz => by
          obtain ⟨u2, e3, _⟩ := hb
          rw [zz, hq0] at e3
          cases e3
        rw [upd_ne zz] at h
        exact st'.new b u h (st2.al b hb)
      · exact (st'.al b (st2.al b hb)).upd nt0_lst
end Pu
namespace GQ
open PySem PySem.SeqAt
open AutoSeq1 (wpAny_loadPart')
open MeetsSeq MeetsSeq2 MeetsSeq3 SeqRoads2
section
variable {prog : Program} {w : World} {A : Around} {R : Result → Shared → Prop}
end
section
variable {prog : Program} {w : World} {A : Around} {E : Value → Shared → Prop} {s : Shared}
end
end GQ
namespace Ev
open PySem PySem.Spec PyProof.Rows L2
section
variable {X : Cx} {k j : Nat} {E : XK}
def rNeLX (K : PySem.W.Frag) (D : Addr → Sp → Prop) (E : XK) : R2 := fun x y H Q => rNeLI K D E x y H Q ∨ ∃ (a b : Addr) (xs ys : List V), x = .ref a ∧ y = .ref b ∧ H a = some (.lst xs) ∧ H b = some (.lst ys) ∧ xs.length ≠ ys.length ∧ Q (.bl true) H
end
end Ev
namespace Pu
open PySem PySem.Spec PyProof.Rows L2
def pNeLX (ms : List (Str × (List PV → M PV))) : PV → PV → M PV := fun x y _ n Q => match x, y with
  | .lst xs, .lst ys => if xs.length = ys.length then pairsI ms xs ys ∧ Q (.bl false) n else Q (.bl true) n
  | _, _ => False
theorem simR_neLX {z : Z} {ms : List (Str × (List PV → M PV))} {D : Addr → Sp → Prop} {E : XK} (hD : ∀ c m C, ms.lookup c = some m → z.cm c = some C → D C (spP z.K z.cm 2 m)) (hn : ∀ c C m d D', ms.lookup c = some m → z.cm c = some C → z.cm d = some D' → Ev.CI z.K D' ∧ PySem.W.notFirst z.K C (.ref D') = true) :
    SimR z (Ev.rNeLX z.K D E) (pNeLX ms) := by
  intro σ env G H n Qp Q x y px py ok fr er rx ry hm hq
  cases rx <;> try exact hm.elim
  cases ry <;> try exact hm.elim
  rename_i a us xs ha ru b vs ys hb rv
  unfold pNeLX at hm
  by_cases e : xs.length = ys.length
  · simp only [e, if_true] at hm
    obtain ⟨hp, hm⟩ := hm
    obtain ⟨el, k⟩ := pairs_of (J := fun H1 => ∃ G1, Ok z.K z.cm z.p z.c G1 H1 n ∧ Step z.cm z.c (· = z.p) G H G1 H1) (D := D) (E := E) (G := G) (H0 := H) (n := n) (fun G1 H1 G' H' s1 ok' s' => ⟨G', ok', s1.trans s' fun _ x => x⟩) hD hn ru rv hp
    exact .inl ⟨a, b, us, vs, fun H1 => ∃ G1, Ok z.K z.cm z.p z.c G1 H1 n ∧ Step z.cm z.c (· = z.p) G H G1 H1, rfl, rfl, ⟨G, ok, Step.refl _ _ _⟩, fun H1 ⟨G1, ok1, s1⟩ => ⟨ok1.sub _ _ (s1.same _ _ ha), ok1.sub _ _ (s1.same _ _ hb)⟩, el, fun i u v H1 ⟨G1, ok1, s1⟩ h1 h2 => k i u v G1 H1 s1 ok1 h1 h2, fun H' ⟨G1, ok1, s1⟩ _ => hq _ _ G1 H' n ok1 s1 (.bl false) hm⟩
  · simp only [e, if_false] at hm
    exact .inr ⟨a, b, us, vs, rfl, rfl, ok.sub _ _ ha, ok.sub _ _ hb, by rw [ru.len, rv.len]; exact e, hq _ _ G H n ok (Step.refl _ _ _) (.bl true) hm⟩
end Pu
namespace Pu
open PySem PySem.Spec PyProof.Rows L2
mutual
def PV.noL : PV → Bool
  | .non => true
  | .bl _ => true
  | .int _ => true
  | .str _ => true
  | .tup xs => noLs xs
  | .ins _ fs => noLf fs
  | _ => false
def noLs : List PV → Bool
  | [] => true
  | x :: xs => x.noL && noLs xs
def noLf : List (Str × PV) → Bool
  | [] => true
  | (_, x) :: xs => x.noL && noLf xs
end
section
variable {K : PySem.W.Frag} {cm : Md} {p : Addr} {G : Hp} {A : Addr} {us : List V}
theorem get_del {b : Addr} {o : HO} (hA : G A = some (.lst us)) (h : G b = some o) (n : ∀ xs, o ≠ .lst xs) : del G A b = some o := by
  by_cases e : b = A
  · subst e
    rw [hA] at h
    cases h
    exact absurd rfl (n us)
  · rw [del_ne e]
    exact h
theorem sqt_del {b : Addr} {xs : List V} (hA : G A = some (.lst us)) (h : SqT K G b xs) : SqT K (del G A) b xs := by
  rcases h with (h | ⟨o, h⟩) | h
  · exact .inl (.inl (get_del hA h fun _ z => by cases z))
  · exact .inl (.inr ⟨o, get_del hA h fun _ z => by cases z⟩)
  · exact .inr h
mutual
theorem Rep.nol (hA : G A = some (.lst us)) : ∀ {v : V} {q : PV}, q.noL = true → Rep K cm p G v q → Rep K cm p (del G A) v q
  | _, _, _, .non => .non
  | _, _, _, .bl b => .bl b
  | _, _, _, .int i => .int i
  | _, _, _, .str x => .str x
  | _, .tup ps, e, .tup h r => .tup (sqt_del hA h) (RepL.nol hA (by simpa only [PV.noL] using e) r)
  | _, .ins c ps, e, .ins h g r => .ins h (get_del hA g fun _ z => by cases z) (RepF.nol hA (by simpa only [PV.noL] using e) r)
  | _, .lst _, e, .lst _ _ => by simp [PV.noL] at e
  | _, .exc _ _, e, .exc _ _ _ => by simp [PV.noL] at e
  | _, .pen, e, .pen => by simp [PV.noL] at e
  | _, .ext _, e, .ext _ => by simp [PV.noL] at e
  | _, .dct _, e, .dct _ _ => by simp [PV.noL] at e
  | _, .mob _, e, .mob _ => by simp [PV.noL] at e
theorem RepL.nol (hA : G A = some (.lst us)) : ∀ {v : List V} {q : List PV}, noLs q = true → RepL K cm p G v q → RepL K cm p (del G A) v q
  | _, _, _, .nil => .nil
  | _, x :: xs, e, .cons h r => by
    simp only [noLs, Bool.and_eq_true] at e
    exact .cons (Rep.nol hA e.1 h) (RepL.nol hA e.2 r)
theorem RepF.nol (hA : G A = some (.lst us)) : ∀ {v : List (Str × V)} {q : List (Str × PV)}, noLf q = true → RepF K cm p G v q → RepF K cm p (del G A) v q
  | _, _, _, .nil => .nil
  | _, (f, x) :: xs, e, .cons h r => by
    simp only [noLf, Bool.and_eq_true] at e
    exact .cons (Rep.nol hA e.1 h) (RepF.nol hA e.2 r)
end
end
def mKeep (i : Nat) (m : PEnv → M PV) : PEnv → M PV := fun env W n Q => match env[i]? with
  | some (.own xs) => m (env.set i (.val (.lst xs))) W0 n.lock fun q n1 => q.noL = true ∧ Q q (n.back n1)
  | _ => m env W n Q
section
variable {z : Z}
theorem EnvRel.freezeX {G H : Hp} {σ : L2.St} {env : PEnv} {n : SN} {i : Nat} {ps : List PV} (ok : Ok z.K z.cm z.p z.c G H n) (fr : Fr z G H) (er : EnvRel z G H σ env) (he : env[i]? = some (.own ps)) :
    ∃ A us, G A = none ∧ Ok z.K z.cm z.p z.c (upd G A (.lst us)) H n ∧ Fr z (upd G A (.lst us)) H ∧ EnvRel z (upd G A (.lst us)) H σ (env.set i (.val (.lst ps))) := by
  obtain ⟨x, hx, a, vs, rfl, hh, mine, h0, rl⟩ := er.at_ i _ he
  have sg : Same G (upd G a (.lst vs)) := fun b o e => Ev.get_new e mine.g
  refine ⟨a, vs, mine.g, ⟨fun b o e => ?_, ok.pen, (upd_ne mine.p.symm).trans ok.gp, gc_upd mine.c.symm ok.gc, ok.tb, gt_upd ok.gt nt0_lst, ok.mu.frz hh nt_lst mine.g, ok.lk⟩, ⟨⟨fr.st.same.trans sg, fr.st.keep, fun b o e nb => ?_, fr.st.al⟩, fr.mp, fr.sx.trans sg, fr.lk⟩, ?_⟩
  · by_cases q : b = a
    · subst q
      rw [upd_same] at e
      rw [← e]
      exact hh
    · rw [upd_ne q] at e
      exact ok.sub _ _ e
  · by_cases q : b = a
    · subst q
      exact (h0 nb).elim
    · rw [upd_ne q] at e
      exact fr.st.new b o e nb
  · refine ⟨fun j u hj => ?_, fun j k u u' b njk hj hk ou ou' aj ak => ?_, by rw [List.length_set, er.len]⟩
    · rcases get_set hj with ⟨rfl, rfl, hl⟩ | ⟨ne, hj2⟩
      · exact ⟨_, hx, _, rfl, .lst upd_same (rl.mono sg)⟩
      · obtain ⟨y, hy, r⟩ := er.at_ j u hj2
        refine ⟨y, hy, ?_⟩
        have na : ∀ b, u.isOwn = true → y = some (.ref b) → b ≠ a := fun b ou yb q => by
          subst q
          exact er.df j i u _ b ne hj2 he ou rfl (by rw [hy, yb]) hx
        cases u with
        | no => trivial
        | val q => exact let ⟨v, e, r⟩ := r; ⟨v, e, r.mono sg⟩
        | own qs =>
          obtain ⟨b, ws, rfl, hb, mb, hb0, rb⟩ := r
          exact ⟨b, ws, rfl, hb, ⟨(upd_ne (na b rfl rfl)).trans mb.g, mb.p, mb.c, mb.h⟩, hb0, rb.mono sg⟩
        | odc qs =>
          obtain ⟨b, ws, rfl, hb, mb, hb0, rb⟩ := r
          exact ⟨b, ws, rfl, hb, ⟨(upd_ne (na b rfl rfl)).trans mb.g, mb.p, mb.c, mb.h⟩, hb0, rb.mono sg⟩
        | obj c fs =>
          obtain ⟨b, C, dx, ws, rfl, hc, hb, mb, rb, me⟩ := r
          exact ⟨b, C, dx, ws, rfl, hc, hb, ⟨(upd_ne (na b rfl rfl)).trans mb.g, mb.p, mb.c, mb.h⟩, rb.mono sg, me⟩
    · rcases get_set hj with ⟨ej, eu, hl⟩ | ⟨ne, hj2⟩
      · subst eu
        cases ou
      · rcases get_set hk with ⟨ek, eu, hl⟩ | ⟨ne2, hk2⟩
        · subst eu
          cases ou'
        · exact er.df j k u u' b njk hj2 hk2 ou ou' aj ak
theorem keep_core {t : TE} {m : PEnv → M PV} {σ : L2.St} {env : PEnv} {G H : Hp} {n : SN} {i : Nat} {xs : List PV} {Qp : PV → SN → Prop} {Q : VK} (hz : z.W = fun _ => W0) (h : SimE z.lock t m) (ok : Ok z.K z.cm z.p z.c G H n) (fr : Fr z G H) (er : EnvRel z G H σ env) (he : env[i]? = some (.own xs))
    (hm : m (env.set i (.val (.lst xs))) W0 n.lock fun q n1 => q.noL = true ∧ Qp q (n.back n1)) (hq : ∀ v q G' H' n', Ok z.K z.cm z.p z.c G' H' n' → Step z.cm z.c (· = z.p) G H G' H' → z.rep G' v q → Qp q n' → Q v H') : t σ H Q := by
  obtain ⟨A, us, gA, ok', fr', er'⟩ := er.freezeX ok fr he
  refine h σ _ _ H n.lock _ Q ok'.lock fr'.lockd er'.lockd (by show m _ (z.W _) _ _; rw [hz]; exact hm) fun v q G2 H2 n2 ok2 st2 r2 hq2 => ?_
  have hA : G2 A = some (.lst us) := st2.same _ _ upd_same
  have down : ∀ {b : Addr} {o : HO}, del G2 A b = some o → b ≠ A ∧ G2 b = some o := fun {b o} e => by
    by_cases q : b = A
    · subst q
      rw [del_same] at e
      cases e
    · rw [del_ne q] at e
      exact ⟨q, e⟩
  have gone : ∀ {b : Addr}, G2 b = none → del G2 A b = none := fun {b} e => by
    by_cases q : b = A
    · subst q
      exact del_same
    · rw [del_ne q]
      exact e
  have sG : Same G (del G2 A) := fun b o e => by
    have ne : b ≠ A := fun q => by
      rw [q, gA] at e
      cases e
    rw [del_ne ne]
    exact st2.same b o ((upd_ne ne).trans e)
  have mu : Mu z.K z.cm z.p (del G2 A) H2 (n.back n2) := (ok.mu.to (H' := H2) sG fun b o e mo g => ⟨st2.keep b o e (ok.notp e mo) ⟨by obtain ⟨_, _, _, rfl, _⟩ := mo; exact nt0_ins, fun _ => rfl⟩, by
    cases q : del G2 A b with
    | none => rfl
    | some u =>
      obtain ⟨ne, e2⟩ := down q
      have := st2.new b u e2 ⟨o, e, by obtain ⟨_, _, _, rfl, _⟩ := mo; exact nt0_ins⟩
      rw [upd_ne ne, g] at this
      cases this⟩).draw rfl
  refine hq v q (del G2 A) H2 (n.back n2) ⟨fun b o e => ok2.sub b o (down e).2, ok2.pen, gone ok2.gp, gone ok2.gc, ok2.tb, fun b ps e => ok2.gt b ps (down e).2, mu, ok.lk⟩ ⟨sG, fun b o e nb nt => st2.keep b o e nb ⟨nt.1, fun _ => rfl⟩, fun b o e nb => ?_, st2.al⟩ (r2.nol hA hq2.1) hq2.2
  · obtain ⟨ne, e2⟩ := down e
    have := st2.new b o e2 nb
    rw [upd_ne ne] at this
    exact this
theorem sim_keepN {i : Nat} {t : TE} {m : PEnv → M PV} (h : SimE z.nox.lock t m) (h2 : SimE z t m) : SimE z t (mKeep i m) := by
  intro σ env G H n Qp Q ok fr er hm hq
  unfold mKeep at hm
  split at hm
  · rename_i xs he
    exact keep_core (z := z.nox) (i := i) (xs := xs) rfl h ok fr.nox er.nox he hm hq
  · exact h2 σ env G H n Qp Q ok fr er hm hq
def mParOwnR (i j : Nat) (ma : PEnv → M PV) (mb : PEnv → M (List PV)) : MS := fun W D env n => ma env (W env) n fun x n1 => mb env (W env) n1 fun ys n2 => match ys with
  | [.lst xs] => D.nx ((env.set i (.val x)).set j (.own xs)) n2
  | [.tup xs] => D.nx ((env.set i (.val x)).set j (.own xs)) n2
  | _ => False
theorem sim_parOwnR {i j : Nat} {ta : TE} {tb : TA} {ma : PEnv → M PV} {mb : PEnv → M (List PV)} (ha : SimE z ta ma) (hb : SimA z tb mb) :
    SimS z (tPar i j (tCons ta (tCons (tCB (fun xs H Q => ∃ p ys, xs = [.ref p] ∧ (SqL z.K H p ys ∨ SqT z.K H p ys) ∧ ∀ l, H l = none → Q (.ref l) (upd H l (.lst ys))) tb) tNil))) (mParOwnR i j ma mb) := by
  intro σ env G H n D Dp ok fr er hm ed
  refine ha.bind ok fr er hm fun x px G1 H1 n1 ok1 fr1 er1 s1 r1 hm1 => ?_
  refine hb.bind ok1 fr1 er1 hm1 fun xs ps G2 H2 n2 ok2 fr2 er2 s2 r2 hm2 => ?_
  have fin : ∀ {vs : List V} {qs : List PV}, z.repL G2 vs qs → Dp.nx ((env.set i (.val px)).set j (.own qs)) n2 → ∀ l, H2 l = none → D.nx ((σ.set i (some x)).set j (some (.ref l))) (upd H2 l (.lst vs)) := fun {vs qs} rl hk q hq1 => by
    have er3 := er2.setV (i := i) (r1.mono s2.same)
    obtain ⟨ok3, s3⟩ := ok2.newO (o := .lst vs) hq1
    have mine := ok2.mine fr2 hq1
    refine ed.nx _ _ G2 _ n2 (s1.same.trans s2.same) ok3 (fr2.stepP s3) ?_ hk
    refine (er3.step s3).set ⟨q, vs, rfl, upd_same, mine, fr2.h0 hq1, rl⟩ fun _ k s' b nj hj os' hb eb => ?_
    cases Option.some.inj eb
    obtain ⟨x, hx, rx⟩ := er3.at_ k s' hj
    rw [hx] at hb
    cases Option.some.inj hb
    cases s' with
    | no => cases os'
    | val _ => cases os'
    | own ps =>
      obtain ⟨b, vs, e, hb, _⟩ := rx
      cases e
      rw [hq1] at hb
      cases hb
    | odc ps =>
      obtain ⟨b, vs, e, hb, _⟩ := rx
      cases e
      rw [hq1] at hb
      cases hb
    | obj c fs =>
      obtain ⟨b, C, dx, vs, e, _, hb, _⟩ := rx
      cases e
      rw [hq1] at hb
      cases hb
  split at hm2
  · cases r2 with
    | cons r t =>
      cases t
      cases r with
      | lst hs rl => exact ⟨_, _, rfl, .inl (SqL.of (ok2.sub _ _ hs)), fun l hl => ⟨_, _, rfl, fin rl hm2 l hl⟩⟩
  · cases r2 with
    | cons r t =>
      cases t
      cases r with
      | tup hs rl => exact ⟨_, _, rfl, .inr (Ev.Same.seqT ok2.sub hs), fun l hl => ⟨_, _, rfl, fin rl hm2 l hl⟩⟩
  · exact hm2.elim
def mIxO (i : Nat) (e : PEnv → M PV) : PEnv → M PV := fun env W n Q => match env[i]? with
  | some (.own xs) => e env W n fun y n1 => match y with
    | .int j => match atI xs j with
      | some v => Q v n1
      | none => False
    | _ => False
  | _ => mOp pIxL (mVar i) e env W n Q
theorem sim_ixO {i : Nat} {te : TE} {me : PEnv → M PV} (h : SimE z te me) : SimE z (tOp (rIxL z.K) (tVar i) te) (mIxO i me) := by
  intro σ env G H n Qp Q ok fr er hm hq
  unfold mIxO at hm
  split at hm
  · rename_i xs he
    obtain ⟨x, hx, a, vs, rfl, hh, mine, h0, rl⟩ := er.at_ i _ he
    refine ⟨.ref a, hx, ?_⟩
    refine h.bind ok fr er hm fun y py G1 H1 n1 ok1 fr1 er1 s1 r1 hm1 => ?_
    split at hm1
    · split at hm1
      · rename_i j _ v hv
        cases r1
        obtain ⟨x1, hx1, a1, vs1, ea, hh1, _, _, rl1⟩ := er1.at_ i _ he
        obtain ⟨w, hw, rw⟩ := at_rep rl1 hv
        rw [hx] at hx1
        cases hx1
        cases ea
        exact ⟨a, vs1, j, w, rfl, rfl, SqL.of hh1, hw, (hq.step s1).here ok1 rw hm1⟩
      · exact hm1.elim
    · exact hm1.elim
  · exact sim_op simR_ixL sim_var h σ env G H n Qp Q ok fr er hm hq
end
end Pu
namespace PySem.HandSPX
open Builtin Builtin.ObjectAttr
section
variable {M : Model} {prog : Program} {w : World} {A : Around} {E : Value → Shared → Prop} {R : Result → Shared → Prop} {h : Heap} {g : Array GenState} {d : Drawn} {t : Nat} {os : OsState} {nm q : Str} {B newId initId : String} {C N fI : Addr}
variable {bs bm bmB sub us : List Value} {hdct ab : Bool} {sn : List Str} {col : Option Bool} {dd : Option Addr} {k0 k1 k2 k3 k5 : Option Value} {kw : List (Str × Value)}
end
end PySem.HandSPX
namespace Ev
open PySem PySem.Spec PyProof.Rows L2
section
variable {X : Cx} {pins : List (Addr × Obj)} {σ : L2.St} {H1 H2 : Hp} {Q : VK} {hp hp2 h2 : Heap} {g1 g2 : Array GenState} {d1 d2 : Drawn} {t1 t2 : Nat} {os1 os2 : OsState} {a C d : Addr} {fs : List (Str × V)}
end
section
variable (P : Program) (w : World) (K : PySem.W.Frag) (mg : Str → Option Value) (base : Heap)
structure XCK (x : Str) (C : Addr) (sp : Sp) (n : Nat) (ks : List Str) (gV : List V → List V → List V) : Prop where
  ex : ∃ (fI : Addr) (fd : FuncData) (ps : List Str) (g : List Value → List Value → List Value), OexC K C ∧ PySem.W.findIn K (.ref C) "__init__" = some (some (.ref fI)) ∧ PySem.W.typeIn K (.ref fI) = some (.type "function") ∧ FnOk P w K mg base (L2.CX P w) 1 fI fd ps sp ∧ KBn K fd ps (n + 1) ks g gV ∧ mg x = some (.ref C)
end
section
variable {X : Cx} {x : Str} {C : Addr} {sp : Sp} {n j : Nat} {ks : List Str} {gV : List V → List V → List V} {e : Expr} {es : List Expr} {kws : List Keyword} {t tk : TA} {p pos : Pos}
end
end Ev
namespace Pu
open PySem PySem.Spec PyProof.Rows L2
def mXv0 (cn : Str) : PEnv → M PV := fun _ _ n Q => Q (.exc cn []) n
def mXv1 (cn f : Str) (r : PEnv → M (List PV)) : PEnv → M PV := fun env W n Q => r env W n fun xs n1 => match xs with
  | [x] => Q (.exc cn [(f, x)]) n1
  | _ => False
def mXv2 (cn f g : Str) (sw : Bool) (r : PEnv → M (List PV)) : PEnv → M PV := fun env W n Q => r env W n fun xs n1 => match xs with
  | [x, y] => Q (.exc cn (if sw = true then [(g, x), (f, y)] else [(g, y), (f, x)])) n1
  | _ => False
abbrev mXv1k (cn f : Str) (r : PEnv → M (List PV)) : PEnv → M PV := mXv1 cn f r
abbrev mXv2r (cn f g : Str) (r : PEnv → M (List PV)) : PEnv → M PV := mXv2 cn f g true r
section
variable {z : Z} {G1 H1 : Hp} {n1 : SN} {cn f g : Str} {C : Addr} {Qp : PV → SN → Prop} {Q : VK}
end
end Pu
namespace Ev
open PySem PySem.Spec PyProof.Rows L2
end Ev
namespace Pu
open PySem PySem.Spec PyProof.Rows L2
def mStore2 (i : Nat) (f g : Str) (a : PEnv → M PV) : MS := fun W D env n => a env (W env) n fun y n1 => match y, env[i]? with
  | .tup [x, y], some (.obj c fs) => fs.length < 900 ∧ D.nx (env.set i (.obj c (pputF g y (pputF f x fs)))) n1
  | _, _ => False
def mCatOwn (i : Nat) (a b : PEnv → M PV) : MS := fun W D env n => a env (W env) n fun x n1 => b env (W env) n1 fun y n2 => match x, y with
  | .lst xs, .lst ys => xs.length + ys.length ≤ 1000000 ∧ D.nx (env.set i (.own (xs ++ ys))) n2
  | _, _ => False
theorem sim_catOwn {z : Z} {i : Nat} {ta tb : TE} {ma mb : PEnv → M PV} (ha : SimE z ta ma) (hb : SimE z tb mb) : SimS z (tAsg (tOp rCat ta tb) (gName i)) (mCatOwn i ma mb) := by
  intro σ env G H n D Dp ok fr er hm ed
  refine ha.bind ok fr er hm fun x px G1 H1 n1 ok1 fr1 er1 s1 r1 hm1 => ?_
  refine hb.bind ok1 fr1 er1 hm1 fun y py G2 H2 n2 ok2 fr2 er2 s2 r2 hm2 => ?_
  cases r1 <;> try exact hm2.elim
  cases r2 <;> try exact hm2.elim
  rename_i a vs ps hs rl b vs2 ps2 hs2 rl2
  refine ⟨_, _, vs, vs2, rfl, rfl, ok2.sub _ _ (s2.same _ _ hs), ok2.sub _ _ hs2, by rw [rl.len, rl2.len]; exact line_of hm2.1, fun q hq1 => ?_⟩
  obtain ⟨ok3, s3⟩ := ok2.newO (o := .lst (vs ++ vs2)) hq1
  have mine := ok2.mine fr2 hq1
  refine ed.nx _ _ G2 _ n2 (s1.same.trans s2.same) ok3 (fr2.stepP s3) ?_ hm2.2
  refine (er2.step s3).set ⟨q, _, rfl, upd_same, mine, fr2.h0 hq1, (rl.mono s2.same).append rl2⟩ fun _ j s' b nj hj os' hb eb => ?_
  cases Option.some.inj eb
  obtain ⟨x, hx, rx⟩ := er2.at_ j s' hj
  rw [hx] at hb
  cases Option.some.inj hb
  cases s' with
  | no => cases os'
  | val _ => cases os'
  | own ps =>
    obtain ⟨b, vs, e, hb, _⟩ := rx
    cases e
    rw [hq1] at hb
    cases hb
  | odc ps =>
    obtain ⟨b, vs, e, hb, _⟩ := rx
    cases e
    rw [hq1] at hb
    cases hb
  | obj c fs =>
    obtain ⟨b, C, dx, vs, e, _, hb, _⟩ := rx
    cases e
    rw [hq1] at hb
    cases hb
def mExt (i : Nat) (a : PEnv → M PV) : MS := fun W D env n => match env[i]? with
  | some (.own xs) => a env (W env) n fun y n1 => match y with
    | .lst ys => xs.length + ys.length ≤ 1000000 ∧ D.nx (env.set i (.own (xs ++ ys))) n1
    | _ => False
  | _ => False
theorem sim_ext {z : Z} {i : Nat} {ta : TE} {m : PEnv → M PV} (h : SimE z ta m) : SimS z (tDrop (tBM z.K "list" rExtend (tVar i) (tCons ta tNil))) (mExt i m) := by
  intro σ env G H n D Dp ok fr er hm ed
  unfold mExt at hm
  split at hm
  · rename_i ps he
    obtain ⟨_, hx, a, vs, rfl, hh, mine, h0, rl⟩ := er.at_ i _ he
    refine ⟨_, hx, .inl ⟨rfl, _, SqL.of hh⟩, ?_⟩
    refine h.bind ok fr er hm fun y py G1 H1 n1 ok1 fr1 er1 s1 r1 hm1 => ?_
    obtain ⟨_, hx1, a1, vs1, e1, hh1, mine1, h01, rl1⟩ := er1.at_ i _ he
    rw [hx] at hx1
    cases Option.some.inj hx1
    cases e1
    cases r1 <;> try exact hm1.elim
    rename_i b us qs hs rl2
    refine ⟨a, b, vs1, us, rfl, rfl, hh1, ok1.sub _ _ hs, by rw [rl1.len, rl2.len]; exact line_of hm1.1, ?_⟩
    refine ed.nx _ _ G1 _ n1 s1.same (ok1.set mine1 hh1) (fr1.set mine1) ?_ hm1.2
    exact er1.store hx he rfl rfl mine1 ⟨a, _, rfl, upd_same, mine1, h01, rl1.append rl2⟩
  · exact hm.elim
end Pu
namespace Ev
open PySem L2
end Ev
namespace Pu
open PySem PySem.Spec PyProof.Rows L2
def lcL2 (g : PV → PEnv → (PEnv → Prop) → Prop) (t : PEnv → M Bool) (it1 : PEnv → M (List PV)) (g1 : PV → PEnv → (PEnv → Prop) → Prop) (t1 : PEnv → M Bool) (e : PEnv → M PV) (vs1 : List Nat) (env : PEnv) : List PV → Nat → SN → (List PV → SN → Prop) → Prop
  | [], _, n, Q => Q [] n
  | x :: xs, k, n, Q => g x env fun env2 => t env2 W0 n fun b n1 => if b = true then it1 (noOwn env2) W0 n1 fun zs n2 => zs.length ≤ 1000000 ∧ k + zs.length ≤ 1000000 ∧ lcL g1 t1 e (wipeP (noOwn env2) vs1) zs n2 fun ys n3 => lcL2 g t it1 g1 t1 e vs1 env xs (k + zs.length) n3 fun ws n4 => Q (ys ++ ws) n4 else lcL2 g t it1 g1 t1 e vs1 env xs k n1 Q
def mLc2 (it : PEnv → M (List PV)) (g : PV → PEnv → (PEnv → Prop) → Prop) (t : PEnv → M Bool) (it1 : PEnv → M (List PV)) (g1 : PV → PEnv → (PEnv → Prop) → Prop) (t1 : PEnv → M Bool) (e : PEnv → M PV) (vs vs1 : List Nat) : PEnv → M PV := fun env W n Q =>
  it env W n fun xs n1 => lcL2 g t it1 g1 t1 e vs1 (wipeP env vs) xs 0 n1 fun ys n2 => Q (.lst ys) n2
section
variable {z : Z}
theorem keepA {G1 : Hp} {A : Addr} (mA : Mine z G1 A) {Ga Ha Gb Hb : Hp} {us : List V} (s : Step z.cm z.c (· = z.p) Ga Ha Gb Hb) (h : Ha A = some (.lst us)) (g : Ga A = none) : Hb A = some (.lst us) ∧ Gb A = none := by
  refine ⟨s.keep _ _ h mA.p ko_lst, ?_⟩
  cases q : Gb A with
  | none => rfl
  | some o =>
    have := s.new A o q ⟨_, h, nt0_lst⟩
    rw [g] at this
    cases this
theorem er_same {G H G' H' : Hp} {σ : L2.St} {env : PEnv} (e : EnvRel z G H σ env) (s : Same G G') : EnvRel z G' H' σ (noOwn env) := by
  have key : ∀ (i : Nat) (u : Slot), (noOwn env)[i]? = some u → u = .no ∨ ∃ q, u = .val q ∧ env[i]? = some (.val q) := fun i u h => by
    unfold noOwn at h
    rw [List.getElem?_map] at h
    cases e1 : env[i]? with
    | none =>
      rw [e1] at h
      cases h
    | some x =>
      rw [e1] at h
      cases h
      cases x
      · exact .inl rfl
      · exact .inr ⟨_, rfl, rfl⟩
      · exact .inl rfl
      · exact .inl rfl
      · exact .inl rfl
  refine ⟨fun i u h => ?_, fun i j u u' a nij hi hj os os' _ _ => ?_, by rw [e.len]; unfold noOwn; simp⟩
  · rcases key i u h with rfl | ⟨q, rfl, h2⟩
    · have : i < σ.length := by
        have h3 := (List.getElem?_eq_some_iff.mp h).1
        unfold noOwn at h3
        rw [List.length_map] at h3
        rw [e.len]
        exact h3
      exact ⟨_, List.getElem?_eq_getElem this, trivial⟩
    · obtain ⟨x, hx, v, ev, r⟩ := e.at_ i _ h2
      exact ⟨x, hx, v, ev, r.mono s⟩
  · rcases key i u hi with rfl | ⟨q, rfl, _⟩ <;> cases os
theorem sim_lc2 {w w1 : TI} {mi mi1 : PEnv → M (List PV)} {g g1 : TG} {mg mg1 : PV → PEnv → (PEnv → Prop) → Prop} {tt tt1 : TT} {mt mt1 : PEnv → M Bool} {te : TE} {me : PEnv → M PV} {vs vs1 : List Nat} (hi : SimI z w mi) (hg : SimG z.nox g mg) (hw : GW g vs) (ht : SimT z.nox tt mt)
    (hi1 : SimI z.nox w1 mi1) (hg1 : SimG z.nox g1 mg1) (hw1 : GW g1 vs1) (ht1 : SimT z.nox tt1 mt1) (he : SimE z.nox te me) : SimE z (tLc2 w g tt w1 g1 tt1 te vs vs1) (mLc2 mi mg mt mi1 mg1 mt1 me vs vs1) := by
  intro σ env G H n Qp Q ok fr er hm hq
  refine hi.bind ok fr er hm fun J ps G1 H1 n1 ok1 fr1 er1 s1 r1 hm1 => ?_
  intro A hA
  obtain ⟨ok2, s2⟩ := ok1.newO (o := .lst []) hA
  have mA := ok1.mine fr1 hA
  refine ⟨fun i m H' => m = ps.length - i ∧ i ≤ ps.length ∧ ∃ G' n' acc us k, Ok z.K z.cm z.p z.c G' H' n' ∧ Step z.cm z.c (· = z.p) G1 H1 G' H' ∧ H' A = some (.lst us) ∧ G' A = none ∧ z.repL G' us acc ∧ acc.length ≤ k ∧
    lcL2 mg mt mi1 mg1 mt1 me vs1 (wipeP env vs) (ps.drop i) k n' (fun ys n2 => Qp (.lst (acc ++ ys)) n2), ⟨_, rfl, Nat.zero_le _, G1, n1, [], [], 0, ok2, s2, upd_same, mA.g, .nil, Nat.zero_le _, by simpa using hm1⟩, ?_⟩
  rintro i m H' ⟨rfl, hi, G', n', acc, us, k, ok', st', hA', gA', rl, la, hl'⟩
  have mine : Mine z G' A := ⟨gA', mA.p, mA.c, mA.h⟩
  obtain ⟨hstop, hgo⟩ := r1 G' H' n' i st'.same ok'
  by_cases hl : i < ps.length
  · right
    have e : ps[i]? = some ps[i] := List.getElem?_eq_getElem hl
    rw [List.drop_eq_getElem_cons hl] at hl'
    obtain ⟨go, yl⟩ := hgo _ e
    refine ⟨go, fun H2 => ∃ G2 n2 acc2 us2 k2, Ok z.K z.cm z.p z.c G2 H2 n2 ∧ Step z.cm z.c (· = z.p) G1 H1 G2 H2 ∧ H2 A = some (.lst us2) ∧ G2 A = none ∧ z.repL G2 us2 acc2 ∧ acc2.length ≤ k2 ∧
      lcL2 mg mt mi1 mg1 mt1 me vs1 (wipeP env vs) (ps.drop (i + 1)) k2 n2 (fun ys n2 => Qp (.lst (acc2 ++ ys)) n2), fun H2 h2 => ⟨_, by omega, rfl, by omega, h2⟩, fun x H3 hy => ?_⟩
    obtain ⟨G3, ok3, s3, rx⟩ := yl x H3 hy
    have st3 := st'.trans s3 fun _ q => q
    have er3 : EnvRel z.nox G3 H3 (wipe σ vs) (wipeP env vs) := ((er1.step st3).wipe vs).nox
    obtain ⟨hA3, gA3⟩ := keepA mA s3 hA' gA'
    refine hw x (wipe σ vs) H3 (fun σ4 H4 => H4 = H3 ∧ ∃ env4, EnvRel z.nox G3 H3 σ4 env4 ∧ mt env4 W0 n' fun b n1 => if b = true then mi1 (noOwn env4) W0 n1 fun zs n2 => zs.length ≤ 1000000 ∧ k + zs.length ≤ 1000000 ∧ lcL mg1 mt1 me (wipeP (noOwn env4) vs1) zs n2 fun ys n3 => lcL2 mg mt mi1 mg1 mt1 me vs1 (wipeP env vs) (ps.drop (i + 1)) (k + zs.length) n3 fun ws n4 => Qp (.lst (acc ++ (ys ++ ws))) n4 else lcL2 mg mt mi1 mg1 mt1 me vs1 (wipeP env vs) (ps.drop (i + 1)) k n1 fun ys n2 => Qp (.lst (acc ++ ys)) n2) _
      (hg (wipe σ vs) (wipeP env vs) G3 H3 n' x _ _ _ ok3 er3 rx hl' fun σ4 env4 er4 hf4 => ⟨rfl, env4, er4, hf4⟩) fun σ4 H4 we q4 => ?_
    obtain ⟨rfl, env4, er4, hf4⟩ := q4
    refine ⟨we.trans (wipe_wipe σ vs), ?_⟩
    have fr3 : Fr z.nox G3 H4 := (fr1.stepP st3).nox
    refine ht.bind (z := z.nox) ok3 fr3 er4 hf4 fun bb bq G5 H5 n5 ok5 fr5 er5 s5 r5 hm5 => ?_
    cases r5
    obtain ⟨hA5, gA5⟩ := keepA mA s5 hA3 gA3
    have st5 := st3.trans s5 fun _ q => q
    have rl5 : z.repL G5 us acc := (rl.mono s3.same).mono s5.same
    cases bb with
    | false =>
      rw [if_neg (by decide)] at hm5 ⊢
      exact ⟨G5, n5, acc, us, k, ok5, st5, hA5, gA5, rl5, la, hm5⟩
    | true =>
      rw [if_pos rfl] at hm5 ⊢
      refine hi1.bind (z := z.nox) ok5 fr5 (er_same (H' := H5) er5 (Same.refl _)) hm5 fun J1 zs G6 H6 n6 ok6 fr6 er6 s6 r6 hm6 => ?_
      obtain ⟨hz6, hk6, hm6⟩ := hm6
      obtain ⟨hA6, gA6⟩ := keepA mA s6 hA5 gA5
      have st6 := st5.trans s6 fun _ q => q
      have rl6 : z.repL G6 us acc := rl5.mono s6.same
      refine ⟨fun j m H' => m = zs.length - j ∧ j ≤ zs.length ∧ ∃ G' n' acc us, Ok z.K z.cm z.p z.c G' H' n' ∧ Same G6 G' ∧ Step z.cm z.c (· = z.p) G1 H1 G' H' ∧ H' A = some (.lst us) ∧ G' A = none ∧ z.repL G' us acc ∧ acc.length ≤ k + j ∧
        lcL mg1 mt1 me (wipeP (noOwn env4) vs1) (zs.drop j) n' (fun ys n3 => lcL2 mg mt mi1 mg1 mt1 me vs1 (wipeP env vs) (ps.drop (i + 1)) (k + zs.length) n3 fun ws n4 => Qp (.lst (acc ++ (ys ++ ws))) n4), ⟨_, rfl, Nat.zero_le _, G6, n6, acc, us, ok6, Same.refl _, st6, hA6, gA6, rl6, la, by simpa using hm6⟩, ?_⟩
      rintro j m H' ⟨rfl, hj, G', n', acc, us, ok', stI, st', hA', gA', rl, la, hl'⟩
      have mine : Mine z G' A := ⟨gA', mA.p, mA.c, mA.h⟩
      obtain ⟨hstop, hgo⟩ := r6 G' H' n' j stI ok'
      by_cases hl : j < zs.length
      · right
        have e : zs[j]? = some zs[j] := List.getElem?_eq_getElem hl
        rw [List.drop_eq_getElem_cons hl] at hl'
        obtain ⟨go, yl⟩ := hgo _ e
        refine ⟨go, fun H2 => ∃ G2 n2 acc2 us2, Ok z.K z.cm z.p z.c G2 H2 n2 ∧ Same G6 G2 ∧ Step z.cm z.c (· = z.p) G1 H1 G2 H2 ∧ H2 A = some (.lst us2) ∧ G2 A = none ∧ z.repL G2 us2 acc2 ∧ acc2.length ≤ k + (j + 1) ∧
          lcL mg1 mt1 me (wipeP (noOwn env4) vs1) (zs.drop (j + 1)) n2 (fun ys n3 => lcL2 mg mt mi1 mg1 mt1 me vs1 (wipeP env vs) (ps.drop (i + 1)) (k + zs.length) n3 fun ws n4 => Qp (.lst (acc2 ++ (ys ++ ws))) n4), fun H2 h2 => ⟨_, by omega, rfl, by omega, h2⟩, fun x H7 hy => ?_⟩
        obtain ⟨G7, ok7, s7, rx⟩ := yl x H7 hy
        have stI7 : Same G6 G7 := stI.trans s7.same
        have st7 := st'.trans s7 fun _ q => q
        have er7 : EnvRel z.nox G7 H7 (wipe σ4 vs1) (wipeP (noOwn env4) vs1) := ((er_same (H' := H7) er5 (s6.same.trans stI7)).wipe vs1)
        obtain ⟨hA7, gA7⟩ := keepA mA s7 hA' gA'
        refine hw1 x (wipe σ4 vs1) H7 (fun σ8 H8 => H8 = H7 ∧ ∃ env8, EnvRel z.nox G7 H7 σ8 env8 ∧ mt1 env8 W0 n' fun b n1 => if b = true then me env8 W0 n1 fun y n2 => lcL mg1 mt1 me (wipeP (noOwn env4) vs1) (zs.drop (j + 1)) n2 fun ys n3 => lcL2 mg mt mi1 mg1 mt1 me vs1 (wipeP env vs) (ps.drop (i + 1)) (k + zs.length) n3 fun ws n4 => Qp (.lst (acc ++ ((y :: ys) ++ ws))) n4 else lcL mg1 mt1 me (wipeP (noOwn env4) vs1) (zs.drop (j + 1)) n1 fun ys n3 => lcL2 mg mt mi1 mg1 mt1 me vs1 (wipeP env vs) (ps.drop (i + 1)) (k + zs.length) n3 fun ws n4 => Qp (.lst (acc ++ (ys ++ ws))) n4) _
          (hg1 (wipe σ4 vs1) (wipeP (noOwn env4) vs1) G7 H7 n' x _ _ _ ok7 er7 rx hl' fun σ8 env8 er8 hf8 => ⟨rfl, env8, er8, hf8⟩) fun σ8 H8 we8 q8 => ?_
        obtain ⟨rfl, env8, er8, hf8⟩ := q8
        refine ⟨we8.trans (wipe_wipe σ4 vs1), ?_⟩
        have fr7 : Fr z.nox G7 H8 := (fr1.stepP st7).nox
        refine ht1.bind (z := z.nox) ok7 fr7 er8 hf8 fun bb bq G9 H9 n9 ok9 fr9 er9 s9 r9 hm9 => ?_
        cases r9
        obtain ⟨hA9, gA9⟩ := keepA mA s9 hA7 gA7
        have stI9 : Same G6 G9 := stI7.trans s9.same
        have st9 := st7.trans s9 fun _ q => q
        have rl9 : z.repL G9 us acc := (rl.mono s7.same).mono s9.same
        cases bb with
        | false =>
          rw [if_neg (by decide)] at hm9 ⊢
          exact ⟨G9, n9, acc, us, ok9, stI9, st9, hA9, gA9, rl9, by omega, hm9⟩
        | true =>
          rw [if_pos rfl] at hm9 ⊢
          refine he.bind (z := z.nox) ok9 fr9 er9 hm9 fun y py Gx Hx nx okx frx erx sx rx2 hmx => ?_
          obtain ⟨hAx, gAx⟩ := keepA mA sx hA9 gA9
          have stIx : Same G6 Gx := stI9.trans sx.same
          have stx := st9.trans sx fun _ q => q
          have rlx : z.repL Gx us acc := rl9.mono sx.same
          have minex : Mine z Gx A := ⟨gAx, mA.p, mA.c, mA.h⟩
          refine ⟨us, hAx, by rw [rlx.len, sizeLine_eq]; omega, Gx, nx, acc ++ [py], us ++ [y], Ok.set (z := z) okx minex hAx, stIx, ?_, upd_same, gAx, rlx.append (.cons rx2 .nil), by simp; omega, ?_⟩
          · refine ⟨stx.same, fun b o e nb nt => Ev.get_ne (fun q => by rw [q, hA] at e; cases e) (stx.keep b o e nb nt), stx.new, fun b h => ?_⟩
            exact (stx.al b h).upd nt0_lst
          · simpa using hmx
      · left
        rw [List.drop_eq_nil_of_le (by omega)] at hl'
        refine ⟨hstop (by omega), G', n', acc, us, k + zs.length, ok', st', hA', gA', rl, by omega, ?_⟩
        simpa [lcL] using hl'
  · left
    rw [List.drop_eq_nil_of_le (by omega)] at hl'
    have hQ : Qp (.lst acc) n' := by simpa [lcL2] using hl'
    refine ⟨hstop (by omega), ?_⟩
    have sg : Same G' (upd G' A (.lst us)) := fun b o e => Ev.get_new e gA'
    refine hq (.ref A) (.lst acc) (upd G' A (.lst us)) H' n' ⟨fun b o e => ?_, ok'.pen, (upd_ne mA.p.symm).trans ok'.gp, gc_upd mA.c.symm ok'.gc, ok'.tb, gt_upd ok'.gt nt0_lst, ok'.mu.frz hA' nt_lst gA', ok'.lk⟩ ?_ (.lst upd_same (rl.mono sg)) hQ
    · by_cases q : b = A
      · subst q
        rw [upd_same] at e
        rw [← e]
        exact hA'
      · rw [upd_ne q] at e
        exact ok'.sub _ _ e
    · have st := s1.trans st' fun _ q => q
      refine ⟨st.same.trans sg, st.keep, fun b o e nb => ?_, st.al⟩
      by_cases q : b = A
      · subst q
        exact ((s1.al b nb).no hA).elim
      · rw [upd_ne q] at e
        exact st.new b o e nb
end
end Pu
namespace Ev
open PySem PySem.Spec PyProof.Rows L2
structure GMf (P : Program) (w : World) (K : PySem.W.Frag) (mg : Str → Option Value) (base : Heap) (k : Nat) (C : Addr) (m : Str) (sp : Sp) : Prop where
  ex : ∃ (f : Addr) (fd : FuncData) (ps : List Str), Cls K C ∧ Meth K C m f ∧ GOk P w K mg base (L2.CX P w) k f fd ps sp ∧ Binds K fd ps [] ∧ PySem.W.fnIn K f = true ∧ PySem.W.noSeq K C = true
section
variable {X : Cx} {k j : Nat} {C : Addr} {sp : Sp} {E : XK}
end
end Ev
namespace Pu
open PySem PySem.Spec PyProof.Rows L2
def SN.setμ (n : SN) (a : Addr) (x : Str × List (Str × PV)) : SN := { n with μ := fun b => if b = a then some x else n.μ b }
theorem setμ_n {n : SN} {a : Addr} {x : Str × List (Str × PV)} : (n.setμ a x).n = n.n := rfl
theorem setμ_lk {n : SN} {a : Addr} {x : Str × List (Str × PV)} : (n.setμ a x).lk = n.lk := rfl
theorem setμ_at {n : SN} {a : Addr} {x : Str × List (Str × PV)} : (n.setμ a x).μ a = some x := if_pos rfl
theorem setμ_ne {n : SN} {a b : Addr} {x : Str × List (Str × PV)} (h : b ≠ a) : (n.setμ a x).μ b = n.μ b := if_neg h
theorem sub_setμ {n : SN} {a : Addr} {x : Str × List (Str × PV)} {k : Nat} : n.setμ a x - k = (n - k).setμ a x := rfl
def mAt (n : SN) : PV → Option (Addr × Str × List (Str × PV))
  | .mob a => (n.μ a).map fun x => (a, x.1, x.2)
  | _ => none
section
variable {z : Z}
def mFldM (f : Str) (a : PEnv → M PV) : PEnv → M PV := fun env W n Q => a env W n fun x n1 => match mAt n1 x with
  | some (_, _, fs) => match fs.lookup f with
    | some y => Q y n1
    | none => False
  | none => False
def mStoreM (f : Str) (o a : PEnv → M PV) : MS := fun W D env n => a env (W env) n fun y n1 => o env (W env) n1 fun x n2 => match mAt n2 x with
  | some (b, c, fs) => n2.lk = false ∧ fs.length < 1000 ∧ D.nx env (n2.setμ b (c, pputF f y fs))
  | none => False
theorem Ok.store {G H : Hp} {n : SN} {a C dx : Addr} {c f : Str} {y : V} {q : PV} {vs : List (Str × V)} {fs : List (Str × PV)} (ok : Ok z.K z.cm z.p z.c G H n) (h1 : n.μ a = some (c, fs)) (hc : z.cm.mu c = some C) (hn : ∀ c', z.cm.cl c' ≠ some C) (hh : H a = some (.ins C dx vs))
    (rf : z.repF G vs fs) (ry : z.rep G y q) (hl : n.lk = false) : Ok z.K z.cm z.p z.c G (upd H a (.ins C dx (putF f y vs))) (n.setμ a (c, pputF f q fs)) ∧ Step z.cm z.c (· = z.p) G H G (upd H a (.ins C dx (putF f y vs))) := by
  have mo : MutO z.cm (.ins C dx vs) := ⟨_, _, _, rfl, hn⟩
  have ga : G a = none := ok.mu.g _ _ h1
  have np : a ≠ z.p := ok.notp hh mo
  have nc : a ≠ z.c.a := fun e => by
    obtain ⟨_, _, _, _, h2, _⟩ := ok.pen
    subst e
    rw [hh] at h2
    cases h2
  have ne : ∀ {b : Addr} {o : HO}, G b = some o → b ≠ a := fun e q => by
    rw [q, ga] at e
    cases e
  refine ⟨⟨fun b o e => Ev.get_ne (ne e) (ok.sub _ _ e), ok.pen.set np nc, ok.gp, ok.gc, Tabs.set ok.tb hh nt0_ins (fun φ => by simp), ok.gt, ⟨fun b c' fs' e => ?_, fun b x e => ?_⟩, ok.lk⟩, ⟨Same.refl _, fun b o e nb nt => ?_, fun _ _ e _ => e, fun b hb => hb.upd nt0_ins⟩⟩
  · by_cases q : b = a
    · subst q
      rw [setμ_at] at e
      cases e
      exact ⟨C, dx, _, hc, hn, upd_same, repF_put ry rf⟩
    · rw [setμ_ne q] at e
      obtain ⟨C', dx', vs', k1, k2, k3, k4⟩ := ok.mu.at_ _ _ _ e
      exact ⟨C', dx', vs', k1, k2, (upd_ne q).trans k3, k4⟩
  · by_cases q : b = a
    · subst q
      exact ga
    · rw [setμ_ne q] at e
      exact ok.mu.g _ _ e
  · refine (upd_ne fun q => ?_).trans e
    subst q
    rw [hh] at e
    cases e
    have := nt.2 mo
    rw [← ok.lk, hl] at this
    cases this
def mMethM (cn f : Str) (n0 l k : Nat) (gP : List PV → List PV → List PV) (m : List PV → M PV) (a : PEnv → M PV) (r s : PEnv → M (List PV)) : PEnv → M PV := fun env W n Q => a env W n fun x n1 => match mAt n1 x with
  | some (b, c, fs) => c = cn ∧ fs.lookup f = none ∧ r env W n1 fun ps n2 => s env W n2 fun qs n3 => ps.length = n0 ∧ qs.length = l ∧ (gP ps qs).length + 1 = k ∧ m (.mob b :: gP ps qs) W n3 Q
  | none => False
def mMakeM (cn : Str) (n0 l k : Nat) (gP : List PV → List PV → List PV) (m : List PV → M PV) (r s : PEnv → M (List PV)) : PEnv → M PV := fun env W n Q => r env W n fun ps n1 => s env W n1 fun qs n2 => ps.length = n0 ∧ qs.length = l ∧ (gP ps qs).length + 1 = k ∧
  ∀ x : Addr, n2.μ x = none → m (.mob x :: gP ps qs) W (n2.setμ x (cn, [])) fun q n3 => q = .non ∧ Q (.mob x) n3
def pOwn1M (cn : Str) (m : List PV → M PV) (chk : PV → Bool) : PV → M PV := fun x W n Q => match mAt n x with
  | some (a, c, _) => c = cn ∧ m [.mob a] W n fun v n1 => chk v = true ∧ Q v n1
  | none => False
def pInM (cn : Str) (m : List PV → M PV) (g : Bool → Bool) : PV → PV → M PV := fun x y W n Q => match mAt n y with
  | some (a, c, _) => c = cn ∧ m [.mob a, x] W n fun v n1 => match v with
    | .bl b => Q (.bl (g b)) n1
    | _ => False
  | none => False
def pIxM (cn : Str) (m : List PV → M PV) : PV → PV → M PV := fun x y W n Q => match mAt n x with
  | some (a, c, _) => c = cn ∧ m [.mob a, y] W n Q
  | none => False
def mSetM (cn : Str) (m : List PV → M PV) (v o i : PEnv → M PV) : MS := fun W D env n => v env (W env) n fun y n1 => o env (W env) n1 fun x n2 => i env (W env) n2 fun k n3 => match mAt n3 x with
  | some (a, c, _) => c = cn ∧ m [.mob a, k, y] (W env) n3 fun _ n4 => D.nx env n4
  | none => False
def mPropM (cn : Str) (m : List PV → M PV) (a : PEnv → M PV) : PEnv → M PV := fun env W n Q => a env W n fun x n1 => match mAt n1 x with
  | some (b, c, _) => c = cn ∧ m [.mob b] W0 n1 Q
  | none => False
def mIterM (cn F : Str) (m : PEnv → M PV) : PEnv → M (List PV) := fun env W n Q => m env W n fun x n1 => match mAt n1 x with
  | some (_, c, fs) => c = cn ∧ match (fs.lookup F).bind PV.items with
    | some ys => Q ys n1
    | none => False
  | none => False
def pListM (cn F : Str) (m : List PV → M PV) : List PV → M PV := fun xs _ n Q => match xs with
  | [x] => match mAt n x with
    | some (a, c, fs) => c = cn ∧ match (fs.lookup F).bind PV.items with
      | some ys => ys.length ≤ 1000000 ∧ m [.mob a] W0 n fun v n1 => v.isLenO = true ∧ Q (.lst ys) n1
      | none => False
    | none => False
  | _ => False
def PV.isTyS (n : SN) (T : String) (x : PV) : Option Bool := match x with
  | .mob a => if (n.μ a).isSome then some false else none
  | x => x.isTy T
def PV.isClsS (n : SN) (sub : Str → Str → Bool) (d : Str) (x : PV) : Option Bool := match x with
  | .mob a => (n.μ a).map fun q => sub q.1 d
  | x => x.isCls sub d
def mIsiTS (T : String) (m : PEnv → M PV) : PEnv → M PV := fun env W n Q => m env W n fun x n1 => match x.isTyS n1 T with
  | some b => Q (.bl b) n1
  | none => False
def mIsiT2S (T U : String) (m : PEnv → M PV) : PEnv → M PV := fun env W n Q => m env W n fun x n1 => match x.isTyS n1 T, x.isTyS n1 U with
  | some b, some c => Q (.bl (b || c)) n1
  | _, _ => False
def mIsiCS (sub : Str → Str → Bool) (d : Str) (m : PEnv → M PV) : PEnv → M PV := fun env W n Q => m env W n fun x n1 => match x.isClsS n1 sub d with
  | some b => Q (.bl b) n1
  | none => False
def mPop (i : Nat) (mg : PV → PEnv → (PEnv → Prop) → Prop) : MS := fun W D env n => match env[i]? with
  | some (.own xs) => match xs[xs.length - 1]? with
    | some y => mg y (env.set i (.own xs.dropLast)) fun env2 => D.nx env2 n
    | none => False
  | _ => False
theorem repL_dropLast {G : Hp} : ∀ {v : List V} {q : List PV}, z.repL G v q → z.repL G v.dropLast q.dropLast
  | _, _, .nil => .nil
  | _, _, .cons _ .nil => .nil
  | _, _, .cons h (.cons g r) => .cons h (repL_dropLast (.cons g r))
theorem sim_pop {i : Nat} {g : TG} {mg : PV → PEnv → (PEnv → Prop) → Prop} (hg : SimG z g mg) : SimS z (tAsg (tBM0 z.K "list" rPop (tVar i)) g) (mPop i mg) := by
  intro σ env G H n D Dp ok fr er hm ed
  unfold mPop at hm
  split at hm
  · rename_i ps he
    split at hm
    · rename_i y hy
      obtain ⟨_, hx, a, vs, rfl, hh, mine, h0, rl⟩ := er.at_ i _ he
      obtain ⟨v, hv, rv⟩ := rl.get hy
      refine ⟨_, hx, .inl ⟨rfl, _, SqL.of hh⟩, a, vs, v, rfl, rfl, hh, by rw [rl.len]; exact hv, ?_⟩
      have ok1 : Ok z.K z.cm z.p z.c G (upd H a (.lst vs.dropLast)) n := ok.set mine hh
      have er1 : EnvRel z G (upd H a (.lst vs.dropLast)) σ (env.set i (.own ps.dropLast)) := er.store hx he rfl rfl mine ⟨a, _, rfl, upd_same, mine, h0, repL_dropLast rl⟩
      exact hg σ _ G _ n v y (fun σ2 H2 => D.nx σ2 H2) _ ok1 er1 rv hm fun σ' env' er' h' => ed.nx _ _ G _ n (Same.refl _) ok1 (fr.set mine) er' h'
    · exact hm.elim
  · exact hm.elim
end
end Pu
namespace Ev
open PySem PySem.Spec PyProof.Rows L2
section
variable {X : Cx}
end
end Ev
namespace Pu
open PySem PySem.Spec PyProof.Rows L2
def pT0 (g : Bool → Bool) : PV → PV → M PV := fun x y _ n Q => match x, y with
  | .tup xs, .tup [] => Q (.bl (g xs.isEmpty)) n
  | _, _ => False
def pL0 (g : Bool → Bool) : PV → PV → M PV := fun x y _ n Q => match x, y with
  | .lst xs, .lst [] => Q (.bl (g xs.isEmpty)) n
  | _, _ => False
end Pu
namespace GenF
open PySem
open Sem (wp)
def dead : GenState → GenState
  | .suspended _ l c p fs cl => .suspended (fun _ => .unsupported "") l c p fs cl
  | x => x
theorem dead_seen (x : GenState) : (dead x).seen = x.seen := by cases x <;> rfl
theorem dead_bare (x : GenState) : (dead x).bare = x.bare := by cases x <;> rfl
def Susp : GenState → Prop
  | .suspended .. => True
  | _ => False
def Tame : GenState → Prop
  | .suspended _ _ _ _ fs _ => splitAtGen fs = none
  | _ => True
structure Sim (D : Nat → Option GenState) (a b : Array GenState) : Prop where
  size : a.size = b.size
  dom : ∀ i x, D i = some x → Susp x
  at1 : ∀ i x, D i = some x → a[i]? = some (dead x) ∧ b[i]? = some x
  at0 : ∀ i, D i = none → a[i]? = b[i]? ∧ ∀ x, a[i]? = some x → Tame x
theorem Sim.get {D : Nat → Option GenState} {a b : Array GenState} (h : Sim D a b) {i : Nat} {x : GenState} (e : a[i]? = some x) (hx : ∀ k l c p fs cl, x ≠ .suspended k l c p fs cl) : D i = none ∧ b[i]? = some x := by
  cases hD : D i with
  | none => exact ⟨rfl, by rw [← (h.at0 i hD).1]; exact e⟩
  | some y =>
    have h1 := (h.at1 i y hD).1
    rw [e] at h1
    have h2 := h.dom i y hD
    cases y with
    | suspended k l c p fs cl => exact absurd (Option.some.inj h1) (hx _ _ _ _ _ _)
    | fresh _ => exact h2.elim
    | running => exact h2.elim
    | finished => exact h2.elim
theorem Sim.push {D : Nat → Option GenState} {a b : Array GenState} (h : Sim D a b) {x : GenState} (hx : Tame x) : Sim D (a.push x) (b.push x) where
  size := by rw [Array.size_push, Array.size_push, h.size]
  dom := h.dom
  at1 := fun i y e => by
    obtain ⟨h1, h2⟩ := h.at1 i y e
    have l1 := (Array.getElem?_eq_some_iff.mp h1).1
    have l2 := (Array.getElem?_eq_some_iff.mp h2).1
    rw [Array.getElem?_push, Array.getElem?_push, if_neg (by omega), if_neg (by omega)]
    exact ⟨h1, h2⟩
  at0 := fun i e => by
    obtain ⟨h1, h2⟩ := h.at0 i e
    rw [Array.getElem?_push, Array.getElem?_push, h.size]
    split
    · exact ⟨rfl, fun y e => by cases e; exact hx⟩
    · exact ⟨h1, h2⟩
theorem Sim.set {D : Nat → Option GenState} {a b : Array GenState} (h : Sim D a b) {g : Nat} (hg : D g = none) {x : GenState} (hx : Tame x) : Sim D (a.setIfInBounds g x) (b.setIfInBounds g x) where
  size := by rw [Array.size_setIfInBounds, Array.size_setIfInBounds, h.size]
  dom := h.dom
  at1 := fun i y e => by
    have hne : g ≠ i := fun z => by rw [z, e] at hg; cases hg
    rw [Array.getElem?_setIfInBounds_ne hne, Array.getElem?_setIfInBounds_ne hne]
    exact h.at1 i y e
  at0 := fun i e => by
    by_cases hne : g = i
    · subst hne
      rw [Array.getElem?_setIfInBounds_self, Array.getElem?_setIfInBounds_self, h.size]
      refine ⟨rfl, fun y e => ?_⟩
      split at e
      · cases e; exact hx
      · cases e
    · rw [Array.getElem?_setIfInBounds_ne hne, Array.getElem?_setIfInBounds_ne hne]
      exact h.at0 i e
theorem Sim.at_g {D : Nat → Option GenState} {a b : Array GenState} (h : Sim D a b) {i : Nat} (e : D i = none) : b[i]? = a[i]? := (h.at0 i e).1.symm
theorem Sim.seen {D : Nat → Option GenState} {a b : Array GenState} (h : Sim D a b) {i : Nat} {x : GenState} (e : a[i]? = some x) : ∃ y, b[i]? = some y ∧ y.seen = x.seen := by
  cases hD : D i with
  | none => exact ⟨x, (h.at_g hD).trans e, rfl⟩
  | some y =>
    obtain ⟨e1, e2⟩ := h.at1 i y hD
    rw [e] at e1
    cases e1
    exact ⟨y, e2, (dead_seen y).symm⟩
def withG (s : Shared) (b : Array GenState) : Shared := { s with gens := b }
theorem no_unsup {M : Model} {Γ : Ctx} {p : Pos} {w : String} {fs : List Frame} {s s' : Shared} {e : End} (h : Runs M Γ p (.unsupported w) fs s e s') : False := by
  cases h with
  | segRet h1 _ => cases h1
  | segGen h1 _ => cases h1
  | segSuspOut _ h1 => cases h1
  | segSuspGen _ h1 _ _ => cases h1
theorem split_app {a b : List Frame} (ha : splitAtGen a = none) (hb : splitAtGen b = none) : splitAtGen (a ++ b) = none := by
  induction a with
  | nil => exact hb
  | cons f r ih =>
    cases f with
    | gen => cases ha
    | ret k h g l c p kp =>
      have ha' : (splitAtGen r).map (fun (x : List Frame × (Nat × (GenResult → Sem PySem.Fin) × Code × Pos) × List Frame) => (Frame.ret k h g l c p kp :: x.1, x.2.1, x.2.2)) = none := ha
      rw [Option.map_eq_none_iff] at ha'
      show (splitAtGen (r ++ b)).map _ = none
      rw [ih ha']
      rfl
theorem split_tail {k : Result → Sem PySem.Fin} {h : Option Value} {g : Bool} {l : List Value} {c : Code} {p : Pos} {kp : List Value} {r : List Frame} (ha : splitAtGen (Frame.ret k h g l c p kp :: r) = none) : splitAtGen r = none := by
  have ha' : (splitAtGen r).map (fun (x : List Frame × (Nat × (GenResult → Sem PySem.Fin) × Code × Pos) × List Frame) => (Frame.ret k h g l c p kp :: x.1, x.2.1, x.2.2)) = none := ha
  rw [Option.map_eq_none_iff] at ha'
  exact ha'
def TameE (e : End) : Prop := Tame e.genState
theorem runs_sim {M : Model} {D : Nat → Option GenState} {Γ : Ctx} {p : Pos} {t : Sem PySem.Fin} {fs : List Frame} {s s' : Shared} {e : End} (h : Runs M Γ p t fs s e s') :
    splitAtGen fs = none → ∀ b, Sim D s.gens b → ∃ b', Runs M Γ p t fs (withG s b) e (withG s' b') ∧ Sim D s'.gens b' ∧ TameE e := by
  induction h with
  | done => intro _ b hb; exact ⟨b, .done, hb, trivial⟩
  | raise => intro _ b hb; exact ⟨b, .raise, hb, trivial⟩
  | again hq _ ih => intro f b hb; obtain ⟨b', h1, h2, h3⟩ := ih f b hb; exact ⟨b', .again hq h1, h2, h3⟩
  | rule _ ih => intro f b hb; obtain ⟨b', h1, h2, h3⟩ := ih f b hb; exact ⟨b', .rule h1, h2, h3⟩
  | «at» _ ih => intro f b hb; obtain ⟨b', h1, h2, h3⟩ := ih f b hb; exact ⟨b', .at h1, h2, h3⟩
  | load ho _ ih => intro f b hb; obtain ⟨b', h1, h2, h3⟩ := ih f b hb; exact ⟨b', .load ho h1, h2, h3⟩
  | update ho _ ih => intro f b hb; obtain ⟨b', h1, h2, h3⟩ := ih f b hb; exact ⟨b', .update ho h1, h2, h3⟩
  | loadIfAlive _ ih => intro f b hb; obtain ⟨b', h1, h2, h3⟩ := ih f b hb; exact ⟨b', .loadIfAlive h1, h2, h3⟩
  | point _ ih => intro f b hb; obtain ⟨b', h1, h2, h3⟩ := ih f b hb; exact ⟨b', .point h1, h2, h3⟩
  | alloc _ ih => intro f b hb; obtain ⟨b', h1, h2, h3⟩ := ih f b hb; exact ⟨b', .alloc h1, h2, h3⟩
  | fresh _ ih => intro f b hb; obtain ⟨b', h1, h2, h3⟩ := ih f b hb; exact ⟨b', .fresh h1, h2, h3⟩
  | ask _ ih => intro f b hb; obtain ⟨b', h1, h2, h3⟩ := ih f b hb; exact ⟨b', .ask h1, h2, h3⟩
  | choose hn _ ih => intro f b hb; obtain ⟨b', h1, h2, h3⟩ := ih f b hb; exact ⟨b', .choose hn h1, h2, h3⟩
  | os _ ih => intro f b hb; obtain ⟨b', h1, h2, h3⟩ := ih f b hb; exact ⟨b', .os h1, h2, h3⟩
  | handled _ ih => intro f b hb; obtain ⟨b', h1, h2, h3⟩ := ih f b hb; exact ⟨b', .handled h1, h2, h3⟩
  | genState hg hr ih =>
    intro f b hb
    obtain ⟨b', h1, h2, h3⟩ := ih f b hb
    obtain ⟨y, e1, e2⟩ := hb.seen hg
    rw [← e2] at h1
    exact ⟨b', .genState e1 h1, h2, h3⟩
  | stack _ ih => intro f b hb; obtain ⟨b', h1, h2, h3⟩ := ih f b hb; exact ⟨b', .stack h1, h2, h3⟩
  | thread _ ih => intro f b hb; obtain ⟨b', h1, h2, h3⟩ := ih f b hb; exact ⟨b', .thread h1, h2, h3⟩
  | newGen hr ih =>
    intro f b hb
    obtain ⟨b', h1, h2, h3⟩ := ih f _ (hb.push trivial)
    refine ⟨b', .newGen ?_, h2, h3⟩
    rw [hb.size] at h1
    exact h1
  | call _ _ ih1 ih2 =>
    intro f b hb
    obtain ⟨b1, h1, h2, _⟩ := ih1 rfl b hb
    obtain ⟨b', h4, h5, h6⟩ := ih2 rfl b1 h2
    exact ⟨b', .call h1 h4, h5, h6⟩
  | callSusp _ ih1 =>
    intro f b hb
    obtain ⟨b1, h1, h2, h3⟩ := ih1 rfl b hb
    exact ⟨b1, .callSusp h1, h2, split_app h3 rfl⟩
  | yield => intro f b hb; exact ⟨b, .yield, hb, rfl⟩
  | resumeFresh hg _ hq _ ih1 ih2 =>
    intro f b hb
    obtain ⟨hD, hg'⟩ := hb.get hg fun _ _ _ _ _ _ z => by cases z
    obtain ⟨b1, h1, h2, h3⟩ := ih1 rfl _ (hb.set hD (x := .running) trivial)
    obtain ⟨b2, h4, h5, h6⟩ := ih2 rfl _ (h2.set hD h3)
    exact ⟨b2, .resumeFresh hg' h1 hq h4, h5, h6⟩
  | @resumeSuspended Γ p g r l k s k₀ l₀ c₀ p₀ fs cl e₁ s₁ e s' hg hr1 hq _ ih1 ih2 =>
    intro f b hb
    cases hD : D g with
    | some x =>
      obtain ⟨e1, e2⟩ := hb.at1 g x hD
      rw [hg] at e1
      cases x with
      | suspended k l c p fs cl => cases e1; exact (no_unsup hr1).elim
      | fresh _ => cases e1
      | running => cases e1
      | finished => cases e1
    | none =>
      have tm : splitAtGen fs = none := (hb.at0 g hD).2 _ hg
      obtain ⟨b1, h1, h2, h3⟩ := ih1 tm _ (hb.set hD (x := .running) trivial)
      obtain ⟨b2, h4, h5, h6⟩ := ih2 rfl _ (h2.set hD h3)
      exact ⟨b2, .resumeSuspended ((hb.at_g hD).trans hg) h1 hq h4, h5, h6⟩
  | resumeJustStarted hg hv _ ih =>
    intro f b hb
    obtain ⟨hD, hg'⟩ := hb.get hg fun _ _ _ _ _ _ z => by cases z
    obtain ⟨b', h1, h2, h3⟩ := ih rfl b hb
    exact ⟨b', .resumeJustStarted hg' hv h1, h2, h3⟩
  | resumeThrowFresh hg _ ih =>
    intro f b hb
    obtain ⟨hD, hg'⟩ := hb.get hg fun _ _ _ _ _ _ z => by cases z
    obtain ⟨b', h1, h2, h3⟩ := ih rfl _ (hb.set hD (x := .finished) trivial)
    exact ⟨b', .resumeThrowFresh hg' h1, h2, h3⟩
  | resumeRunning hg _ ih =>
    intro f b hb
    obtain ⟨hD, hg'⟩ := hb.get hg fun _ _ _ _ _ _ z => by cases z
    obtain ⟨b', h1, h2, h3⟩ := ih rfl b hb
    exact ⟨b', .resumeRunning hg' h1, h2, h3⟩
  | resumeFinished hg _ ih =>
    intro f b hb
    obtain ⟨hD, hg'⟩ := hb.get hg fun _ _ _ _ _ _ z => by cases z
    obtain ⟨b', h1, h2, h3⟩ := ih rfl b hb
    exact ⟨b', .resumeFinished hg' h1, h2, h3⟩
  | segRet _ _ ih1 ih2 =>
    intro f b hb
    obtain ⟨b1, h1, h2, _⟩ := ih1 rfl b hb
    obtain ⟨b2, h4, h5, h6⟩ := ih2 (split_tail f) b1 h2
    exact ⟨b2, .segRet h1 h4, h5, h6⟩
  | segGen _ _ _ _ => intro f; cases f
  | segSuspOut hs _ ih1 =>
    intro f b hb
    obtain ⟨b1, h1, h2, h3⟩ := ih1 rfl b hb
    exact ⟨b1, .segSuspOut hs h1, h2, split_app h3 hs⟩
  | segSuspGen hs _ _ _ _ _ => intro f; rw [hs] at f; cases f
theorem wakes_sim {M : Model} {D : Nat → Option GenState} {Γ : Ctx} {p : Pos} {g : Nat} {r : Resume} {s s' : Shared} {res : GenResult} (h : Wakes M Γ p g r s res s') {b : Array GenState} (hb : Sim D s.gens b) :
    ∃ b', Wakes M Γ p g r (withG s b) res (withG s' b') ∧ Sim D s'.gens b' := by
  unfold Wakes at h
  split at h
  · exact h.elim
  · rename_i c hg
    obtain ⟨hD, hg'⟩ := hb.get hg fun _ _ _ _ _ _ z => by cases z
    split at h
    · obtain ⟨e₁, s₁, hr, hq, rfl, rfl⟩ := h
      obtain ⟨b1, h1, h2, h3⟩ := runs_sim hr rfl _ (hb.set hD (x := .running) trivial)
      refine ⟨_, ?_, h2.set hD h3⟩
      unfold Wakes
      rw [show (withG s b).gens[g]? = some (.fresh c) from hg']
      exact ⟨e₁, _, h1, hq, rfl, rfl⟩
    · rename_i v hv
      obtain ⟨rfl, h2⟩ := h
      rw [h2]
      refine ⟨b, ?_, hb⟩
      exact Sem.wakes_justStarted M Γ (show (withG s b).gens[g]? = some (.fresh c) from hg') hv
    · obtain ⟨rfl, rfl⟩ := h
      refine ⟨_, ?_, hb.set hD (x := .finished) trivial⟩
      unfold Wakes
      rw [show (withG s b).gens[g]? = some (.fresh c) from hg']
      exact ⟨rfl, rfl⟩
  · rename_i k₀ l₀ c₀ p₀ fs cl hg
    obtain ⟨e₁, s₁, hr, hq, rfl, rfl⟩ := h
    cases hD : D g with
    | some x =>
      obtain ⟨e1, e2⟩ := hb.at1 g x hD
      rw [hg] at e1
      cases x with
      | suspended k l c p fs cl => cases e1; exact (no_unsup hr).elim
      | fresh _ => cases e1
      | running => cases e1
      | finished => cases e1
    | none =>
      have tm : splitAtGen fs = none := (hb.at0 g hD).2 _ hg
      obtain ⟨b1, h1, h2, h3⟩ := runs_sim hr tm _ (hb.set hD (x := .running) trivial)
      refine ⟨_, ?_, h2.set hD h3⟩
      unfold Wakes
      rw [show (withG s b).gens[g]? = some (.suspended k₀ l₀ c₀ p₀ fs cl) from (hb.at_g hD).trans hg]
      exact ⟨e₁, _, h1, hq, rfl, rfl⟩
  · rename_i hg
    obtain ⟨rfl, h2⟩ := h
    rw [h2]
    obtain ⟨hD, hg'⟩ := hb.get hg fun _ _ _ _ _ _ z => by cases z
    refine ⟨b, ?_, hb⟩
    unfold Wakes
    rw [show (withG s b).gens[g]? = some .running from hg']
    exact ⟨rfl, rfl⟩
  · rename_i hg
    obtain ⟨rfl, h2⟩ := h
    rw [h2]
    obtain ⟨hD, hg'⟩ := hb.get hg fun _ _ _ _ _ _ z => by cases z
    refine ⟨b, ?_, hb⟩
    unfold Wakes
    rw [show (withG s b).gens[g]? = some .finished from hg']
    exact ⟨rfl, rfl⟩
theorem wp_sim {α : Type} {M : Model} {Γ : Ctx} {D : Nat → Option GenState} (t : Sem α) : ∀ (Q : α → Pos → Shared → Prop) (E : Value → Pos → Shared → Prop) (p : Pos) (s : Shared) (b : Array GenState), Sim D s.gens b → wp M Γ t Q E p s →
    wp M Γ t (fun a p' s' => ∃ g', Q a p' (withG s' g') ∧ Sim D g' s'.gens) (fun e p' s' => ∃ g', E e p' (withG s' g') ∧ Sim D g' s'.gens) p (withG s b) := by
  induction t with
  | pure a => intro Q E p s b hb h; exact ⟨s.gens, h, hb⟩
  | raise e => intro Q E p s b hb h; exact ⟨s.gens, h, hb⟩
  | unsupported _ => intro Q E p s b _ h; exact h
  | finish _ => intro Q E p s b _ h; exact h
  | rule _ k ih => intro Q E p s b hb h; exact ih () Q E p s b hb h
  | «at» p' k ih => intro Q E p s b hb h; exact ih () Q E p' s b hb h
  | load a _ k ih => intro Q E p s b hb h; obtain ⟨o, ho, h⟩ := h; exact ⟨o, ho, ih o Q E p s b hb h⟩
  | update a _ f k ih => intro Q E p s b hb h; exact ⟨h.1, ih () Q E p { s with heap := s.heap.update a f } b hb h.2⟩
  | loadIfAlive a k ih => intro Q E p s b hb h; exact ih _ Q E p s b hb h
  | point _ k ih => intro Q E p s b hb h; exact ih () Q E p s b hb h
  | register _ _ => intro Q E p s b _ h; exact h
  | alloc o k ih => intro Q E p s b hb h; exact ih _ Q E p { s with heap := s.heap.push o } b hb h
  | fresh k ih => intro Q E p s b hb h; exact ih _ Q E p { s with toks := s.toks + 1 } b hb h
  | ask k ih => intro Q E p s b hb h; exact ih _ Q E p s b hb h
  | choose src m k ih => intro Q E p s b hb h; exact ⟨h.1, ih _ Q E p { s with drawn := s.drawn.bump src } b hb h.2⟩
  | os q _ k ih => intro Q E p s b hb h; exact ih _ Q E p { s with os := (Os.step s.os q).1 } b hb h
  | call c hd _ _ k ih =>
    intro Q E p s b hb h
    obtain ⟨r, s', hr, h⟩ := h
    obtain ⟨b', h1, h2, _⟩ := runs_sim hr rfl b hb
    exact ⟨r, withG s' b', h1, ih r Q E p s' b' h2 h⟩
  | handled own k ih => intro Q E p s b hb h; exact ih _ Q E p s b hb h
  | genState g k ih =>
    intro Q E p s b hb h
    obtain ⟨st, hs, h⟩ := h
    obtain ⟨y, e1, e2⟩ := hb.seen hs
    refine ⟨y, e1, ?_⟩
    rw [e2]
    exact ih _ Q E p s b hb h
  | newGen c k ih =>
    intro Q E p s b hb h
    have q := ih s.gens.size Q E p { s with gens := s.gens.push (.fresh c) } (b.push (.fresh c)) (hb.push trivial) h
    show wp M Γ (k (withG s b).gens.size) _ _ p { withG s b with gens := (withG s b).gens.push (.fresh c) }
    rw [show (withG s b).gens.size = s.gens.size from hb.size.symm]
    exact q
  | resume g r _ k ih =>
    intro Q E p s b hb h
    obtain ⟨res, s', hw, h⟩ := h
    obtain ⟨b', h1, h2⟩ := wakes_sim hw hb
    exact ⟨res, withG s' b', h1, ih res Q E p s' b' h2 h⟩
  | yield _ _ _ _ => intro Q E p s b _ h; exact h
  | stack k ih => intro Q E p s b hb h; exact ih _ Q E p s b hb h
  | fork _ _ => intro Q E p s b _ h; exact h
  | thread k ih => intro Q E p s b hb h; exact ih _ Q E p s b hb h
  | await _ _ _ _ _ => intro Q E p s b _ h; exact h
def sleepers (G : Array GenState) : Nat → Option GenState := fun i => match G[i]? with
  | some (.suspended k l c p fs cl) => some (.suspended k l c p fs cl)
  | _ => none
theorem sim_dead (G : Array GenState) : Sim (sleepers G) (G.map dead) G where
  size := Array.size_map ..
  dom := fun i x e => by
    unfold sleepers at e
    split at e
    · cases e; trivial
    · cases e
  at1 := fun i x e => by
    unfold sleepers at e
    split at e
    · rename_i h
      cases e
      exact ⟨by rw [Array.getElem?_map, h]; rfl, h⟩
    · cases e
  at0 := fun i e => by
    unfold sleepers at e
    rw [Array.getElem?_map]
    cases h : G[i]? with
    | none => exact ⟨rfl, fun x e => by cases e⟩
    | some y =>
      cases y with
      | suspended k l c p fs cl => rw [h] at e; cases e
      | fresh _ => exact ⟨rfl, fun x e => by cases e; trivial⟩
      | running => exact ⟨rfl, fun x e => by cases e; trivial⟩
      | finished => exact ⟨rfl, fun x e => by cases e; trivial⟩
def Kept (G G' : Array GenState) : Prop := ∀ (i : Nat) (x : GenState), G[i]? = some x → Susp x → G'[i]? = some x
theorem bare_of {D : Nat → Option GenState} {a b : Array GenState} (h : Sim D a b) (hb : PyProof.Rows.AllBare a) : PyProof.Rows.AllBare b := fun y hy => by
  obtain ⟨i, hi, e⟩ := Array.mem_iff_getElem.mp hy
  have e' : b[i]? = some y := by rw [Array.getElem?_eq_getElem hi, e]
  cases hD : D i with
  | none => exact hb y (Array.mem_of_getElem? ((h.at0 i hD).1.trans e'))
  | some x =>
    obtain ⟨e1, e2⟩ := h.at1 i x hD
    rw [e'] at e2
    cases e2
    have := hb _ (Array.mem_of_getElem? e1)
    rwa [dead_bare] at this
theorem bare_dead {G : Array GenState} (h : PyProof.Rows.AllBare G) : PyProof.Rows.AllBare (G.map dead) := fun y hy => by
  obtain ⟨x, hx, rfl⟩ := Array.mem_map.mp hy
  rw [dead_bare]
  exact h x hx
end GenF
namespace EvG
open PySem PySem.Spec PyProof.Rows L2 GenW
def GTr : Nat → Type
  | 0 => Unit
  | k + 1 => Hp → (Hp → Prop) → (V → Hp → GTr k → Prop) → Prop
abbrev GK := ∀ k : Nat, L2.St → Hp → (Hp → Prop) → (V → Hp → GTr k → Prop) → Prop
abbrev TGs2 := GK → GK
def GK.rest (K : GK) (σ : L2.St) : ∀ k, GTr k
  | 0 => ()
  | k + 1 => fun H r y => K k σ H r y
def SegP (M : Model) (A : Around) (Φ : End → Shared → Prop) (c : Code) (t : Sem PySem.Fin) (fs : List Frame) (s : Shared) : Prop :=
  ∀ Γ p, Γ.code = c → Γ.Woken A → ∃ e s', Runs M Γ p t fs s e s' ∧ Φ e s'
section
variable {M : Model} {A : Around} {Φ : End → Shared → Prop} {c : Code} {fs : List Frame} {s : Shared} {α β : Type}
theorem sp_wrap {m : Sem α} {K : α → Sem PySem.Fin} {J : Value → Sem PySem.Fin} {gd : Bool → Bool} {lv : List Value → List Value}
    (h : wpAny M (A.over c fs) m (fun a s' => SegP M A Φ c (K a) fs s') (fun x s' => SegP M A Φ c (J x) fs s') s) : SegP M A Φ c (m.wrap K J gd lv) fs s := fun Γ p e q => by
  subst e
  exact runs_wrap_of_wp K J gd lv m (h (Γ.over fs) p (q.over fs)) (fun a p' s' z => z Γ p' rfl q) fun x p' s' z => z Γ p' rfl q
theorem sp_bind {m : Sem α} {f : α → Sem β} {K : β → Sem PySem.Fin} {J : Value → Sem PySem.Fin} {gd : Bool → Bool} {lv : List Value → List Value}
    (h : wpAny M (A.over c fs) m (fun a s' => SegP M A Φ c ((f a).wrap K J gd lv) fs s') (fun x s' => SegP M A Φ c (J x) fs s') s) : SegP M A Φ c ((m >>= f).wrap K J gd lv) fs s := by
  rw [Sem.bind_eq_wrap' m f, Sem.wrap_wrap]
  exact sp_wrap h
theorem sp_at {p' : Pos} {f : Unit → Sem PySem.Fin} (h : SegP M A Φ c (f ()) fs s) : SegP M A Φ c (.at p' f) fs s :=
  sp_wrap (m := standAt p') (K := f) (J := Sem.raise) (gd := id) (lv := id) (wpAny_standAt h)
theorem sp_point {l : List Value} {f : Unit → Sem PySem.Fin} (h : SegP M A Φ c (f ()) fs s) : SegP M A Φ c (.point l f) fs s :=
  sp_wrap (m := point) (K := f) (J := Sem.raise) (gd := id) (lv := fun _ => l) (wpAny_point h)
theorem sp_call {c' : Code} {h : Option Value} {g : Bool} {l : List Value} {k : Result → Sem PySem.Fin} (q : ∀ p, SegP M A Φ c' (M.den c') (.ret k h g l c p [] :: fs) s) : SegP M A Φ c (.call c' h g l k) fs s := fun Γ p e z => by
  subst e
  obtain ⟨e, s', r, w⟩ := q p (Γ.goto c') p rfl (z.goto c')
  exact ⟨e, s', runs_call_seg r, w⟩
theorem sp_leaf {k : Result → Sem PySem.Fin} {h : Option Value} {g : Bool} {l : List Value} {c₁ : Code} {p₁ : Pos} {kp : List Value} (r : Result) (q : SegP M A Φ c₁ (k r) fs s) : SegP M A Φ c (leafOf r) (.ret k h g l c₁ p₁ kp :: fs) s := fun Γ p e z => by
  subst e
  obtain ⟨e, s', r', w⟩ := q (Γ.goto c₁) p₁ rfl (z.goto c₁)
  exact ⟨e, s', Runs.pop r r', w⟩
theorem sp_again {c' : Code} (hq : c'.quiet = true) (q : SegP M A Φ c' (M.den c') fs s) : SegP M A Φ c (.pure (.again c')) fs s := fun Γ p e z => by
  subst e
  obtain ⟨e, s', r, w⟩ := q (Γ.goto c') p rfl (z.goto c')
  exact ⟨e, s', Runs.head (c₁ := c') (fun _ _ x => .again hq x) r, w⟩
theorem sp_end (r : Result) (q : Φ (.ret r) s) : SegP M A Φ c (leafOf r) [] s := fun Γ p e _ => by
  subst e
  exact ⟨_, s, Runs.leaf r, q⟩
theorem sp_yield {v : Value} {g : Bool} {l : List Value} {k : Resume → Sem PySem.Fin} (hs : splitAtGen fs = none) (q : ∀ p, Φ (.susp v g l k c p fs) s) : SegP M A Φ c (.yield v g l k) fs s := fun Γ p e _ => by
  subst e
  exact ⟨_, s, Runs.yield' fs hs, q p⟩
end
section
variable (M : Model) (A : Around) (L : Addr) (mk : Shared → Hp → Cx)
abbrev Slept1 (k : Nat) := GTr k → L2.St → List (Addr × Obj) → Code → Sem PySem.Fin → List Frame → Prop
def Dis (L : Addr) (oth ip : List (Addr × Obj)) : Prop := (∀ q ∈ ip, L ≤ q.1) ∧ ∀ p ∈ oth, ∀ q ∈ ip, p.1 ≠ q.1
def EndW (L : Addr) (k : Nat) (S : Slept1 k) (X : Cx) (oth : List (Addr × Obj)) (rt : Hp → Prop) (yd : V → Hp → GTr k → Prop) (er : Value → Shared → Prop) : End → Shared → Prop
  | .ret (.ok f), s' => (f = .ret .none ∨ f = .next) ∧ ∃ σ H, Inv X oth σ H s' ∧ rt H
  | .ret (.error x), s' => er x s'
  | .susp v g l κ c p fs, s' => (End.susp v g l κ c p fs).quiet = true ∧ ∃ (x : V) (H : Hp) (tr : GTr k) (σ : L2.St) (ip : List (Addr × Obj)), RelV x v ∧ Inv X (oth ++ ip) σ H s' ∧ Dis L oth ip ∧ yd x H tr ∧ S tr σ ip c (κ (.send .none)) fs
def Slp : (k : Nat) → Slept1 k
  | 0, _, _, _, _, _, _ => True
  | k + 1, tr, σ, ip, c, t, fs => ∀ (s0 : Shared) (H0 : Hp) (oth : List (Addr × Obj)) (s : Shared) (H : Hp) (rt : Hp → Prop) (yd : V → Hp → GTr k → Prop), s0.heap.objs.size = L → Inv (mk s0 H0) (oth ++ ip) σ H s → Dis L oth ip → tr H rt yd →
      SegP M A (EndW L k (Slp k) (mk s0 H0) oth rt yd fun _ _ => False) c t fs s
abbrev EndG (k : Nat) := EndW L k (Slp M A L mk k)
end
abbrev gx (P : Program) (w : World) (K : PySem.W.Frag) (mg : Str → Option Value) (base : Heap) (N : List Str) (env : Env) (Ad : Around) (outer : List Env) (s0 : Shared) (H0 : Hp) : Cx where
  prog := P
  w := w
  K := K
  mg := mg
  base := base
  A := Ad
  N := N
  s_0 := s0
  H_0 := H0
  env := env
  outer := outer
  stack := env :: outer
  ex := []
  calm := true
  fn := fun _ => true
  pn := []
  xe := fun _ _ => False
structure Place (Aw Ad : Around) (c : Code) (fs : List Frame) (gd : Bool → Bool) : Prop where
  over : Aw.over c fs = Ad
  split : splitAtGen fs = none
  guard : fs.any Frame.guarded = false
  gd : gd false = false
section
variable (P : Program) (w : World) (K : PySem.W.Frag) (mg : Str → Option Value) (base : Heap) (N : List Str) (env : Env) (Ad : Around) (outer : List Env) (L : Addr)
abbrev GEnd (Aw : Around) (k : Nat) (s0 : Shared) (H0 : Hp) := EndG (model P w) Aw L (gx P w K mg base N env Ad outer) k (gx P w K mg base N env Ad outer s0 H0)
def Cont (Aw : Around) (ip : List (Addr × Obj)) (c : Code) (fs : List Frame) (t : Sem PySem.Fin) (Kc : GK) : Prop := ∀ (k : Nat) (s0 : Shared) (H0 : Hp) (oth : List (Addr × Obj)) (σ : L2.St) (H : Hp) (s : Shared) (rt : Hp → Prop) (yd : V → Hp → GTr k → Prop) (er : Value → Shared → Prop),
  s0.heap.objs.size = L → Inv (gx P w K mg base N env Ad outer s0 H0) (oth ++ ip) σ H s → Dis L oth ip → Kc k σ H rt yd → SegP (model P w) Aw (GEnd P w K mg base N env Ad outer L Aw k s0 H0 oth rt yd er) c t fs s
structure GZ (st : Stmt) (t : TGs2) : Prop where
  run : ∀ (Aw : Around) (Kc : GK) (ip : List (Addr × Obj)) (c : Code) (fs : List Frame) (Kf : Flow → Sem PySem.Fin) (J : Value → Sem PySem.Fin) (gd : Bool → Bool) (lv : List Value → List Value), Place Aw Ad c fs gd →
    Cont P w K mg base N env Ad outer L Aw ip c fs (Kf .next) Kc → Cont P w K mg base N env Ad outer L Aw ip c fs ((exec st env).wrap Kf J gd lv) (t Kc)
structure GZs (st : List Stmt) (t : TGs2) : Prop where
  run : ∀ (Aw : Around) (Kc : GK) (ip : List (Addr × Obj)) (c : Code) (fs : List Frame) (Kf : Flow → Sem PySem.Fin) (J : Value → Sem PySem.Fin) (gd : Bool → Bool) (lv : List Value → List Value), Place Aw Ad c fs gd →
    Cont P w K mg base N env Ad outer L Aw ip c fs (Kf .next) Kc → Cont P w K mg base N env Ad outer L Aw ip c fs ((execs st env).wrap Kf J gd lv) (t Kc)
abbrev All (p : Cx → Prop) : Prop := ∀ (s0 : Shared) (H0 : Hp), s0.heap.objs.size = L → p (gx P w K mg base N env Ad outer s0 H0)
end
section
variable {P : Program} {w : World} {K : PySem.W.Frag} {mg : Str → Option Value} {base : Heap} {N : List Str} {env : Env} {Ad : Around} {outer : List Env} {L : Addr} {st : Stmt} {rest body : List Stmt} {e test : Expr} {pos yp : Pos}
def tGP (t : TS) : TGs2 := fun Kc k σ H r y => t { nx := fun σ' H' => Kc k σ' H' r y, rt := fun _ _ => False } σ H
theorem gz_plain {t : TS} (h : All P w K mg base N env Ad outer L fun X => PS X st t) : GZ P w K mg base N env Ad outer L st (tGP t) := by
  refine ⟨fun Aw Kc ip c fs Kf J gd lv pl co k s0 H0 oth σ H s r y er hL I ds ht => sp_wrap ?_⟩
  rw [pl.over]
  refine wpAny_mono ((h s0 H0 hL).run _ s σ H _ I ht) (fun fl s' q => ?_) fun x s' hx => hx.elim
  cases fl with
  | next => obtain ⟨σ', H', I', q⟩ := q; exact co k s0 H0 oth σ' H' s' r y er hL I' ds q
  | brk => obtain ⟨_, _, _, q⟩ := q; exact q.elim
  | cont => obtain ⟨_, _, _, q⟩ := q; exact q.elim
  | ret u => obtain ⟨_, _, _, _, _, q⟩ := q; exact q.elim
def tGNil : TGs2 := fun Kc => Kc
theorem gzs_nil : GZs P w K mg base N env Ad outer L [] tGNil := ⟨fun _ _ _ _ _ _ _ _ _ _ co => co⟩
def tGSeq (t u : TGs2) : TGs2 := fun Kc => t (u Kc)
theorem gzs_cons {t u : TGs2} (a : GZ P w K mg base N env Ad outer L st t) (b : GZs P w K mg base N env Ad outer L rest u) : GZs P w K mg base N env Ad outer L (st :: rest) (tGSeq t u) :=
  ⟨fun Aw Kc ip c fs Kf J gd lv pl co => by
    rw [execs_cons_wrap]
    exact a.run Aw (u Kc) ip c fs _ J gd lv pl (b.run Aw Kc ip c fs Kf J gd lv pl co)⟩
def tGY (te : TE) : TGs2 := fun Kc k σ H _ y => te σ H fun x H1 => y x H1 (GK.rest Kc σ k)
theorem slp_rest {Aw : Around} {ip : List (Addr × Obj)} {c : Code} {fs : List Frame} {t : Sem PySem.Fin} {Kc : GK} (co : Cont P w K mg base N env Ad outer L Aw ip c fs t Kc) (σ : L2.St) : ∀ k, Slp (model P w) Aw L (gx P w K mg base N env Ad outer) k (GK.rest Kc σ k) σ ip c t fs
  | 0 => trivial
  | k + 1 => fun s0 H0 oth s H r y hL I ds ht => co k s0 H0 oth σ H s r y _ hL I ds ht
theorem gz_yield {te : TE} (he : All P w K mg base N env Ad outer L fun X => PE X e te) (hco : env.scope.isCoroutine = false := by rfl) (hi : interactive env = false := by rfl) : GZ P w K mg base N env Ad outer L (.Expr (.Yield (some e) yp) pos) (tGY te) := by
  refine ⟨fun Aw Kc ip c fs Kf J gd lv pl co k s0 H0 oth σ H s r y er hL I ds ht => ?_⟩
  have hy : ∀ v, yieldOut env v = yieldValue v := fun v => by
    unfold yieldOut
    rw [if_neg (by rw [hco]; exact Bool.false_ne_true)]
  rw [exec_Expr env _ pos hi rfl]
  refine sp_at ?_
  show SegP _ _ _ _ (((eval e env >>= fun v => (standAt yp >>= fun _ => yieldOut env v)) >>= fun x => dropValue (.Yield (some e) yp) pos x).wrap Kf J gd lv) _ _
  simp only [hy, Sem.bind_eq_wrap', Sem.wrap_wrap]
  refine sp_wrap ?_
  rw [pl.over]
  refine wpAny_mono ((he s0 H0 hL).run _ s σ H _ I ht) (fun v s' q => ?_) fun x s' hx => hx.elim
  obtain ⟨x, H1, I1, rv, q⟩ := q
  refine sp_at (sp_yield pl.split fun p => ?_)
  exact ⟨by simp [End.quiet, pl.guard, pl.gd], x, H1, _, σ, ip, rv, I1, ds, q, slp_rest co σ k⟩
theorem Place.loop {Aw : Around} {c c' : Code} {fs : List Frame} {gd : Bool → Bool} {k : Result → Sem PySem.Fin} {l kp : List Value} {p : Pos} (pl : Place Aw Ad c fs gd) (hw : c'.weight = 0) (hu : c'.cUnits = 0) : Place Aw Ad c' (.ret k none (gd false) l c p kp :: fs) id := by
  refine ⟨(over_loop hw hu).trans pl.over, ?_, ?_, rfl⟩
  · show Option.map _ (splitAtGen fs) = none
    rw [pl.split, Option.map_none]
  · show (gd false || fs.any Frame.guarded) = false
    rw [pl.gd, pl.guard, Bool.or_false]
def whR (c : TT) (b : TGs2) (Kc : GK) : Nat → GK
  | 0 => fun _ _ _ _ _ => False
  | m + 1 => fun k σ H r y => c σ H fun v H1 => if v = true then b (whR c b Kc m) k σ H1 r y else Kc k σ H1 r y
def tGWh (c : TT) (b : TGs2) : TGs2 := fun Kc k σ H r y => ∃ m, whR c b Kc m k σ H r y
abbrev back (env : Env) (Kf : Flow → Sem PySem.Fin) (J : Value → Sem PySem.Fin) (gd : Bool → Bool) (lv : List Value → List Value) : Result → Sem PySem.Fin := fun r => ((match r with | .ok f => (.pure f : Sem Flow) | .error x => .raise x).onRaise (cameBack env)).wrap Kf J gd lv
theorem gz_while {tc : TT} {tb : TGs2} (hc : All P w K mg base N env Ad outer L fun X => PT X test tc) (hb : GZs P w K mg base N env Ad outer L body tb) : GZ P w K mg base N env Ad outer L (.While test body [] pos) (tGWh tc tb) := by
  refine ⟨fun Aw Kc ip c fs Kf J gd lv pl co k s0 H0 oth σ H s r y er hL I ds ht => ?_⟩
  obtain ⟨m, ht⟩ := ht
  refine sp_at (sp_call fun p => ?_)
  have pl' := fun kk : Result → Sem PySem.Fin => pl.loop (k := kk) (c' := .whileLoop test body [] env) (l := lv []) (kp := []) (p := p) rfl rfl
  have loop : ∀ m, Cont P w K mg base N env Ad outer L Aw ip (.whileLoop test body [] env) (.ret (back env Kf J gd lv) none (gd false) (lv []) c p [] :: fs) ((model P w).den (.whileLoop test body [] env)) (whR tc tb Kc m) := by
    intro m
    induction m with
    | zero => exact fun k s0 H0 oth σ H s r y er hL I ds ht => ht.elim
    | succ m ih =>
      intro k s0 H0 oth σ H s r y er hL I ds ht
      show SegP _ _ _ _ ((whileTurn test body [] env).onRaise fun x => do noteFrame x env; theTreesLotGoes x) _ _
      unfold whileTurn
      rw [Sem.onRaise_eq_wrap]
      refine sp_bind ?_
      rw [(pl' _).over]
      refine wpAny_mono ((hc s0 H0 hL).run _ s σ H _ I ht) (fun v s' q => ?_) fun x s' hx => hx.elim
      obtain ⟨H1, I1, q⟩ := q
      cases v with
      | false => exact sp_leaf (.ok .next) (co k s0 H0 oth σ H1 s' r y er hL I1 ds q)
      | true =>
        show SegP _ _ _ _ (Sem.wrap _ _ _ _ (execs body env >>= _)) _ _
        rw [Sem.bind_eq_wrap', Sem.wrap_wrap]
        exact hb.run Aw (whR tc tb Kc m) ip _ _ _ _ _ _ ⟨(pl' _).over, (pl' _).split, (pl' _).guard, rfl⟩ (fun k s0 H0 oth σ H s r y er hL I ds ht => sp_again rfl (ih k s0 H0 oth σ H s r y er hL I ds ht)) k s0 H0 oth σ H1 s' r y er hL I1 ds q
  exact loop m k s0 H0 oth σ H s r y er hL I ds ht
end
end EvG
namespace EvG
open PySem PySem.Spec PyProof.Rows L2 GenW
def cut (h : Heap) (L : Nat) : Heap := ⟨h.objs.extract 0 L, h.life⟩
theorem cut_size {h : Heap} {L : Nat} (q : L ≤ h.objs.size) : (cut h L).objs.size = L := by
  show (h.objs.extract 0 L).size = L
  rw [Array.size_extract]
  omega
theorem cut_get {h : Heap} {L b : Nat} (q : b < L) : (cut h L).get? b = h.get? b := by
  have e : (cut h L).objs[b]? = h.objs[b]? := by
    show (h.objs.extract 0 L)[b]? = _
    rw [Array.getElem?_extract]
    split
    · rw [Nat.zero_add]
    · rename_i z
      rw [Array.getElem?_eq_none]
      omega
  unfold Heap.get?
  rw [e]
theorem cut_none {h : Heap} {L b : Nat} (q : ¬ b < L) : (cut h L).get? b = none := by
  refine Heap.get?_none_of_le (Nat.le_trans ?_ (Nat.le_of_not_lt q))
  show (h.objs.extract 0 L).size ≤ L
  rw [Array.size_extract]
  omega
theorem of_cut {h : Heap} {L b : Nat} {o : Obj} (e : (cut h L).get? b = some o) : b < L ∧ h.get? b = some o := by
  by_cases q : b < L
  · exact ⟨q, by rw [← cut_get q]; exact e⟩
  · rw [cut_none q] at e
    cases e
abbrev cutS (s : Shared) (L : Nat) : Shared := { s with heap := cut s.heap L }
theorem funFrames_cut {h base : Heap} {L : Nat} : ∀ {l : List Env}, h.FunFrames base l → (∀ b ∈ frs l, b < L) → (cut h L).FunFrames base l
  | [], _, _ => trivial
  | env :: l, q, z => by
    obtain ⟨hk, ⟨M, o, hf, hn, ho, hd⟩, hr⟩ := q
    have hM : M < L := z M (List.mem_filterMap.mpr ⟨env, List.mem_cons_self, hf⟩)
    exact ⟨hk, ⟨M, o, hf, hn, (cut_get hM).trans ho, hd⟩, funFrames_cut hr fun b hb => by
      obtain ⟨e, he, w⟩ := List.mem_filterMap.mp hb
      exact z b (List.mem_filterMap.mpr ⟨e, List.mem_cons_of_mem _ he, w⟩)⟩
abbrev gc (X : Cx) (N : List Str) (env : Env) (Ad : Around) := gx X.prog X.w X.K X.mg X.base N env Ad X.stack
section
variable {X : Cx} {pins oth : List (Addr × Obj)} {σ σg : L2.St} {H H' : Hp} {s s1 : Shared} {N : List Str} {env : Env} {Ad : Around} {L : Addr}
structure Older (X : Cx) (L : Addr) : Prop where
  base : X.s_0.heap.objs.size ≤ L
  fs : ∀ b ∈ frs X.stack, b < L
  cell : ∀ x c, X.env.cells.lookup x = some c → c < L
def Still (b : Addr) (s s1 : Shared) (H' : Hp) : Prop := ∀ u, s.heap.get? b = some u → ∃ sl, s1.heap.get? b = some { u with slots := sl } ∧ H' b = none
theorem Inv.enter {s00 : Shared} {H00 : Hp} {ip : List (Addr × Obj)} (I : Inv X pins σ H s) (o : Older X L) (ok : (gc X N env Ad s00 H00).Ok) (h0 : s00.heap.objs.size = L) (hL : L ≤ s.heap.objs.size)
    (loc : ∃ m, s.heap.Ns env.locals m ∧ ∀ (i : Nat) (x : Str) (v : V), N[i]? = some x → σg[i]? = some (some v) → Vis env.scope x → ∃ u, RelV v u ∧ Look env s.heap m x u) (len : σg.length = N.length) (nc : ∀ x c, env.cells.lookup x ≠ some c) (fl : H env.locals = none)
    (hp : ∀ p ∈ ip, s.heap.get? p.1 = some p.2 ∧ H p.1 = none ∧ p.1 ≠ env.locals ∧ p.1 ∉ frs X.stack ∧ ∀ v, p.2.data ≠ .cell v) : Inv (gc X N env Ad (cutS s L) H) ip σg H s := by
  have bz : X.base.objs.size ≤ L := h0 ▸ ok.bsz
  have bs : ∀ b u, X.base.get? b = some u → (cut s.heap L).get? b = some u ∧ H b = none := fun b u e => ⟨(cut_get (Nat.lt_of_lt_of_le (Heap.lt_size e) bz)).trans (I.bs b u e).1, (I.bs b u e).2⟩
  have sz : (cut s.heap L).objs.size = L := cut_size hL
  refine ⟨⟨ok.mod, ok.kind, ok.glob, ok.blt, ?_, ok.inj, ok.has, fun x c _ e => (nc x c e).elim, ok.hd, ok.frames, ok.stk, ok.exf, bs, ?_, fun b u _ z => (nomatch z), fun b z => (nomatch z), funFrames_cut I.stack o.fs, I.stkFree⟩, rfl, I.bare, ⟨fun b u e _ _ _ => (of_cut e).2, fun b u e _ _ _ => ⟨u.slots, (of_cut e).2⟩, fun b u _ n _ => n, fun b u e _ => ⟨u, (of_cut e).2⟩, fun _ _ e => e, fun _ _ _ e => e, fun b ps e => ⟨#[], by simpa using e⟩⟩, loc, fun x c e => (nc x c e).elim, fl, fun x c e => (nc x c e).elim, hp, I.hok, len⟩
  · show (cut s.heap L).objs.size ≤ env.locals
    rw [sz, ← h0]
    exact ok.above
  · show X.base.objs.size ≤ (cut s.heap L).objs.size
    rw [sz]
    exact bz
theorem Inv.exit0 {s0 : Shared} (I : Inv X pins σ H s) (o : Older X L) (hk : ∀ b u, b < L → s.heap.get? b = some u → s0.heap.get? b = some u) (ho : s0.os = s.os) (J : Inv (gc X N env Ad s0 H) oth σg H' s1) (hl : Still X.env.locals s s1 H') {pins' : List (Addr × Obj)}
    (hp : ∀ p ∈ X.pn ++ pins', s1.heap.get? p.1 = some p.2 ∧ H' p.1 = none ∧ p.1 ≠ X.env.locals ∧ p.1 ∉ X.fs ∧ ∀ v, p.2.data ≠ .cell v) : Inv X pins' σ H' s1 := by
  have un : Un (frs X.stack) [] H H' s0.heap s1.heap := J.base
  have ltS : ∀ {b : Addr} {u : Obj}, X.s_0.heap.get? b = some u → b < L := fun e => Nat.lt_of_lt_of_le (Heap.lt_size e) o.base
  have nst : ∀ {b : Addr} {u : Obj}, X.s_0.heap.get? b = some u → b ∉ X.fs → b ∉ frs X.stack := fun {b u} e hb hm => by
    rcases List.mem_cons.mp (I.stkSub b hm) with z | z
    · have := Nat.lt_of_lt_of_le (Heap.lt_size e) I.ok.above
      rw [z] at this
      exact Nat.lt_irrefl _ this
    · exact hb z
  have any : ∀ {b : Addr} {u : Obj}, b < L → s.heap.get? b = some u → H b = none → ∃ sl, s1.heap.get? b = some { u with slots := sl } := fun hb e n => un.any (hk _ _ hb e) n (by simp)
  have fr : ∀ {b : Addr} {u : Obj}, b < L → s.heap.get? b = some u → H b = none → H' b = none := fun {b u} hb e n => un.free b u (hk _ _ hb e) n (by simp)
  have os : s1.os = s.os := J.os.trans ho
  refine ⟨I.ok, os.trans I.os, J.bare, ⟨fun b u e n hb hx => ?_, fun b u e n hb hx => ?_, fun b u e n hx => ?_, fun b u e hx => ?_, fun b xs e => un.tups b xs (I.base.tups b xs e), fun b q xs e => un.frzs b q xs (I.base.frzs b q xs e), fun b ps e => ?_⟩, ?_, fun x c e => ?_, ?_, fun x c e => ?_, hp, J.hok, I.len⟩
  · exact un.keep b u (hk _ _ (ltS e) (I.base.keep b u e n hb hx)) (I.base.free b u e n hx) (nst e hb) (by simp)
  · obtain ⟨sl, e1⟩ := I.base.slot b u e n hb hx
    obtain ⟨sl2, e2⟩ := any (ltS e) e1 (I.base.free b u e n hx)
    exact ⟨sl2, e2⟩
  · obtain ⟨u', e1⟩ := I.base.there b u e hx
    exact fr (ltS e) e1 (I.base.free b u e n hx)
  · obtain ⟨u', e1⟩ := I.base.there b u e hx
    exact un.there b u' (hk _ _ (ltS e) e1) (by simp)
  · obtain ⟨m1, e1⟩ := I.base.tbls b ps e
    obtain ⟨m2, e2⟩ := un.tbls b _ e1
    exact ⟨m1 ++ m2, by rw [e2, Array.append_assoc]⟩
  · obtain ⟨m, ⟨u, es, ep, ho, r⟩, hv⟩ := I.loc
    obtain ⟨sl, h1, _⟩ := hl u ho
    refine ⟨m, ⟨_, es, ep, h1, r⟩, fun i x v e1 e2 e3 => ?_⟩
    obtain ⟨y, ry, ly⟩ := hv i x v e1 e2 e3
    refine ⟨y, ry, ly.imp id fun ⟨kd, c, e, q⟩ => ⟨kd, c, e, ?_⟩⟩
    obtain ⟨oc, hoc, hd⟩ := q
    obtain ⟨sl2, h2⟩ := any (o.cell x c e) hoc (I.freeC x c e)
    exact ⟨_, h2, hd⟩
  · obtain ⟨v, oc, hoc, hd⟩ := I.cell x c e
    obtain ⟨sl2, h2⟩ := any (o.cell x c e) hoc (I.freeC x c e)
    exact ⟨v, _, h2, hd⟩
  · obtain ⟨m, ⟨u, es, ep, ho, r⟩, hv⟩ := I.loc
    obtain ⟨_, _, e⟩ := hl u ho
    exact e
  · obtain ⟨v, oc, hoc, hd⟩ := I.cell x c e
    exact fr (o.cell x c e) hoc (I.freeC x c e)
theorem Inv.exit (I : Inv X pins σ H s) (o : Older X L) (J : Inv (gc X N env Ad (cutS s L) H) oth σg H' s1) (hl : Still X.env.locals s s1 H') {pins' : List (Addr × Obj)}
    (hp : ∀ p ∈ X.pn ++ pins', s1.heap.get? p.1 = some p.2 ∧ H' p.1 = none ∧ p.1 ≠ X.env.locals ∧ p.1 ∉ X.fs ∧ ∀ v, p.2.data ≠ .cell v) : Inv X pins' σ H' s1 :=
  Inv.exit0 (s0 := cutS s L) I o (fun _ _ hb e => (cut_get hb).trans e) rfl J hl hp
theorem still_old {s0 : Shared} {b : Addr} (hb : b < L) (n : H b = none) (hk : ∀ b u, b < L → s.heap.get? b = some u → s0.heap.get? b = some u) (J : Inv (gc X N env Ad s0 H) oth σg H' s1) : Still b s s1 H' := fun u e => by
  have un : Un (frs X.stack) [] H H' s0.heap s1.heap := J.base
  obtain ⟨sl, q⟩ := un.any (hk _ _ hb e) n (by simp)
  exact ⟨sl, q, un.free b u (hk _ _ hb e) n (by simp)⟩
end
def Ready (M : Model) (gs : GenState) (c : Code) (t : Sem PySem.Fin) (fs : List Frame) : Prop := (gs = .fresh c ∧ t = M.den c ∧ fs = []) ∨ ∃ κ l p cl, gs = .suspended κ l c p fs cl ∧ t = κ (.send .none)
theorem resume_g {M : Model} {A : Around} {Φ : End → Shared → Prop} {α : Type} {E : Value → Shared → Prop} {s : Shared} {g : Nat} {gs : GenState} {c : Code} {t : Sem PySem.Fin} {fs : List Frame} {l : List Value} {k : GenResult → Sem α} {Q : α → Shared → Prop}
    (hg : s.gens[g]? = some gs) (rd : Ready M gs c t fs) (hr : SegP M A Φ c t fs (s.setGen g .running)) (hq : ∀ e s', Φ e s' → e.quiet = true ∧ wpAny M A (k e.result) Q E (s'.setGen g e.genState)) : wpAny M A (.resume g (.send .none) l k) Q E s := by
  intro Γ p hΓ
  rw [Sem.wp_resume]
  rcases rd with ⟨rfl, rfl, rfl⟩ | ⟨κ, l0, p0, cl, rfl, rfl⟩
  · obtain ⟨e, s1, r, f⟩ := hr (Γ.wake c p) p rfl (hΓ.wake c p)
    obtain ⟨q1, q2⟩ := hq e s1 f
    refine ⟨_, _, ?_, q2 Γ p hΓ⟩
    unfold Wakes
    rw [hg]
    exact ⟨e, s1, r, q1, rfl, rfl⟩
  · obtain ⟨e, s1, r, f⟩ := hr (Γ.wake c p) p0 rfl (hΓ.wake c p)
    obtain ⟨q1, q2⟩ := hq e s1 f
    refine ⟨_, _, ?_, q2 Γ p hΓ⟩
    unfold Wakes
    rw [hg]
    exact ⟨e, s1, r, q1, rfl, rfl⟩
theorem next_g {P : Program} {w : World} {A : Around} {Φ : End → Shared → Prop} {E : Value → Shared → Prop} {s : Shared} {a : Addr} {g : Nat} {gs : GenState} {c : Code} {t : Sem PySem.Fin} {fs : List Frame} {Q : Option Value → Shared → Prop}
    (hh : A.handled = none) (hl : s.heap.NoLimit) (hroom : A.depth < recursionLimit) (hg : s.heap.IsGen a g) (hgs : s.gens[g]? = some gs) (rd : Ready (model P w) gs c t fs) (hr : SegP (model P w) A.in1 Φ c t fs (s.setGen g .running))
    (hret : ∀ f s₁, Φ (.ret (.ok f)) s₁ → (f = .ret .none ∨ f = .next) ∧ ∀ h', (∀ b o, s₁.heap.get? b = some o → h'.get? b = some o) → Q none { s₁.setGen g .finished with heap := h' })
    (hexc : ∀ e s₁, Φ (.ret (.error e)) s₁ → s₁.heap.IsGen a g ∧ NotStop (model P w) e s₁.heap ∧ E e (s₁.setGen g .finished))
    (hsus : ∀ v g0 l κ c p fs s₁, Φ (.susp v g0 l κ c p fs) s₁ → (End.susp v g0 l κ c p fs).quiet = true ∧ Q (some v) (s₁.setGen g (End.susp v g0 l κ c p fs).genState)) : wpAny (model P w) A (pyNext (.ref a)) Q E s := by
  unfold pyNext
  refine wpAny_bind (wpAny_attempt (wpAny_callSpecial?_slot (name := Str.ofString "__next__") hg.typeIs slot_gen_next (wpAny_call_entry slot_gen_next hg.typeIs entry_gen_next ?_ (args_gen_next _))))
  show wpAny _ A.in1 (Builtin.Generator.genWake (.ref a) (.send .none)) _ _ s
  unfold Builtin.Generator.genWake
  refine wpAny_bind (wpAny_holding (wpAny_genNumber hg (wpAny_bind (wpAny_genState hgs ?_))))
  have go : ∀ {α : Type} (k : GenResult → Sem α) (Q' : α → Shared → Prop) (E' : Value → Shared → Prop), (∀ e s', Φ e s' → e.quiet = true ∧ wpAny (model P w) A.in1 (k e.result) Q' E' (s'.setGen g e.genState)) → wpAny (model P w) A.in1 (.resume g (.send .none) [] k) Q' E' s :=
    fun k Q' E' z => resume_g hgs rd hr z
  rcases rd with ⟨rfl, -, -⟩ | ⟨κ, l0, p0, cl, rfl, -⟩ <;>
  · refine wpAny_bind (wpAny_roomToWake hl hroom (go _ _ _ fun e s₁ f => ?_))
    cases e with
    | susp v g0 l κ c p fs =>
      obtain ⟨q1, q2⟩ := hsus v g0 l κ c p fs s₁ f
      exact ⟨q1, wpAny_pure ⟨v, rfl, wpAny_pure q2⟩⟩
    | ret r =>
      refine ⟨rfl, ?_⟩
      cases r with
      | ok fl =>
        obtain ⟨hr, hp⟩ := hret fl s₁ f
        have hres : End.result (.ret (.ok fl)) = .returned .none := by rcases hr with hr | hr <;> rw [hr] <;> rfl
        rw [hres]
        show wpAny _ A.in1 (newExc (.type "StopIteration") [] >>= _) _ _ _
        refine wpAny_bind ?_
        simp only [newExc, newTuple]
        refine wpAny_bind (wpAny_newObj_type ?_ (by size_fits))
        refine wpAny_bind (m := firstArgMember _ _) (wpAny_of_eq (a := Value.none) (by first | rfl | (simp only [firstArgMember]; rfl)) ?_)
        refine wpAny_newObj_type ?_ (by size_fits)
        simp only [raiseNew]
        refine wpAny_bind (wpAny_bind (wpAny_handled ?_))
        rw [show A.in1.handled = none from hh]
        refine wpAny_throw (wpAny_bind (wpAny_isInstance (T := "StopIteration") (b := true) ⟨_, Heap.get?_push_size _ rfl, rfl⟩ isSubtype_stop ?_))
        exact wpAny_pure (hp _ fun b o hb => Heap.get?_push_of_some _ (Heap.get?_push_of_some _ hb))
      | error x =>
        obtain ⟨hg1, hns, hq⟩ := hexc x s₁ f
        obtain ⟨o, nm, qn, ho, _⟩ := hg1
        show wpAny _ A.in1 (Builtin.Generator.genLeft (.ref a) x) _ _ _
        unfold Builtin.Generator.genLeft Builtin.Generator.madeByALambda
        refine wpAny_bind (wpAny_bind (wpAny_load (o := o) ho (wpAny_pure (wpAny_bind (hns _ _ _ _ rfl ?_)))))
        rw [Bool.and_false, if_neg Bool.false_ne_true]
        unfold Builtin.Generator.genEscaped
        refine wpAny_bind (hns _ _ _ _ rfl ?_)
        rw [if_pos (show (!false) = true from rfl)]
        refine wpAny_throw (wpAny_bind (hns _ _ _ _ rfl ?_))
        rw [if_neg Bool.false_ne_true]
        exact wpAny_throw hq
end EvG
namespace EvG
open PySem PySem.Spec PyProof.Rows L2 GenW
def GenO (go : Obj) (g : Nat) : Prop := ∃ nm qn, go.cls = .type "generator" ∧ go.data = .fields #[.int g 0, nm, qn] ∧ go.slots = #[]
theorem GenO.is {go : Obj} {g : Nat} (q : GenO go g) {h : Heap} {a : Addr} (e : h.get? a = some go) : h.IsGen a g :=
  let ⟨nm, qn, h1, h2, h3⟩ := q
  ⟨go, nm, qn, e, h1, h2, h3⟩
def LocO (N : List Str) (env : Env) (σ : L2.St) (lo : Obj) : Prop := (∀ v, lo.data ≠ .cell v) ∧ σ.length = N.length ∧ ∀ h : Heap, h.get? env.locals = some lo →
  ∃ m, h.Ns env.locals m ∧ ∀ (i : Nat) (x : Str) (v : V), N[i]? = some x → σ[i]? = some (some v) → Vis env.scope x → ∃ u, RelV v u ∧ Look env h m x u
def Gen (X : Cx) (Aw : Around) (k : Nat) (tr : GTr k) (a : Addr) (g : Nat) (gp : List (Addr × Obj)) (gens : Array GenState) : Prop :=
  ∃ (N : List Str) (env : Env) (Ad : Around) (L : Addr) (s00 : Shared) (H00 : Hp) (σg : L2.St) (ip : List (Addr × Obj)) (lo go : Obj) (gs : GenState) (c : Code) (t : Sem PySem.Fin) (fs : List Frame),
    gens[g]? = some gs ∧ Ready (model X.prog X.w) gs c t fs ∧ gp = (a, go) :: (L, lo) :: ip ∧ env.locals = L ∧ (gc X N env Ad s00 H00).Ok ∧ s00.heap.objs.size = L ∧ (∀ x c, env.cells.lookup x ≠ some c) ∧ Older X L ∧ GenO go g ∧ LocO N env σg lo ∧ a ≠ L ∧ (∀ q ∈ ip, L ≤ q.1 ∧ q.1 ≠ L ∧ q.1 ≠ a) ∧
      Slp (model X.prog X.w) Aw L (gc X N env Ad) k tr σg ip c t fs
def Apt (X : Cx) (pins gp : List (Addr × Obj)) : Prop := ∀ p ∈ X.pn ++ pins, ∀ q ∈ gp, p.1 ≠ q.1
section
variable {X : Cx} {pins gp : List (Addr × Obj)} {σ : L2.St} {H : Hp} {s : Shared}
theorem Inv.gens (I : Inv X pins σ H s) {G : Array GenState} (b : AllBare G) : Inv X pins σ H { s with gens := G } := ⟨I.ok, I.os, b, I.base, I.loc, I.cell, I.free, I.freeC, I.pin, I.hok, I.len⟩
theorem Inv.setGen (I : Inv X pins σ H s) {g : Nat} {x : GenState} (b : x.bare = true) : Inv X pins σ H (s.setGen g x) := Inv.gens I (allBare_setGen I.bare b)
theorem locO {N : List Str} {env : Env} {Ad : Around} {s0 : Shared} {H0 : Hp} {ip : List (Addr × Obj)} (I : Inv (gc X N env Ad s0 H0) ip σ H s) (nc : ∀ x c, env.cells.lookup x ≠ some c) : ∃ lo, s.heap.get? env.locals = some lo ∧ LocO N env σ lo := by
  obtain ⟨m, ⟨o, es, ep, ho, hd, r⟩, hl⟩ := I.loc
  refine ⟨o, ho, fun v z => (by rw [hd] at z; cases z), I.len, fun h e => ⟨m, ⟨o, es, ep, e, hd, r⟩, fun i x v e1 e2 e3 => ?_⟩⟩
  obtain ⟨u, ru, lu⟩ := hl i x v e1 e2 e3
  refine ⟨u, ru, .inl ?_⟩
  rcases lu with lu | ⟨_, c, e, _⟩
  · exact lu
  · exact (nc x c e).elim
theorem wake {Aw A : Around} {k : Nat} {tr : GTr (k + 1)} {a : Addr} {g : Nat} {rt : Hp → Prop} {yd : V → Hp → GTr k → Prop} {E : Value → Shared → Prop} (hA : A.in1 = Aw) (hh : A.handled = none) (hroom : A.depth < recursionLimit)
    (I : Inv X (pins ++ gp) σ H s) (G : Gen X Aw (k + 1) tr a g gp s.gens) (ap : Apt X pins gp) (ht : tr H rt yd) :
    wpAny (model X.prog X.w) A (pyNext (.ref a)) (fun r s' => match r with
      | none => ∃ H', Inv X pins σ H' s' ∧ rt H'
      | some v => ∃ x H' tr' gp', RelV x v ∧ Inv X (pins ++ gp') σ H' s' ∧ Apt X pins gp' ∧ (∀ G', GenF.Kept s'.gens G' → Gen X Aw k tr' a g gp' G') ∧ yd x H' tr') E s := by
  subst hA
  obtain ⟨N, env, Ad, L, s00, H00, σg, ip, lo, go, gs, c, t, fs, hgs, rd, rfl, hloc, ok, h0, nc, old, hgo, hlo, naL, nip, slp⟩ := G
  have pinA := I.pin (a, go) (List.mem_append_right _ (List.mem_append_right _ List.mem_cons_self))
  have pinL := I.pin (L, lo) (List.mem_append_right _ (List.mem_append_right _ (List.mem_cons_of_mem _ List.mem_cons_self)))
  have pinI : ∀ q ∈ ip, _ := fun q hq => I.pin q (List.mem_append_right _ (List.mem_append_right _ (List.mem_cons_of_mem _ (List.mem_cons_of_mem _ hq))))
  have pinP : ∀ q ∈ X.pn ++ pins, _ := fun q hq => I.pin q (by rw [← List.append_assoc]; exact List.mem_append_left _ hq)
  -- the consumer's frame: older, or kept as it is
  obtain ⟨lp, lp1, lp2⟩ : ∃ lp : List (Addr × Obj), (∀ p ∈ lp, p.1 = X.env.locals ∧ L ≤ p.1 ∧ s.heap.get? p.1 = some p.2 ∧ ∀ v, p.2.data ≠ .cell v) ∧ (lp = [] → X.env.locals < L) ∧ ∀ p ∈ lp, lp = [p] := by
    by_cases hC : X.env.locals < L
    · exact ⟨[], fun p hp => (nomatch hp), fun _ => hC, fun p hp => (nomatch hp)⟩
    · obtain ⟨m, ⟨o, es, ep, ho, hd, _⟩, _⟩ := I.loc
      refine ⟨[(X.env.locals, o)], fun p hp => ?_, fun h => (nomatch h), fun p hp => by rw [List.mem_singleton.mp hp]⟩
      rw [List.mem_singleton.mp hp]
      exact ⟨rfl, Nat.le_of_not_lt hC, ho, fun v z => by rw [hd] at z; cases z⟩
  have nst : ∀ b, b ≠ X.env.locals → b ∉ X.fs → b ∉ frs X.stack := fun b h1 h2 hm => by
    rcases List.mem_cons.mp (I.stkSub b hm) with z | z
    · exact h1 z
    · exact h2 z
  obtain ⟨hns, hlen, hat⟩ := hlo
  have hLs : L < s.heap.objs.size := Heap.lt_size pinL.1
  have J0 : Inv (gc X N env Ad (cutS s L) H) (((a, go) :: (lp ++ (X.pn ++ pins))) ++ ip) σg H s := by
    refine Inv.enter I old ok h0 (Nat.le_of_lt hLs) (hat s.heap (by rw [hloc]; exact pinL.1)) hlen nc (by rw [hloc]; exact pinL.2.1) fun q hq => ?_
    have all : ∀ q : Addr × Obj, (s.heap.get? q.1 = some q.2 ∧ H q.1 = none ∧ q.1 ≠ X.env.locals ∧ q.1 ∉ X.fs ∧ ∀ v, q.2.data ≠ .cell v) → q.1 ≠ L → s.heap.get? q.1 = some q.2 ∧ H q.1 = none ∧ q.1 ≠ env.locals ∧ q.1 ∉ frs X.stack ∧ ∀ v, q.2.data ≠ .cell v :=
      fun q z h => ⟨z.1, z.2.1, by rw [hloc]; exact h, nst _ z.2.2.1 z.2.2.2.1, z.2.2.2.2⟩
    rcases List.mem_append.mp hq with hq | hq
    · rcases List.mem_cons.mp hq with hq | hq
      · rw [hq]; exact all (a, go) pinA naL
      rcases List.mem_append.mp hq with hq | hq
      · obtain ⟨z1, z2, z3, z4⟩ := lp1 q hq
        refine ⟨z3, by rw [z1]; exact I.free, ?_, fun h => absurd (Nat.lt_of_lt_of_le (old.fs _ h) z2) (Nat.lt_irrefl _), z4⟩
        rw [hloc, z1]
        exact Ne.symm pinL.2.2.1
      · exact all q (pinP q hq) (ap q hq (L, lo) (List.mem_cons_of_mem _ List.mem_cons_self))
    · exact all q (pinI q hq) (nip q hq).2.1
  have ds0 : Dis L ((a, go) :: (lp ++ (X.pn ++ pins))) ip := ⟨fun q hq => (nip q hq).1, fun q hq r hr => by
    rcases List.mem_cons.mp hq with hq | hq
    · rw [hq]; exact Ne.symm (nip r hr).2.2
    rcases List.mem_append.mp hq with hq | hq
    · rw [(lp1 q hq).1]; exact Ne.symm (pinI r hr).2.2.1
    · exact ap q hq r (List.mem_cons_of_mem _ (List.mem_cons_of_mem _ hr))⟩
  have still : ∀ {σ' : L2.St} {H' : Hp} {s₁ : Shared} {ip' : List (Addr × Obj)}, Inv (gc X N env Ad (cutS s L) H) (((a, go) :: (lp ++ (X.pn ++ pins))) ++ ip') σ' H' s₁ → Still X.env.locals s s₁ H' := fun {σ' H' s₁ ip'} J => by
    rcases lp2 with ⟨z, lp3⟩
    by_cases hl : lp = []
    · exact still_old (z hl) I.free (fun _ _ hb e => (cut_get hb).trans e) J
    · obtain ⟨q, hq⟩ := List.exists_mem_of_ne_nil _ hl
      obtain ⟨z1, _, z3, _⟩ := lp1 q hq
      obtain ⟨e1, e2, _⟩ := J.pin q (List.mem_append_right _ (List.mem_append_left _ (List.mem_cons_of_mem _ (List.mem_append_left _ hq))))
      rw [z1] at z3 e1 e2
      exact fun u e => by
        rw [z3] at e
        cases e
        exact ⟨_, e1, e2⟩
  have hgl : g < s.gens.size := (Array.getElem?_eq_some_iff.mp hgs).1
  have isA := hgo.is pinA.1
  refine wpAny_gsz (n := g + 1) hgl ?_
  refine next_g hh I.nolimit hroom isA hgs rd (slp (cutS s L) H _ (s.setGen g .running) H rt yd (cut_size (Nat.le_of_lt hLs)) (Inv.setGen J0 rfl) ds0 ht) (fun f s₁ q => ?_) (fun e s₁ q => q.elim) fun v g0 l κ c p fs s₁ q => ?_
  · obtain ⟨hf, σ', H', J, hq⟩ := q
    refine ⟨hf, fun h' hk _ => ⟨H', ?_, hq⟩⟩
    have K : Inv X pins σ H' s₁ := Inv.exit (s := s) I old J (still (ip' := []) (by rw [List.append_nil]; exact J)) fun q hq => by
      obtain ⟨e1, e2, _, _, e5⟩ := J.pin q (List.mem_append_right _ (List.mem_cons_of_mem _ (List.mem_append_right _ hq)))
      exact ⟨e1, e2, (pinP q hq).2.2.1, (pinP q hq).2.2.2.1, e5⟩
    exact (Inv.setGen (g := g) (x := .finished) K rfl).kept (t' := s₁.toks) hk
  · obtain ⟨hqt, x, H', tr', σ', ip', rv, J, ds, hy, slp'⟩ := q
    refine ⟨hqt, fun hsz => ⟨x, H', tr', ?_⟩⟩
    obtain ⟨lo', elo, hlo'⟩ := locO (X := X) J nc
    rw [hloc] at elo
    have jA := J.pin (a, go) (List.mem_append_right _ (List.mem_append_left _ List.mem_cons_self))
    have jI : ∀ q ∈ ip', _ := fun q hq => J.pin q (List.mem_append_right _ (List.mem_append_right _ hq))
    have nfs : ∀ b, L ≤ b → b ∉ X.fs := fun b hb z => by
      have h1 : b < L := old.fs b (by
        rcases I.ok.stk with e | ⟨e, hf⟩
        · rw [e]; exact z
        · rw [e]
          unfold frs
          rw [List.filterMap_cons, hf]
          exact List.mem_cons_of_mem _ z)
      exact absurd (Nat.lt_of_lt_of_le h1 hb) (Nat.lt_irrefl _)
    have nlo : ∀ q ∈ ip', q.1 ≠ X.env.locals := fun q hq z => by
      by_cases hl : lp = []
      · have h1 := lp2.1 hl
        have h2 := ds.1 q hq
        rw [z] at h2
        exact absurd (Nat.lt_of_lt_of_le h1 h2) (Nat.lt_irrefl _)
      · obtain ⟨r, hr⟩ := List.exists_mem_of_ne_nil _ hl
        exact ds.2 r (List.mem_cons_of_mem _ (List.mem_append_left _ hr)) q hq ((lp1 r hr).1.trans z.symm)
    refine ⟨(a, go) :: (L, lo') :: ip', rv, Inv.setGen (Inv.exit (s := s) I old J (still J) fun q hq => ?_) (by rw [End.bare_of_quiet hqt]), fun q hq r hr => ?_, fun G' kp => ⟨N, env, Ad, L, _, _, σ', ip', lo', go, _, c, _, fs, kp _ _ (setGen_at ?_) trivial, .inr ⟨κ, l, p, _, rfl, rfl⟩, rfl, hloc, J.ok, cut_size (Nat.le_of_lt hLs), nc, old, hgo, hlo', naL, fun q hq => ⟨ds.1 q hq, ?_, ?_⟩, slp'⟩, hy⟩
    · rw [← List.append_assoc] at hq
      rcases List.mem_append.mp hq with hq | hq
      · obtain ⟨e1, e2, _, _, e5⟩ := J.pin q (List.mem_append_right _ (List.mem_append_left _ (List.mem_cons_of_mem _ (List.mem_append_right _ hq))))
        exact ⟨e1, e2, (pinP q hq).2.2.1, (pinP q hq).2.2.2.1, e5⟩
      · rcases List.mem_cons.mp hq with hq | hq
        · rw [hq]
          exact ⟨jA.1, jA.2.1, pinA.2.2.1, pinA.2.2.2.1, jA.2.2.2.2⟩
        · rcases List.mem_cons.mp hq with hq | hq
          · rw [hq]
            exact ⟨elo, by rw [← hloc]; exact J.free, pinL.2.2.1, pinL.2.2.2.1, hlo'.1⟩
          · obtain ⟨e1, e2, _, _, e5⟩ := jI q hq
            exact ⟨e1, e2, nlo q hq, nfs _ (ds.1 q hq), e5⟩
    · rcases List.mem_cons.mp hr with hr | hr
      · rw [hr]; exact ap q hq (a, go) List.mem_cons_self
      · rcases List.mem_cons.mp hr with hr | hr
        · rw [hr]; exact ap q hq (L, lo) (List.mem_cons_of_mem _ List.mem_cons_self)
        · exact ds.2 q (List.mem_cons_of_mem _ (List.mem_append_right _ hq)) r hr
    · have q : (s₁.setGen g (End.susp v g0 l κ c p fs).genState).gens.size = s₁.gens.size := setGen_size _ _ _
      omega
    · rw [← hloc]; exact (jI q hq).2.2.1
    · exact Ne.symm (ds.2 (a, go) List.mem_cons_self q hq)
end
end EvG
namespace EvG
open PySem PySem.Spec PyProof.Rows L2 GenW
abbrev GD := ∀ k : Nat, Hp → (Hp → Prop) → (V → Hp → GTr k → Prop) → Prop
abbrev SpGn := List V → Hp → XK → GD → GD → Prop
def Born (P : Program) (w : World) (K : PySem.W.Frag) (mg : Str → Option Value) (base : Heap) (kk : Nat) (outer : List Env) (H : Hp) (s : Shared) (E : XK) (gd gd' : GD) (u : Value) (s' : Shared) : Prop :=
  ∃ (a : Addr) (g : Nat) (N : List Str) (env : Env) (c : Code) (go lo : Obj) (σ0 : L2.St), u = .ref a ∧ env.locals = s.heap.objs.size ∧ s.heap.objs.size < a ∧ a < s'.heap.objs.size ∧ s'.heap.get? a = some go ∧ GenO go g ∧ s'.gens[g]? = some (.fresh c) ∧ s'.os = s.os ∧ AllBare s'.gens ∧
    (∀ b o, s.heap.get? b = some o → s'.heap.get? b = some o) ∧ s'.heap.get? s.heap.objs.size = some lo ∧ LocO N env σ0 lo ∧ (∀ x c, env.cells.lookup x ≠ some c) ∧ s'.heap.NoLimit ∧
    (∀ (Aw : Around), Room kk Aw → Aw.guards = some [] → Aw.frames = some outer →
      (gx P w K mg base N env (Aw.deeper env) outer s H).Ok ∧
      (∀ (k : Nat) (rt : Hp → Prop) (yd : V → Hp → GTr k → Prop) (oth : List (Addr × Obj)) (s2 : Shared), (∀ b o, s'.heap.get? b = some o → s2.heap.get? b = some o) → s2.os = s.os → AllBare s2.gens →
        (∀ p ∈ oth, s2.heap.get? p.1 = some p.2 ∧ H p.1 = none ∧ p.1 ≠ s.heap.objs.size ∧ p.1 ∉ frs outer ∧ ∀ v, p.2.data ≠ .cell v) → gd k H rt yd →
        SegP (model P w) Aw (EndW s.heap.objs.size k (Slp (model P w) Aw s.heap.objs.size (gx P w K mg base N env (Aw.deeper env) outer) k) (gx P w K mg base N env (Aw.deeper env) outer s H) ((a, go) :: oth) rt yd fun e s1 => L2.CX P w outer H s E e s1 ∧ s1.heap.get? a = some go) c ((model P w).den c) [] s2) ∧
      ∀ k, Slp (model P w) Aw s.heap.objs.size (gx P w K mg base N env (Aw.deeper env) outer) (k + 1) (gd' k) σ0 [] c ((model P w).den c) [])
structure GnOk (P : Program) (w : World) (K : PySem.W.Frag) (mg : Str → Option Value) (base : Heap) (kk : Nat) (f : Addr) (fd : FuncData) (ps : List Str) (sp : SpGn) : Prop where
  len : ∀ vs H E gd gd', sp vs H E gd gd' → vs.length = ps.length
  run : ∀ (A : Around) (outer : List Env) (s : Shared) (H : Hp) (args : Args) (us : List Value) (vs : List V) (E : XK) (gd gd' : GD), A.guards = some [] → Room kk A → Env0 P w K mg base A outer s H → BindsTo s fd args (ps.zip us) → Vals vs us → sp vs H E gd gd' →
    codeAny (model P w) A (.call (.ref f) args) (fun r s' => match r with | .ok (.ret u) => Born P w K mg base kk outer H s E gd gd' u s' | _ => False) s
theorem sp_func {P : Program} {w : World} {A : Around} {Φ : End → Shared → Prop} {fs : List Frame} {s : Shared} {env : Env} {body : List Stmt}
    (h : SegP (model P w) A Φ (.func body env) ((execs body env).wrap (fun f => .pure (.done (.ret (match f with | .ret v => v | _ => .none)))) (fun e => (leaving env e).wrap (fun _ => .raise e) .raise id id) id id) fs s) : SegP (model P w) A Φ (.func body env) ((model P w).den (.func body env)) fs s := by
  show SegP _ A Φ (.func body env) (.point [] fun _ => ((execs body env).onRaise (leaving env)) >>= _) fs s
  refine sp_point ?_
  rw [Sem.onRaise_eq_wrap, Sem.bind_eq_wrap', Sem.wrap_wrap, Sem.wrap_congr (execs body env) _ _ (K' := fun f => .pure (.done (.ret (match f with | .ret v => v | _ => .none)))) (H' := fun e => (leaving env e).wrap (fun _ => .raise e) .raise id id) (fun f => by cases f <;> rfl) fun e => by rw [Sem.bind_eq_wrap, Sem.wrap_wrap]; rfl]
  exact h
def Kend : GK := fun _ _ H r _ => r H
def gdB (tp : TS) (tl : TGs2) (σ : L2.St) : GD := fun k H r y => tp { nx := fun σ' H' => tl Kend k σ' H' r y, rt := fun _ _ => False } σ H
theorem cells_no : ∀ {names : List (Str × NameKind)} {n : Nat} {acc : List (Str × Addr)}, (∀ y ∈ names, y.2 ≠ .cell) → cellsFrom n names acc = acc
  | [], _, _, _ => rfl
  | (x, kd) :: r, n, acc, h => by
    have h1 : (kd == NameKind.cell) = false := by
      have := h (x, kd) List.mem_cons_self
      cases kd <;> first | rfl | exact (this rfl).elim
    unfold cellsFrom
    rw [if_neg (by rw [h1]; exact Bool.false_ne_true)]
    exact cells_no fun y hy => h y (List.mem_cons_of_mem _ hy)
def scG (N P : List Str) (sc : Scope) : Bool :=
  decide (sc.kind = .function) && !sc.isCoroutine && sc.isGenerator && decide N.Nodup && decide (N.take P.length = P) && P.all (fun x => decide (sc.names.lookup x = some .local)) && sc.names.all (fun y => !decide (y.2 = .free) && !decide (y.2 = .cell))
theorem gscope_by {N P : List Str} {sc : Scope} (h : scG N P sc = true) : GScope N P sc ∧ ∀ y ∈ sc.names, y.2 ≠ .cell := by
  unfold scG at h
  simp only [Bool.and_eq_true, Bool.not_eq_true', decide_eq_true_eq, List.all_eq_true, decide_eq_false_iff_not] at h
  obtain ⟨⟨⟨⟨⟨⟨a1, a2⟩, a3⟩, a4⟩, a5⟩, a6⟩, a7⟩ := h
  exact ⟨⟨a1, a2, a3, a4, a5, fun x hx => .inl (a6 x hx), fun y hy => (a7 y hy).1⟩, fun y hy => (a7 y hy).2⟩
section
variable {P : Program} {w : World} {K : PySem.W.Frag} {mg : Str → Option Value} {base : Heap} {N : List Str} {qual : Str} {scope : Scope} {f : Addr} {cdv : Value} {A : Around} {outer : List Env} {s s' : Shared} {H H' : Hp} {E : XK} {pn pins : List (Addr × Obj)} {σ : L2.St}
theorem toGx (I : Inv (gcxOf P w K mg base N qual scope f cdv A outer s H E pn) pins σ H' s') : Inv (gx P w K mg base N (envOfC qual scope s.heap.objs.size f cdv) (A.deeper (envOfC qual scope s.heap.objs.size f cdv)) outer s H) (pn ++ pins) σ H' s' :=
  ⟨⟨I.ok.mod, I.ok.kind, I.ok.glob, I.ok.blt, I.ok.above, I.ok.inj, I.ok.has, I.ok.cab, I.ok.hd, I.ok.frames, I.ok.stk, I.ok.exf, I.ok.bs, I.ok.bsz, I.ok.noex, I.ok.exfs, I.ok.funs, I.ok.frf⟩, I.os, I.bare, I.base, I.loc, I.cell, I.free, I.freeC, I.pin, I.hok, I.len⟩
theorem locG {env : Env} {Ad : Around} {s0 : Shared} {H0 : Hp} (I : Inv (gx P w K mg base N env Ad outer s0 H0) pins σ H s) (nc : ∀ x c, env.cells.lookup x ≠ some c) : ∃ lo, s.heap.get? env.locals = some lo ∧ LocO N env σ lo := by
  obtain ⟨m, ⟨o, es, ep, ho, hd, r⟩, hl⟩ := I.loc
  refine ⟨o, ho, fun v z => (by rw [hd] at z; cases z), I.len, fun h e => ⟨m, ⟨o, es, ep, e, hd, r⟩, fun i x v e1 e2 e3 => ?_⟩⟩
  obtain ⟨u, ru, lu⟩ := hl i x v e1 e2 e3
  refine ⟨u, ru, lu.imp id fun ⟨_, c, e, _⟩ => (nc x c e).elim⟩
end
theorem gnok {P : Program} {w : World} {K : PySem.W.Frag} {mg : Str → Option Value} {base : Heap} {x qual : Str} {st : Stmt} {f : Addr} {fd : FuncData} {N ps : List Str} {kk : Nat} {sp : SpGn} {pre loop : List Stmt} (hbd : C8.fnBody st = pre ++ loop)
    (F : Ev.Fn K x qual st f fd) (S : GScope N ps (C8.fnScope st)) (nc : ∀ y ∈ (C8.fnScope st).names, y.2 ≠ .cell) (len : ∀ vs H E gd gd', sp vs H E gd gd' → vs.length = ps.length)
    (hbody : ∀ (cdv : Value) (A : Around) (outer : List Env) (L : Addr) (H : Hp) (vs : List V) (E : XK) (gd gd' : GD), fd.code = cdv → (A.deeper (envOfC qual (C8.fnScope st) L f cdv)).guards = some [] → Room kk (A.deeper (envOfC qual (C8.fnScope st) L f cdv)) → sp vs H E gd gd' →
      ∃ tp tp0 tl, (∀ (s : Shared) (pn : List (Addr × Obj)), s.heap.objs.size = L → (A.deeper (envOfC qual (C8.fnScope st) s.heap.objs.size f cdv)).guards = some [] → Room kk (A.deeper (envOfC qual (C8.fnScope st) s.heap.objs.size f cdv)) → PSs (gcxOf P w K mg base N qual (C8.fnScope st) f cdv A outer s H E pn) pre tp) ∧
        (All P w K mg base N (envOfC qual (C8.fnScope st) L f cdv) (A.deeper (envOfC qual (C8.fnScope st) L f cdv)) outer L fun X => PSs X pre tp0) ∧ GZs P w K mg base N (envOfC qual (C8.fnScope st) L f cdv) (A.deeper (envOfC qual (C8.fnScope st) L f cdv)) outer L loop tl ∧
        (∀ k r y, gd k H r y → gdB tp tl (start N vs) k H r y) ∧ ∀ k H' r y, gd' k H' r y → gdB tp0 tl (start N vs) k H' r y) :
    GnOk P w K mg base (kk + 1) f fd ps sp := by
  obtain ⟨oc, od, dV, kV, doc, pm, an, cdv, ct, osl, rfl, lk, hcd⟩ := F.ex
  refine ⟨len, fun A outer s H args us vs E gd gd' hgd hr e0 hb r hsp => ?_⟩
  have hl := len _ _ _ _ _ hsp
  have KX : K.In s.heap := e0.mod.kin.keeps (fun b o z => (e0.bs b o z).1)
  have lim : s.heap.NoLimit := e0.mod.nolimit.keeps (fun b o z => (e0.bs b o z).1)
  have kinds : ∀ y ∈ ps.zip us, (C8.fnScope st).names.lookup y.1 = some .local ∨ ((C8.fnScope st).names.lookup y.1 = some .cell ∧ ((cellsFrom (s.heap.objs.size + 1) (C8.fnScope st).names []).lookup y.1).isSome = true) := fun ⟨n, v⟩ hy => by
    rcases S.par n (List.of_mem_zip hy).1 with z | z
    · exact .inl z
    · exact (nc _ (PySem.mem_of_lookup z) rfl).elim
  refine codeAny_call_generator hr.depth (KX _ _ lk) rfl S.co S.gen rfl (PySem.W.codeRec_of KX hcd) (hb _ _ _ _ ?_)
  refine wpAny_newFunctionEnv_cells S.kind kinds fun env he s1 x => ?_
  subst he
  obtain ⟨h1, tk, es1, hk1⟩ := x.done
  have os1 : s1.os = s.os := by rw [es1]
  have gen1 : s1.gens = s.gens := by rw [es1]
  have lt1 : s.heap.objs.size < s1.heap.objs.size := x.toInCall.ns.lt
  have kp1 : ∀ b o, s.heap.get? b = some o → s1.heap.get? b = some o := x.toInCall.keep
  refine ⟨lim.keeps kp1, ?_⟩
  have nce : ∀ (y : Str) (c : Addr), (envOfC qual (C8.fnScope st) s.heap.objs.size f cdv).cells.lookup y ≠ some c := fun y c e => by
    have e' : (cellsFrom (s.heap.objs.size + 1) (C8.fnScope st).names []).lookup y = some c := e
    rw [cells_no nc] at e'
    cases e'
  have main : ∀ (go : Obj) (nm qn : Value) (tk2 : Nat), go.cls = .type "generator" → go.data = .fields #[.int s1.gens.size 0, nm, qn] → go.slots = #[] → (∀ h : Heap, (h.push go).get? h.objs.size = some go) →
      Born P w K mg base (kk + 1) outer H s E gd gd' (.ref s1.heap.objs.size) { s1 with gens := s1.gens.push (.fresh (.func (C8.fnBody st) (envOfC qual (C8.fnScope st) s.heap.objs.size f cdv))), toks := tk2, heap := s1.heap.push go } := by
    intro go nm qn tk2 g1 g2 g3 gp
    have I0 := inv_startG (E := E) S hr.hd e0 hl r x
    obtain ⟨lo, elo, hlo⟩ := locG (toGx I0) nce
    have elo : s1.heap.get? s.heap.objs.size = some lo := elo
    have young : ∀ b, s1.heap.objs.size ≤ b → H b = none ∧ b ≠ s.heap.objs.size ∧ b ∉ frs outer := fun b hb => ⟨I0.hok.fresh hb, Nat.ne_of_gt (Nat.lt_of_lt_of_le lt1 hb), I0.nofs hb⟩
    refine ⟨s1.heap.objs.size, s1.gens.size, N, envOfC qual (C8.fnScope st) s.heap.objs.size f cdv, _, go, lo, start N vs, rfl, rfl, lt1, ?_, gp _, ⟨nm, qn, g1, g2, g3⟩, Array.getElem?_push_size .., os1, AllBare.push (by rw [gen1]; exact e0.bare) rfl, fun b o e => Heap.get?_push_of_some _ (kp1 b o e), Heap.get?_push_of_some _ elo, hlo, nce, (lim.keeps kp1).keeps fun b o e => Heap.get?_push_of_some _ e, fun Aw hrw hgw hfw => ?_⟩
    · show _ < (s1.heap.push go).objs.size
      rw [Heap.size_push]
      exact Nat.lt_succ_self _
    have e0w : Env0 P w K mg base Aw outer s H := ⟨hfw, e0.mod, e0.bs, e0.bsz, e0.funs, e0.frf, e0.hok, e0.bare⟩
    have I1 := inv_startG (E := E) S hrw.hd e0w hl r x
    obtain ⟨tp, tp0, tl, hp, hp0, hz, hg, hg'⟩ := hbody cdv Aw outer s.heap.objs.size H vs E gd gd' rfl hgw (hrw.deeper _) hsp
    have pl : Place Aw (Aw.deeper (envOfC qual (C8.fnScope st) s.heap.objs.size f cdv)) (.func (C8.fnBody st) (envOfC qual (C8.fnScope st) s.heap.objs.size f cdv)) [] id := ⟨over_func, rfl, rfl, rfl⟩
    have ce : Cont P w K mg base N (envOfC qual (C8.fnScope st) s.heap.objs.size f cdv) (Aw.deeper (envOfC qual (C8.fnScope st) s.heap.objs.size f cdv)) outer s.heap.objs.size Aw [] (.func (C8.fnBody st) (envOfC qual (C8.fnScope st) s.heap.objs.size f cdv)) [] (.pure (.done (.ret .none))) Kend :=
      fun k s0 H0 oth σ H s rt yd er hL I ds h => sp_end (.ok (.ret .none)) ⟨.inl rfl, σ, H, by rw [List.append_nil] at I; exact I, h⟩
    refine ⟨(toGx I1).ok, fun k rt yd oth s2 hk2 hos hba hoth h => ?_, fun k => ?_⟩
    · refine sp_func ?_
      rw [hbd, PySem.W.execs_app_wrap]
      refine sp_wrap ?_
      rw [show Aw.over (.func (pre ++ loop) (envOfC qual (C8.fnScope st) s.heap.objs.size f cdv)) [] = _ from over_func]
      have kp2 : ∀ b o, s1.heap.get? b = some o → s2.heap.get? b = some o := fun b o e => hk2 b o (Heap.get?_push_of_some _ e)
      have I2 := I1.call' (ch := []) (hos.trans os1.symm) (Un.kept kp2) (I1.hok.kept kp2) hba fun b z => (nomatch z)
      have I3 : Inv (gcxOf P w K mg base N qual (C8.fnScope st) f cdv Aw outer s H E [(s1.heap.objs.size, go)]) oth (start N vs) H s2 := Inv.pinnedG I2 fun p hp => by
        rcases List.mem_append.mp hp with z | z
        · rw [List.mem_singleton.mp z]
          obtain ⟨y1, y2, y3⟩ := young s1.heap.objs.size (Nat.le_refl _)
          exact ⟨hk2 _ _ (gp _), y1, y2, y3, fun v q => by rw [g2] at q; cases q⟩
        · exact hoth p z
      refine wpAny_mono ((hp s [(s1.heap.objs.size, go)] rfl hgw (hrw.deeper _)).run oth s2 (start N vs) H _ I3 (hg k rt yd h)) (fun fl s3 q => ?_) fun e s3 q => ?_
      · cases fl with
        | next =>
          obtain ⟨σ3, H3, I4, q⟩ := q
          have := hz.run Aw Kend [] (.func (C8.fnBody st) (envOfC qual (C8.fnScope st) s.heap.objs.size f cdv)) [] (fun f => .pure (.done (.ret (match f with | .ret v => v | _ => .none)))) (fun e => (leaving (envOfC qual (C8.fnScope st) s.heap.objs.size f cdv) e).wrap (fun _ => .raise e) .raise id id) id id pl ce k s H ((s1.heap.objs.size, go) :: oth) σ3 H3 s3 rt yd (fun e s1' => L2.CX P w outer H s E e s1' ∧ s1'.heap.get? s1.heap.objs.size = some go) rfl (by rw [List.append_nil]; exact toGx I4) ⟨fun q z => (nomatch z), fun p _ q z => (nomatch z)⟩ q
          rw [hbd] at this
          exact this
        | brk => obtain ⟨_, _, _, q⟩ := q; exact q.elim
        | cont => obtain ⟨_, _, _, q⟩ := q; exact q.elim
        | ret u => obtain ⟨_, _, _, _, _, q⟩ := q; exact q.elim
      · refine sp_wrap ?_
        rw [show Aw.over (.func (pre ++ loop) (envOfC qual (C8.fnScope st) s.heap.objs.size f cdv)) [] = _ from over_func]
        refine wpAny_mono (show wpAny (model P w) (Aw.deeper (envOfC qual (C8.fnScope st) s.heap.objs.size f cdv)) (leaving (envOfC qual (C8.fnScope st) s.heap.objs.size f cdv) e) (fun _ s'' => L2.CX P w outer H s E e s'' ∧ ∀ p ∈ [(s1.heap.objs.size, go)], s''.heap.get? p.1 = some p.2) (fun _ _ => False) s3 from q) (fun _ s4 q => sp_end (.error e) ⟨q.1, q.2 _ List.mem_cons_self⟩) fun _ _ q => q.elim
    · intro s0 H0 oth s2 H2 rt yd hL I ds h
      refine sp_func ?_
      rw [hbd, PySem.W.execs_app_wrap]
      refine sp_wrap ?_
      rw [show Aw.over (.func (pre ++ loop) (envOfC qual (C8.fnScope st) s.heap.objs.size f cdv)) [] = _ from over_func]
      rw [List.append_nil] at I
      refine wpAny_mono ((hp0 s0 H0 hL).run oth s2 (start N vs) H2 _ I (hg' k H2 rt yd h)) (fun fl s3 q => ?_) fun e s3 q => q.elim
      cases fl with
      | next =>
        obtain ⟨σ3, H3, I4, q⟩ := q
        have := hz.run Aw Kend [] (.func (C8.fnBody st) (envOfC qual (C8.fnScope st) s.heap.objs.size f cdv)) [] (fun f => .pure (.done (.ret (match f with | .ret v => v | _ => .none)))) (fun e => (leaving (envOfC qual (C8.fnScope st) s.heap.objs.size f cdv) e).wrap (fun _ => .raise e) .raise id id) id id pl ce k s0 H0 oth σ3 H3 s3 rt yd (fun _ _ => False) hL (by rw [List.append_nil]; exact I4) ⟨fun q z => (nomatch z), fun p _ q z => (nomatch z)⟩ q
        rw [hbd] at this
        exact this
      | brk => obtain ⟨_, _, _, q⟩ := q; exact q.elim
      | cont => obtain ⟨_, _, _, q⟩ := q; exact q.elim
      | ret u => obtain ⟨_, _, _, _, _, q⟩ := q; exact q.elim
  exact main _ _ _ _ rfl rfl rfl fun h => Heap.get?_push_size _ rfl
end EvG
namespace EvG
open PySem PySem.Spec PyProof.Rows L2 GenW
theorem Room.in1 {k : Nat} {A : Around} (r : Room (k + 1) A) : Room k A.in1 := by
  refine ⟨r.hd, ?_, ?_⟩
  · have := r.dp
    show A.depth + 3 * k + 5 < _
    omega
  · have := r.un
    show A.units + 1 + 16 * k + 200 < _
    omega
section
variable {X : Cx} {pins : List (Addr × Obj)} {σ : L2.St} {H : Hp} {s : Shared}
theorem Inv.older (I : Inv X pins σ H s) : Older X s.heap.objs.size := ⟨I.sz, fun b hb => by
  rcases List.mem_cons.mp (I.stkSub b hb) with z | z
  · rw [z]; exact I.lt
  · obtain ⟨_, u, hu, _⟩ := I.ok.funs.mem z
    exact Nat.lt_of_lt_of_le (Heap.lt_size hu) I.sz, fun x c e => by
  obtain ⟨v, o, ho, _⟩ := I.cell x c e
  exact Heap.lt_size ho⟩
theorem wakeR {A : Around} {kk k : Nat} {E : XK} {gd gd' : GD} {a : Addr} {rt : Hp → Prop} {yd : V → Hp → GTr k → Prop} {s' s2 : Shared} {xp : List (Addr × Obj)} (hh : A.handled = none) (hroom : A.depth < recursionLimit) (hrm : Room kk A.in1) (hgd : A.in1.guards = some []) (hx : Passes (L2.CX X.prog X.w) X E) (hns : NoStop X.K E) (hfr : A.in1.frames = some X.stack)
    (I : Inv X pins σ H s) (B : Born X.prog X.w X.K X.mg X.base kk X.stack H s E gd gd' (.ref a) s') (k2 : ∀ b o, s'.heap.get? b = some o → s2.heap.get? b = some o) (os2 : s2.os = s.os) (g2 : s2.gens = s'.gens)
    (hxp : ∀ p ∈ xp, s2.heap.get? p.1 = some p.2 ∧ s'.heap.objs.size ≤ p.1 ∧ ∀ v, p.2.data ≠ .cell v) (ht : gd k H rt yd) {Out : List (Addr × Obj) → Hp → Shared → Prop}
    (out : ∀ (N : List Str) (env : Env) (Ad : Around) (σg : L2.St) (H' : Hp) (s1 : Shared) (go : Obj) (ip gp : List (Addr × Obj)), Inv (gc X N env Ad s H) (((a, go) :: ((X.pn ++ pins) ++ xp)) ++ ip) σg H' s1 →
      (∀ q ∈ gp, s1.heap.get? q.1 = some q.2 ∧ H' q.1 = none ∧ s.heap.objs.size ≤ q.1 ∧ (∀ v, q.2.data ≠ .cell v) ∧ ∀ p ∈ (X.pn ++ pins) ++ xp, p.1 ≠ q.1) → Out gp H' s1)
    (okept : ∀ H' s1 h' t', Out [] H' s1 → (∀ b o, s1.heap.get? b = some o → h'.get? b = some o) → Out [] H' { s1 with heap := h', toks := t' })
    (ogens : ∀ gp H' s1 g x, Out gp H' s1 → x.bare = true → Out gp H' (s1.setGen g x)) :
    wpAny (model X.prog X.w) A (pyNext (.ref a)) (fun r s1 => match r with
      | none => ∃ H', Out [] H' s1 ∧ rt H'
      | some v => ∃ x H' tr' gp' g, RelV x v ∧ Out gp' H' s1 ∧ (∃ lo go ip, gp' = (a, go) :: (s.heap.objs.size, lo) :: ip) ∧ Apt X (pins ++ xp) gp' ∧ (∀ G', GenF.Kept s1.gens G' → Gen X A.in1 k tr' a g gp' G') ∧ yd x H' tr') X.xe s2 := by
  obtain ⟨a', g, N, env, c, go, lo, σ0, ea, hloc, hLa, haS, ego, hgo, hgs, os', bare', kp', elo, hlo, nc, nl, mk⟩ := B
  cases ea
  obtain ⟨ok, hU, _⟩ := mk A.in1 hrm hgd hfr
  have old := Inv.older I
  have kp2 : ∀ b o, s.heap.get? b = some o → s2.heap.get? b = some o := fun b o e => k2 b o (kp' b o e)
  have nst : ∀ b, b ≠ X.env.locals → b ∉ X.fs → b ∉ frs X.stack := fun b h1 h2 hm => by
    rcases List.mem_cons.mp (I.stkSub b hm) with z | z
    · exact h1 z
    · exact h2 z
  have fsL := old.fs
  have far : ∀ b, s.heap.objs.size ≤ b → b ≠ X.env.locals ∧ b ∉ X.fs ∧ b ∉ frs X.stack := fun b hb => by
    have h1 : b ≠ X.env.locals := fun z => by
      have := I.lt
      rw [← z] at this
      exact absurd (Nat.lt_of_lt_of_le this hb) (Nat.lt_irrefl _)
    have h2 : b ∉ frs X.stack := fun z => absurd (Nat.lt_of_lt_of_le (fsL b z) hb) (Nat.lt_irrefl _)
    refine ⟨h1, fun z => h2 ?_, h2⟩
    rcases I.ok.stk with e | ⟨e, hf⟩
    · rw [e]; exact z
    · rw [e]
      unfold frs
      rw [List.filterMap_cons, hf]
      exact List.mem_cons_of_mem _ z
  have pinP : ∀ q ∈ X.pn ++ pins, _ := fun q hq => I.pin q hq
  have ltP : ∀ q ∈ X.pn ++ pins, q.1 < s.heap.objs.size := fun q hq => Heap.lt_size (pinP q hq).1
  have geX : ∀ q ∈ xp, s.heap.objs.size ≤ q.1 := fun q hq => Nat.le_trans (Nat.le_of_lt (Nat.lt_trans hLa haS)) (hxp q hq).2.1
  have bare2 : AllBare s2.gens := by rw [g2]; exact bare'
  have hgs2 : s2.gens[g]? = some (.fresh c) := by rw [g2]; exact hgs
  have hgl : g < s2.gens.size := (Array.getElem?_eq_some_iff.mp hgs2).1
  have seg := hU k rt yd ((X.pn ++ pins) ++ xp) (s2.setGen g .running) k2 os2 (allBare_setGen bare2 rfl) (fun p hp => by
    rcases List.mem_append.mp hp with z | z
    · obtain ⟨e1, e2, e3, e4, e5⟩ := pinP p z
      exact ⟨kp2 _ _ e1, e2, Nat.ne_of_lt (ltP p z), nst _ e3 e4, e5⟩
    · obtain ⟨e1, e2, e3⟩ := hxp p z
      exact ⟨e1, I.hok.fresh (geX p z), fun q => by
        have := Nat.lt_of_lt_of_le (Nat.lt_trans hLa haS) e2
        rw [q] at this
        exact Nat.lt_irrefl _ this, (far _ (geX p z)).2.2, e3⟩) ht
  refine wpAny_gsz (n := g + 1) hgl ?_
  refine next_g hh (nl.keeps k2) hroom (hgo.is (k2 _ _ ego)) hgs2 (.inl ⟨rfl, rfl, rfl⟩) seg (fun f s₁ q => ?_) (fun e s₁ q => ?_) fun v g0 l κ c p fs s₁ q => ?_
  · obtain ⟨hf, σ', H', J, hq⟩ := q
    refine ⟨hf, fun h' hk _ => ⟨H', ?_, hq⟩⟩
    exact okept _ _ h' s₁.toks (ogens _ _ _ g .finished (out N env _ σ' H' s₁ go [] [] (by rw [List.append_nil]; exact J) fun q hq => (nomatch hq)) rfl) hk
  · obtain ⟨q1, q2⟩ := q
    have kin : X.K.In s₁.heap := by
      obtain ⟨_, B, H', cls, d, _, fl, _, ub, _⟩ := id q1
      refine I.ok.mod.kin.keeps fun b o eb => fl.1 b o (ub.keep b o (I.bs b o eb).1 (I.bs b o eb).2 fun hm => ?_)
      rcases List.mem_cons.mp (I.stkSub b hm) with z | z
      · have h1 := Nat.lt_of_lt_of_le (Heap.lt_size eb) (Nat.le_trans I.ok.bsz I.ok.above)
        rw [z] at h1
        exact Nat.lt_irrefl _ h1
      · exact I.ok.nofr eb z
    refine ⟨hgo.is q2, notStop_of hns kin q1, fun _ => hx pins σ H s e _ I ?_⟩
    obtain ⟨a, B, H', cls, d, z1, fl, z2, ub, z3, z4, z5, z6⟩ := q1
    exact ⟨a, B, H', cls, d, z1, fl, z2, ub, z3, z4, allBare_setGen z5 rfl, z6⟩
  · obtain ⟨hqt, x, H', tr', σ', ip', rv, J, ds, hy, slp'⟩ := q
    refine ⟨hqt, fun hsz => ⟨x, H', tr', ?_⟩⟩
    obtain ⟨lo', elo', hlo'⟩ := locO (X := X) J nc
    rw [hloc] at elo'
    have jI : ∀ q ∈ ip', _ := fun q hq => J.pin q (List.mem_append_right _ (List.mem_append_right _ hq))
    have jO : ∀ q ∈ (a, go) :: ((X.pn ++ pins) ++ xp), _ := fun q hq => J.pin q (List.mem_append_right _ (List.mem_append_left _ hq))
    have apt : ∀ q ∈ (X.pn ++ pins) ++ xp, ∀ r ∈ (a, go) :: (s.heap.objs.size, lo') :: ip', q.1 ≠ r.1 := fun q hq r hr => by
      rcases List.mem_cons.mp hr with hr | hr
      · rw [hr]
        rcases List.mem_append.mp hq with z | z
        · exact Nat.ne_of_lt (Nat.lt_trans (ltP q z) hLa)
        · exact Nat.ne_of_gt (Nat.lt_of_lt_of_le haS (hxp q z).2.1)
      · rcases List.mem_cons.mp hr with hr | hr
        · rw [hr]
          rcases List.mem_append.mp hq with z | z
          · exact Nat.ne_of_lt (ltP q z)
          · exact Nat.ne_of_gt (Nat.lt_of_lt_of_le (Nat.lt_trans hLa haS) (hxp q z).2.1)
        · exact ds.2 q (List.mem_cons_of_mem _ hq) r hr
    refine ⟨(a, go) :: (s.heap.objs.size, lo') :: ip', g, rv, ogens _ _ _ g _ (out N env _ σ' H' s₁ go ip' _ J fun q hq => ?_) (End.bare_of_quiet hqt), ⟨lo', go, ip', rfl⟩, fun q hq r hr => apt q (by rw [List.append_assoc]; exact hq) r hr, fun G' kp => ⟨N, env, _, s.heap.objs.size, _, _, σ', ip', lo', go, _, c, _, fs, kp _ _ (setGen_at ?_) trivial, .inr ⟨κ, l, p, _, rfl, rfl⟩, rfl, hloc, J.ok, rfl, nc, old, hgo, hlo', Nat.ne_of_gt hLa, fun q hq => ⟨ds.1 q hq, ?_, ?_⟩, slp'⟩, hy⟩
    · refine ⟨?_, ?_, ?_, ?_, fun p hp => apt p hp q hq⟩ <;> rcases List.mem_cons.mp hq with hq | hq <;> (try (rcases List.mem_cons.mp hq with hq | hq)) <;> (try rw [hq])
      · exact (jO (a, go) List.mem_cons_self).1
      · exact elo'
      · exact (jI q hq).1
      · exact (jO (a, go) List.mem_cons_self).2.1
      · rw [← hloc]; exact J.free
      · exact (jI q hq).2.1
      · exact Nat.le_of_lt hLa
      · exact Nat.le_refl _
      · exact ds.1 q hq
      · exact (jO (a, go) List.mem_cons_self).2.2.2.2
      · exact hlo'.1
      · exact (jI q hq).2.2.2.2
    · have q : (s₁.setGen g (End.susp v g0 l κ c p fs).genState).gens.size = s₁.gens.size := setGen_size _ _ _
      omega
    · rw [← hloc]; exact (jI q hq).2.2.1
    · exact Ne.symm (ds.2 (a, go) List.mem_cons_self q hq)
theorem wake0 {A : Around} {kk k : Nat} {E : XK} {gd gd' : GD} {a : Addr} {rt : Hp → Prop} {yd : V → Hp → GTr k → Prop} {s' s2 : Shared} {xp : List (Addr × Obj)} (hh : A.handled = none) (hroom : A.depth < recursionLimit) (hrm : Room kk A.in1) (hgd : A.in1.guards = some []) (hx : Passes (L2.CX X.prog X.w) X E) (hns : NoStop X.K E) (hfr : A.in1.frames = some X.stack)
    (I : Inv X pins σ H s) (B : Born X.prog X.w X.K X.mg X.base kk X.stack H s E gd gd' (.ref a) s') (k2 : ∀ b o, s'.heap.get? b = some o → s2.heap.get? b = some o) (os2 : s2.os = s.os) (g2 : s2.gens = s'.gens)
    (hxp : ∀ p ∈ xp, s2.heap.get? p.1 = some p.2 ∧ s'.heap.objs.size ≤ p.1 ∧ ∀ v, p.2.data ≠ .cell v) (ht : gd k H rt yd) :
    wpAny (model X.prog X.w) A (pyNext (.ref a)) (fun r s1 => match r with
      | none => ∃ H', Inv X (pins ++ xp) σ H' s1 ∧ rt H'
      | some v => ∃ x H' tr' gp' g, RelV x v ∧ Inv X ((pins ++ xp) ++ gp') σ H' s1 ∧ Apt X (pins ++ xp) gp' ∧ (∀ G', GenF.Kept s1.gens G' → Gen X A.in1 k tr' a g gp' G') ∧ yd x H' tr') X.xe s2 := by
  have sz : s.heap.objs.size ≤ s'.heap.objs.size := by
    obtain ⟨a', _, _, _, _, _, _, _, _, _, h1, h2, _⟩ := id B
    exact Nat.le_of_lt (Nat.lt_trans h1 h2)
  have nfs : ∀ b, s.heap.objs.size ≤ b → b ∉ X.fs := fun b hb => I.nofs hb
  have nlo : ∀ b, s.heap.objs.size ≤ b → b ≠ X.env.locals := fun b hb => Nat.ne_of_gt (Nat.lt_of_lt_of_le I.lt hb)
  refine thn (wakeR (Out := fun gp H' s1 => Inv X ((pins ++ xp) ++ gp) σ H' s1) hh hroom hrm hgd hx hns hfr I B k2 os2 g2 hxp ht (fun N env Ad σg H' s1 go ip gp J hgp => ?_) (fun H' s1 h' t' O hk => O.kept hk) (fun gp H' s1 g x O hb => Inv.setGen O hb)) fun r s1 q => ?_
  · refine Inv.exit0 (s0 := s) I (Inv.older I) (fun _ _ _ e => e) rfl J (still_old I.lt I.free (fun _ _ _ e => e) J) fun q hq => ?_
    rw [← List.append_assoc, ← List.append_assoc] at hq
    rcases List.mem_append.mp hq with hq | hq
    · obtain ⟨e1, e2, _, _, e5⟩ := J.pin q (List.mem_append_right _ (List.mem_append_left _ (List.mem_cons_of_mem _ hq)))
      refine ⟨e1, e2, ?_⟩
      rcases List.mem_append.mp hq with z | z
      · exact ⟨(I.pin q z).2.2.1, (I.pin q z).2.2.2.1, e5⟩
      · exact ⟨nlo _ (Nat.le_trans sz (hxp q z).2.1), nfs _ (Nat.le_trans sz (hxp q z).2.1), e5⟩
    · obtain ⟨e1, e2, e3, e4, _⟩ := hgp q hq
      exact ⟨e1, e2, nlo _ e3, nfs _ e3, e4⟩
  · cases r with
    | none => obtain ⟨H', O, q⟩ := q; exact ⟨H', by rw [List.append_nil] at O; exact O, q⟩
    | some v => obtain ⟨x, H', tr', gp', g, rv, O, _, ap, hG, hy⟩ := q; exact ⟨x, H', tr', gp', g, rv, O, ap, hG, hy⟩
end
end EvG
namespace EvG
open PySem PySem.Spec PyProof.Rows L2 GenW
open GenF (Sim Kept sleepers dead withG)
theorem hideS {α : Type} {M : Model} {A : Around} {t : Sem α} {Q : α → Shared → Prop} {E : Value → Shared → Prop} {s : Shared} (h : wpAny M A t Q E (withG s (s.gens.map dead))) :
    wpAny M A t (fun a s' => ∃ g', Q a (withG s' g') ∧ Kept s.gens s'.gens ∧ (AllBare g' → AllBare s'.gens)) (fun e s' => ∃ g', E e (withG s' g') ∧ Sim (sleepers s.gens) g' s'.gens) s := fun Γ p hΓ => by
  have hs := GenF.sim_dead s.gens
  refine Sem.wp_mono M Γ t (fun a p' s' q => ?_) (fun e p' s' q => q) p s (GenF.wp_sim (D := sleepers s.gens) t _ _ p (withG s (s.gens.map dead)) s.gens hs (h Γ p hΓ))
  obtain ⟨g', q1, q2⟩ := q
  refine ⟨g', q1, fun i x e hx => (q2.at1 i x ?_).2, GenF.bare_of q2⟩
  unfold sleepers
  cases x with
  | suspended k l c p fs cl => rw [e]
  | fresh _ => exact hx.elim
  | running => exact hx.elim
  | finished => exact hx.elim
def XeS (X : Cx) : Prop := ∀ (D : Nat → Option GenState) (e : Value) (s : Shared) (b : Array GenState), Sim D s.gens b → X.xe e s → X.xe e (withG s b)
theorem xes_cx {P : Program} {w : World} {K : PySem.W.Frag} {mg : Str → Option Value} {base : Heap} {N : List Str} {qual : Str} {scope : Scope} {f : Addr} {cd : Value} {A : Around} {outer : List Env} {s0 : Shared} {H : Hp} {E : XK} : XeS (cxOf (L2.CX P w) P w K mg base N qual scope f cd A outer s0 H E) := by
  intro D e s b hs h Γ p hΓ
  have fix : ∀ {u : Value} {s' : Shared} {g' : Array GenState}, L2.CX P w outer H s0 E u (withG s' g') → Sim D g' s'.gens → L2.CX P w outer H s0 E u s' := fun {u s' g'} q h2 => by
    obtain ⟨a, B, H', cls, d, z1, fl, z2, ub, z3, z4, z5, z6⟩ := q
    exact ⟨a, B, H', cls, d, z1, fl, z2, ub, z3, z4, GenF.bare_of h2 z5, z6⟩
  exact Sem.wp_mono _ Γ _ (fun a p' s' ⟨g', q, h2⟩ => fix q h2) (fun a p' s' ⟨g', q, h2⟩ => fix q h2) p _ (GenF.wp_sim _ _ _ p s b hs (h Γ p hΓ))
section
variable {X : Cx} {pins gp : List (Addr × Obj)} {σ : L2.St} {H : Hp} {s : Shared} {α : Type}
theorem kept_refl (G : Array GenState) : Kept G G := fun _ _ e _ => e
theorem kept_trans {G G1 G2 : Array GenState} (a : Kept G G1) (b : Kept G1 G2) : Kept G G2 := fun i x e h => b i x (a i x e h) h
theorem asleep {t : Sem α} {Q : α → Shared → Prop} (hxe : XeS X) (I : Inv X pins σ H s) (h : ∀ s', Inv X pins σ H s' → wpAny (model X.prog X.w) X.A t Q X.xe s') :
    wpAny (model X.prog X.w) X.A t (fun a s' => ∃ g', Q a (withG s' g') ∧ Kept s.gens s'.gens ∧ (AllBare g' → AllBare s'.gens)) X.xe s :=
  wpAny_mono (hideS (h (withG s (s.gens.map dead)) (Inv.gens I (GenF.bare_dead I.bare)))) (fun _ _ q => q) fun e s' ⟨g', q, h2⟩ => hxe _ e (withG s' g') s'.gens h2 q
theorem Inv.ungen {g' : Array GenState} (I : Inv X pins σ H (withG s g')) (b : AllBare g' → AllBare s.gens) : Inv X pins σ H s := Inv.gens (s := withG s g') I (b I.bare)
theorem Gen.obj {Aw : Around} {k : Nat} {tr : GTr k} {a : Addr} {g : Nat} {G : Array GenState} (q : Gen X Aw k tr a g gp G) : ∃ go, (a, go) ∈ gp ∧ GenO go g := by
  obtain ⟨N, env, Ad, L, s00, H00, σg, ip, lo, go, gs, c, t, fs, _, _, rfl, _, _, _, _, _, hgo, _⟩ := q
  exact ⟨go, List.mem_cons_self, hgo⟩
abbrev TGn := L2.St → Hp → (GD → GD → Hp → Prop) → Prop
structure PGn (X : Cx) (kk : Nat) (e : Expr) (tg : TGn) (E : XK) : Prop where
  run : ∀ (pins : List (Addr × Obj)) (s : Shared) (σ : L2.St) (H : Hp) (R : GD → GD → Hp → Prop), Inv X pins σ H s → tg σ H R → wpAny (model X.prog X.w) X.A (eval e X.env)
    (fun u s' => ∃ gd gd' H1 sc, Inv X pins σ H1 sc ∧ R gd gd' H1 ∧ Born X.prog X.w X.K X.mg X.base kk X.stack H1 sc E gd gd' u s') X.xe s
def tGnC (sp : SpGn) (E : XK) (t : TA) : TGn := fun σ H R => t σ H fun vs H1 => ∃ gd gd', sp vs H1 E gd gd' ∧ R gd gd' H1
def tGnK (n m : Nat) (sp : SpGn) (gV : List V → List V → List V) (E : XK) (t tk : TA) : TGn := fun σ H R => t σ H fun vs H1 => tk σ H1 fun zs H2 => vs.length = n ∧ zs.length = m ∧ ∃ gd gd', sp (gV vs zs) H2 E gd gd' ∧ R gd gd' H2
structure GnC (P : Program) (w : World) (K : PySem.W.Frag) (mg : Str → Option Value) (base : Heap) (k : Nat) (x : Str) (sp : SpGn) : Prop where
  ex : ∃ (f : Addr) (fd : FuncData) (ps : List Str), GnOk P w K mg base k f fd ps sp ∧ mg x = some (.ref f) ∧ PySem.W.keepIn K (.ref f) = true ∧ Binds K fd ps []
structure GnCK (P : Program) (w : World) (K : PySem.W.Frag) (mg : Str → Option Value) (base : Heap) (k : Nat) (x : Str) (sp : SpGn) (n : Nat) (ks : List Str) (gV : List V → List V → List V) : Prop where
  ex : ∃ (f : Addr) (fd : FuncData) (ps : List Str) (g : List Value → List Value → List Value), GnOk P w K mg base k f fd ps sp ∧ mg x = some (.ref f) ∧ PySem.W.keepIn K (.ref f) = true ∧ KBn K fd ps n ks g gV
theorem run_gnC {kk : Nat} {f : Addr} {fd : FuncData} {ps : List Str} {sp : SpGn} {us ws bs : List Value} {zs : List V} {ks : List Str} {E : XK} {gd gd' : GD} {R : GD → GD → Hp → Prop} {E1 : Value → Shared → Prop} (F : GnOk X.prog X.w X.K X.mg X.base kk f fd ps sp) (hgd : X.A.guards = some []) (hr : Room kk X.A)
    (I : Inv X pins σ H s) (hb : BindsTo s fd ⟨us, ks.zip ws⟩ (ps.zip bs)) (r : Vals zs bs) (h : sp zs H E gd gd') (q : R gd gd' H) :
    wpAny (model X.prog X.w) X.A (call (.ref f) us (ks.zip ws)) (fun u s' => ∃ gd gd' H1 sc, Inv X pins σ H1 sc ∧ R gd gd' H1 ∧ Born X.prog X.w X.K X.mg X.base kk X.stack H1 sc E gd gd' u s') E1 s := by
  refine wpAny_call (codeAny_mono (F.run X.A X.stack s H ⟨us, ks.zip ws⟩ bs zs E gd gd' hgd hr I.env0 hb r h) fun res s' hq => ?_)
  match res, hq with
  | .error e, hq => exact hq.elim
  | .ok (.ret u), hq => exact ⟨gd, gd', H, s, I, q, hq⟩
  | .ok .next, hq => exact hq.elim
  | .ok .brk, hq => exact hq.elim
  | .ok .cont, hq => exact hq.elim
theorem GnOk.mono {P : Program} {w : World} {K : PySem.W.Frag} {mg : Str → Option Value} {base : Heap} {j k : Nat} {f : Addr} {fd : FuncData} {ps : List Str} {sp : SpGn} (F : GnOk P w K mg base j f fd ps sp) (h : j ≤ k) : GnOk P w K mg base k f fd ps sp := by
  refine ⟨F.len, fun A o s H a us vs E gd gd' g hr e0 hb hv q => codeAny_mono (F.run A o s H a us vs E gd gd' g (hr.mono h) e0 hb hv q) fun r s' z => ?_⟩
  match r, z with
  | .ok (.ret u), z =>
    obtain ⟨a, g, N, env, c, go, lo, σ0, h1, h2, h3, h4, h5, h6, h7, h8, h9, h10, h11, h12, h13, h14, mk⟩ := z
    exact ⟨a, g, N, env, c, go, lo, σ0, h1, h2, h3, h4, h5, h6, h7, h8, h9, h10, h11, h12, h13, h14, fun Aw r2 => mk Aw (r2.mono h)⟩
section
variable {kk j n : Nat} {x : Str} {sp : SpGn} {E : XK} {p pos : Pos} {e : Expr} {es : List Expr} {t tk : TA} {kws : List Keyword} {ks : List Str} {gV : List V → List V → List V}
theorem pgn_c (c : GnC X.prog X.w X.K X.mg X.base kk x sp) (hgd : X.A.guards = some []) (hr : Room j X.A) (hk : kk ≤ j) (hg : Gl X x) (ha : PA X (e :: es) t)
    (hdb : (x == ("__debug__" : Str)) = false := by decide) (he : starEach (e :: es) X.env = (false, eval e X.env) :: starEach es X.env := by rfl) (hpl : (backTo pos (starEach es X.env)).any (·.1) = false := by rfl) :
    PGn X j (.Call (.Name x p) (e :: es) [] pos) (tGnC sp E t) E := by
  obtain ⟨f, fd, ps, F, hm, kp, b⟩ := c.ex
  refine ⟨fun pins s σ H R I h => wpAny_Call_Name_kw (ld_glob I hg hm (PySem.W.callWith_K (h₀ := X.base) I.ok.mod.kin kp (thn (ha.run pos pins s σ H _ I h) fun us s1 ⟨vs, H1, I1, r, gd, gd', q, q2⟩ => ⟨I1.kIn, ?_⟩) he hpl) hdb)⟩
  have hl : us.length = ps.length := r.length.symm.trans (F.len _ _ _ _ _ q)
  have hb := b s1 us I1.kIn (by rw [List.append_nil]; exact hl)
  rw [List.append_nil] at hb
  exact run_gnC (ks := []) (ws := []) (GnOk.mono F hk) hgd hr I1 hb r q q2
end
def frG (g : TG) (tb : TS) (D : Ends) : (k : Nat) → GTr k → L2.St → Hp → Prop
  | 0, _, _, _ => False
  | k + 1, tr, σ, H => tr H (fun H' => D.nx σ H') fun x H' tr' => g x σ H' fun σ2 H2 => tb { D with nx := frG g tb D k tr', ct := frG g tb D k tr', bk := D.nx } σ2 H2
def tForG (tg : TGn) (g : TG) (tb : TS) : TS := fun D σ H => tg σ H fun gd _ H1 => ∃ k, gd k H1 (fun H' => D.nx σ H') fun x H' tr' => g x σ H' fun σ2 H2 => tb { D with nx := frG g tb D k tr', ct := frG g tb D k tr', bk := D.nx } σ2 H2
theorem ps_forG {kk : Nat} {tg iter : Expr} {body : List Stmt} {tgn : TGn} {g : TG} {tb : TS} {E : XK} {pos : Pos} (hp : PassesOwn (model X.prog X.w) X.A X.env X.xe) (hxe : XeS X) (hgd : X.A.guards = some []) (hr : Room (kk + 1) X.A) (hx : Passes (L2.CX X.prog X.w) X E) (hns : NoStop X.K E) (hi : PGn X kk iter tgn E)
    (hg : PG X tg g) (hb : PSs X body tb) (hs : ∀ x, foldedSetIterable iter X.env x = pure x := by intro _; rfl) : PS X (.For tg iter body [] pos) (tForG tgn g tb) := by
  refine ⟨fun pins s σ H D I h => wpAny_For (thn (hi.run pins s σ H _ I h) fun u s1 q => ?_) hs⟩
  obtain ⟨gd, gd', H1, sc, I1, ⟨k, ht⟩, B⟩ := q
  obtain ⟨a, g0, N, env, c, go, lo, σ0, rfl, hloc, hLa, haS, ego, hgo, hgs, os', bare', kp', elo, hlo, nc, nl, mk⟩ := id B
  refine wpAny_pyIter_gen (hgo.is ego) ?_
  refine codeAny_forLoop_any (fun n s' => (n = k + 1 ∧ s' = s1) ∨ ∃ tr gp g2 σ' H', Inv X (pins ++ gp) σ' H' s' ∧ Apt X pins gp ∧ Gen X X.A.in1 n tr a g2 gp s'.gens ∧ frG g tb D n tr σ' H') ?_ (k + 1) (.inl ⟨rfl, rfl⟩)
  have turn : ∀ {m n : Nat} {s2 : Shared} {v : Value} {x : V} {σ' : L2.St} {H2 : Hp} {tr' : GTr m} {gp' : List (Addr × Obj)} {g2 : Nat}, m < n → RelV x v → Inv X (pins ++ gp') σ' H2 s2 → Apt X pins gp' → (∀ G', Kept s2.gens G' → Gen X X.A.in1 m tr' a g2 gp' G') →
      g x σ' H2 (fun σ2 H2 => tb { D with nx := frG g tb D m tr', ct := frG g tb D m tr', bk := D.nx } σ2 H2) →
      wpAny (model X.prog X.w) X.A (letOwnedTupleGo tg (.ref a) v) (fun _ s₁' => wpAny (model X.prog X.w) X.A (assign tg X.env v) (fun _ s₂ => wpAny (model X.prog X.w) X.A (execs body X.env) (fun f s₃ => match f with
        | .next | .cont => ∃ m, m < n ∧ ((m = k + 1 ∧ s₃ = s1) ∨ ∃ tr gp g2 σ' H', Inv X (pins ++ gp) σ' H' s₃ ∧ Apt X pins gp ∧ Gen X X.A.in1 m tr a g2 gp s₃.gens ∧ frG g tb D m tr σ' H')
        | .brk => SP X pins D .next s₃
        | .ret v => SP X pins D (.ret v) s₃) X.xe s₂) X.xe s₁') X.xe s2 := by
    intro m n s2 v x σ' H2 tr' gp' g2 hmn rv I2 ap hG hq
    obtain ⟨go2, hgo2, nm, qn, c1, c2, c3⟩ := Gen.obj (hG _ (kept_refl _))
    have pa := (I2.pin (a, go2) (List.mem_append_right _ (List.mem_append_right _ hgo2))).1
    refine go_of pa c1 c2 (by decide) ?_
    refine thn (asleep hxe I2 fun s' I' => hg.run _ s' σ' H2 x v _ I' rv hq) fun _ s3 q => ?_
    obtain ⟨G3, ⟨σ3, H3, I3, q3⟩, kp3, b3⟩ := q
    have I3 := Inv.ungen I3 b3
    refine thn (asleep hxe I3 fun s' I' => hb.run _ s' σ3 H3 _ I' q3) fun f s4 q => ?_
    obtain ⟨G4, q4, kp4, b4⟩ := q
    have hG4 := hG _ (kept_trans kp3 kp4)
    have again : ∀ {σ4 : L2.St} {H4 : Hp}, Inv X (pins ++ gp') σ4 H4 (withG s4 G4) → frG g tb D m tr' σ4 H4 → ∃ m, m < n ∧ ((m = k + 1 ∧ s4 = s1) ∨ ∃ tr gp g2 σ' H', Inv X (pins ++ gp) σ' H' s4 ∧ Apt X pins gp ∧ Gen X X.A.in1 m tr a g2 gp s4.gens ∧ frG g tb D m tr σ' H') := fun {σ4 H4} I4 f4 =>
      ⟨m, hmn, .inr ⟨tr', gp', g2, σ4, H4, Inv.ungen I4 b4, ap, hG4, f4⟩⟩
    cases f with
    | next => obtain ⟨σ4, H4, I4, n4⟩ := q4; exact again I4 n4
    | cont => obtain ⟨σ4, H4, I4, n4⟩ := q4; exact again I4 n4
    | brk => obtain ⟨σ4, H4, I4, n4⟩ := q4; exact ⟨σ4, H4, (Inv.ungen I4 b4).unpinned, n4⟩
    | ret u => obtain ⟨y, σ4, H4, I4, r4, n4⟩ := q4; exact ⟨y, σ4, H4, (Inv.ungen I4 b4).unpinned, r4, n4⟩
  rintro n s' (⟨rfl, rfl⟩ | ⟨tr, gp, g2, σ', H', I', ap, hG, hf⟩)
  · refine wpAny_passesOwn hp (thn (wake0 (xp := []) hr.hd hr.depth (Room.in1 hr) hgd hx hns I1.ok.frames I1 B (fun _ _ e => e) os' rfl (fun p z => (nomatch z)) ht) fun r s2 q => ?_)
    cases r with
    | none =>
      obtain ⟨H', I2, q⟩ := q
      rw [List.append_nil] at I2
      exact wpAny_execs_nil ⟨σ, H', I2, q⟩
    | some v =>
      obtain ⟨x, H', tr', gp', g2, rv, I2, ap, hG, hq⟩ := q
      rw [List.append_nil] at I2 ap
      exact wpAny_passesOwn hp (thn (turn (Nat.lt_succ_self k) rv I2 ap hG hq) fun _ _ q => wpAny_passesOwn hp (thn q fun _ _ q => wpAny_passesOwn hp (thn q fun f s4 q => by cases f <;> exact q)))
  · cases n with
    | zero => exact hf.elim
    | succ n =>
      refine wpAny_passesOwn hp (thn (wake (E := X.xe) rfl hr.hd hr.depth I' hG ap hf) fun r s2 q => ?_)
      cases r with
      | none =>
        obtain ⟨H', I2, q⟩ := q
        exact wpAny_execs_nil ⟨σ', H', I2, q⟩
      | some v =>
        obtain ⟨x, H', tr', gp', rv, I2, ap, hG, hq⟩ := q
        exact wpAny_passesOwn hp (thn (turn (Nat.lt_succ_self n) rv I2 ap hG hq) fun _ _ q => wpAny_passesOwn hp (thn q fun _ _ q => wpAny_passesOwn hp (thn q fun f s4 q => by cases f <;> exact q)))
end
end EvG
namespace EvG
open PySem PySem.Spec PyProof.Rows L2 GenW
open GenF (Kept withG)
theorem Gen.to {X Y : Cx} {Aw : Around} {k : Nat} {tr : GTr k} {a : Addr} {g : Nat} {L : Addr} {lo go : Obj} {ip : List (Addr × Obj)} {G : Array GenState} (q : Gen X Aw k tr a g ((a, go) :: (L, lo) :: ip) G) (h1 : Y.prog = X.prog) (h2 : Y.w = X.w) (h3 : Y.K = X.K) (h4 : Y.mg = X.mg) (h5 : Y.base = X.base) (h6 : Y.stack = X.stack) (o : Older Y L) : Gen Y Aw k tr a g ((a, go) :: (L, lo) :: ip) G := by
  obtain ⟨N, env, Ad, L', s00, H00, σg, ip', lo', go', gs, c, t, fs, e1, rd, e3, e4, e5, e6, e7, _, e8, e9, e10, e11, e12⟩ := q
  have eL : L = L' := by cases e3; rfl
  refine ⟨N, env, Ad, L', s00, H00, σg, ip', lo', go', gs, c, t, fs, e1, ?_, e3, e4, ?_, e6, e7, eL ▸ o, e8, e9, e10, e11, ?_⟩
  · rw [h1, h2]; exact rd
  · rw [show gc Y N env Ad = gc X N env Ad from by unfold gc; rw [h1, h2, h3, h4, h5, h6]]; exact e5
  · rw [show gc Y N env Ad = gc X N env Ad from by unfold gc; rw [h1, h2, h3, h4, h5, h6], h1, h2]; exact e12
def lcI (g : TG) (tt : TT) (te : TE) (vs : List Nat) (σ : L2.St) (D : Addr) (x : V) (H : Hp) (N : Hp → Prop) : Prop := g x (wipe σ vs) H fun σ2 H2 => wipe σ2 vs = wipe σ vs ∧ tt σ2 H2 fun b H3 =>
  if b = true then te σ2 H3 fun y H4 => ∃ acc, H4 D = some (.lst acc) ∧ acc.length < sizeLine ∧ N (upd H4 D (.lst (acc ++ [y]))) else N H3
def lcG (g : TG) (tt : TT) (te : TE) (vs : List Nat) (σ : L2.St) (D : Addr) (Q : Hp → Prop) : (k : Nat) → GTr k → Hp → Prop
  | 0, _, _ => False
  | k + 1, tr, H => tr H Q fun x H' tr' => lcI g tt te vs σ D x H' (lcG g tt te vs σ D Q k tr')
def tLcG (tg : TGn) (g : TG) (tt : TT) (te : TE) (vs : List Nat) : TE := fun σ H Q => tg σ H fun gd _ H1 => ∀ D, H1 D = none → ∃ k, gd k H1 (fun H' => H' D = none → Q (.ref D) (upd H' D (.lst []))) fun x H' tr' => H' D = none → lcI g tt te vs σ D x (upd H' D (.lst [])) (lcG g tt te vs σ D (fun H => Q (.ref D) H) k tr')
section
variable {X : Cx}
end
end EvG
namespace Pu
open PySem PySem.Spec PyProof.Rows L2 GenW EvG
def MTr : Nat → Type
  | 0 => Unit
  | k + 1 => SN → (SN → Prop) → (PV → SN → MTr k → Prop) → Prop
abbrev MK := ∀ k : Nat, PEnv → SN → (SN → Prop) → (PV → SN → MTr k → Prop) → Prop
abbrev MG := MK → MK
def MK.rest (K : MK) (env : PEnv) : ∀ k, MTr k
  | 0 => ()
  | k + 1 => fun n r y => K k env n r y
def ownless (env : PEnv) : Bool := env.all fun s => !s.isOwn
def mGP (b : MS) : MG := fun K k env n r y => b (fun _ => W0) { nx := fun env' n' => K k env' n' r y, rt := fun _ _ => False } env n
def mGNil : MG := fun K => K
def mGSeq (a b : MG) : MG := fun K => a (b K)
def mGY (e : PEnv → M PV) : MG := fun K k env n _ y => ownless env = true ∧ e env W0 n fun q n1 => y q n1 (MK.rest K env k)
def whM (c : PEnv → M Bool) (b : MG) (K : MK) : Nat → MK
  | 0 => fun _ _ _ _ _ => False
  | m + 1 => fun k env n r y => c env W0 n fun v n1 => if v = true then b (whM c b K m) k env n1 r y else K k env n1 r y
def mGWh (c : PEnv → M Bool) (b : MG) : MG := fun K k env n r y => ∃ m, whM c b K m k env n r y
def Mend : MK := fun _ _ n r _ => r n
def mGen (N : Nat) (bp : MS) (bl : MG) (args : List PV) (W : XP) (k : Nat) : SN → (SN → Prop) → (PV → SN → MTr k → Prop) → Prop := fun n r y =>
  bp (fun _ => W) { nx := fun env' n' => bl Mend k env' n' r y, rt := fun _ _ => False } (startP N args) n
def frM (g : PV → PEnv → (PEnv → Prop) → Prop) (b : MS) (W : PEnv → XP) (D : EndsP) : (k : Nat) → MTr k → PEnv → SN → Prop
  | 0, _, _, _ => False
  | k + 1, tr, env, n => tr n (fun n' => D.nx env n') fun q n1 tr' => g q env fun env2 => b W { D with nx := frM g b W D k tr', ct := frM g b W D k tr', bk := D.nx } env2 n1
abbrev MGen := List PV → XP → (k : Nat) → SN → (SN → Prop) → (PV → SN → MTr k → Prop) → Prop
def mForG (j : Nat) (m : MGen) (a : PEnv → M (List PV)) (g : PV → PEnv → (PEnv → Prop) → Prop) (b : MS) : MS := fun W D env n => a env (W env) n fun args n1 => args.length = j ∧ ∃ k, m args (W env) k n1 (fun n' => D.nx env n')
  fun q n2 tr' => g q env fun env2 => b W { D with nx := frM g b W D k tr', ct := frM g b W D k tr', bk := D.nx } env2 n2
section
variable (K : PySem.W.Frag) (cm : Md) (p : Addr) (c : Cz)
def SimTr : (k : Nat) → Hp → GTr k → MTr k → Prop
  | 0, _, _, _ => True
  | k + 1, G, tr, mt => ∀ (G' H' : Hp) (n : SN) (rt : Hp → Prop) (yd : V → Hp → GTr k → Prop) (Rt : SN → Prop) (Yd : PV → SN → MTr k → Prop), Same G G' → Ok K cm p c G' H' n → mt n Rt Yd →
      (∀ G1 H1 n1, Ok K cm p c G1 H1 n1 → Step cm c (· = p) G' H' G1 H1 → Rt n1 → rt H1) →
      (∀ x q G1 H1 n1 tr' mt', Ok K cm p c G1 H1 n1 → Step cm c (· = p) G' H' G1 H1 → Rep K cm p G1 x q → SimTr k G1 tr' mt' → Yd q n1 mt' → yd x H1 tr') → tr H' rt yd
abbrev zw (G0 H0 : Hp) : Z := ⟨K, cm, p, c, H0, G0, (· = p), fun _ => W0, G0, p, p, p, c.lk⟩
def SimK (Gb : Hp) (Kc : GK) (Mk : MK) : Prop := ∀ (k : Nat) (G0 H0 : Hp) (σ : L2.St) (env : PEnv) (G H : Hp) (n : SN) (rt : Hp → Prop) (yd : V → Hp → GTr k → Prop) (Rt : SN → Prop) (Yd : PV → SN → MTr k → Prop),
  Same Gb G → Ok K cm p c G H n → Fr (zw K cm p c G0 H0) G H → EnvRel (zw K cm p c G0 H0) G H σ env → Mk k env n Rt Yd →
  (∀ G1 H1 n1, Ok K cm p c G1 H1 n1 → Step cm c (· = p) G0 H0 G1 H1 → Rt n1 → rt H1) →
  (∀ x q G1 H1 n1 tr mt, Ok K cm p c G1 H1 n1 → Step cm c (· = p) G0 H0 G1 H1 → Rep K cm p G1 x q → SimTr K cm p c k G1 tr mt → Yd q n1 mt → yd x H1 tr) → Kc k σ H rt yd
def SimGn (t : TGs2) (m : MG) : Prop := ∀ (Gb : Hp) (Kc : GK) (Mk : MK), SimK K cm p c Gb Kc Mk → SimK K cm p c Gb (t Kc) (m Mk)
end
abbrev SimW (K : PySem.W.Frag) (cm : Md) (q : Z → Prop) : Prop := ∀ z : Z, z.K = K → z.cm = cm → (z.W = fun _ => W0) → q z
section
variable {K : PySem.W.Frag} {cm : Md} {p : Addr} {c : Cz} {t u : TGs2} {a b : MG}
theorem sg_plain {ts : TS} {m : MS} (h : SimW K cm fun z => SimS z ts m) : SimGn K cm p c (tGP ts) (mGP m) := by
  intro Gb Kc Mk co k G0 H0 σ env G H n rt yd Rt Yd sb ok fr er hm hr hy
  exact h (zw K cm p c G0 H0) rfl rfl rfl σ env G H n _ _ ok fr er hm ⟨fun σ' env' G' H' n' s' ok' fr' er' h' => co k G0 H0 σ' env' G' H' n' rt yd Rt Yd (sb.trans s') ok' fr' er' h' hr hy, fun _ _ _ _ _ _ _ _ _ h' => h'.elim, fun _ _ _ _ _ _ _ _ _ h' => h', fun _ _ _ _ _ _ _ _ _ h' => h'⟩
theorem sg_nil : SimGn K cm p c tGNil mGNil := fun _ _ _ co => co
theorem sg_seq (ha : SimGn K cm p c t a) (hb : SimGn K cm p c u b) : SimGn K cm p c (tGSeq t u) (mGSeq a b) := fun Gb Kc Mk co => ha Gb _ _ (hb Gb Kc Mk co)
theorem rest_rel {Gb : Hp} {Kc : GK} {Mk : MK} (co : SimK K cm p c Gb Kc Mk) {G0 H0 G H : Hp} {σ : L2.St} {env : PEnv} (sb : Same Gb G) (ho : ownless env = true) (er : EnvRel (zw K cm p c G0 H0) G H σ env) : ∀ k, SimTr K cm p c k G (GK.rest Kc σ k) (MK.rest Mk env k)
  | 0 => trivial
  | k + 1 => fun G' H' n rt yd Rt Yd s ok hm hr hy => by
    refine co k G' H' σ env G' H' n rt yd Rt Yd (sb.trans s) ok ⟨Step.refl _ _ _, rfl, Same.refl _, id⟩ ⟨fun i sl h => ?_, fun i j sl sl' a _ hi _ os _ _ _ => ?_, er.len⟩ hm hr hy
    · obtain ⟨x, hx, r⟩ := er.at_ i sl h
      refine ⟨x, hx, ?_⟩
      have hn := List.all_eq_true.mp ho sl (List.mem_of_getElem? h)
      cases sl with
      | no => trivial
      | val q => obtain ⟨v, e, r⟩ := r; exact ⟨v, e, r.mono s⟩
      | own _ => cases hn
      | odc _ => cases hn
      | obj _ _ => cases hn
    · have hn := List.all_eq_true.mp ho sl (List.mem_of_getElem? hi)
      rw [os] at hn
      cases hn
theorem step_zw {G0 H0 G H : Hp} (f : Fr (zw K cm p c G0 H0) G H) : Step cm c (· = p) G0 H0 G H := f.st
theorem sg_yield {te : TE} {me : PEnv → M PV} (he : SimW K cm fun z => SimE z te me) : SimGn K cm p c (tGY te) (mGY me) := by
  intro Gb Kc Mk co k G0 H0 σ env G H n rt yd Rt Yd sb ok fr er hm hr hy
  refine (he (zw K cm p c G0 H0) rfl rfl rfl).bind ok fr er hm.2 fun v q G1 H1 n1 ok1 fr1 er1 s1 r1 hm1 => ?_
  exact hy v q G1 H1 n1 _ _ ok1 (step_zw fr1) r1 (rest_rel co (sb.trans s1.same) hm.1 er1 k) hm1
theorem sg_while {tc : TT} {mc : PEnv → M Bool} (hc : SimW K cm fun z => SimT z tc mc) (ha : SimGn K cm p c t a) : SimGn K cm p c (tGWh tc t) (mGWh mc a) := by
  intro Gb Kc Mk co k G0 H0 σ env G H n rt yd Rt Yd sb ok fr er hm hr hy
  obtain ⟨m, hm⟩ := hm
  refine ⟨m, ?_⟩
  have key : ∀ m, SimK K cm p c Gb (whR tc t Kc m) (whM mc a Mk m) := by
    intro m
    induction m with
    | zero => exact fun k G0 H0 σ env G H n rt yd Rt Yd sb ok fr er hm hr hy => hm.elim
    | succ m ih =>
      intro k G0 H0 σ env G H n rt yd Rt Yd sb ok fr er hm hr hy
      refine (hc (zw K cm p c G0 H0) rfl rfl rfl).bind ok fr er hm fun v q G1 H1 n1 ok1 fr1 er1 s1 r1 hm1 => ?_
      cases r1
      cases v with
      | true => exact ha Gb _ _ ih k G0 H0 σ env G1 H1 n1 rt yd Rt Yd (sb.trans s1.same) ok1 fr1 er1 hm1 hr hy
      | false => exact co k G0 H0 σ env G1 H1 n1 rt yd Rt Yd (sb.trans s1.same) ok1 fr1 er1 hm1 hr hy
  exact key m k G0 H0 σ env G H n rt yd Rt Yd sb ok fr er hm hr hy
end
end Pu
namespace Pu
open PySem PySem.Spec PyProof.Rows L2 GenW EvG
section
variable (K : PySem.W.Frag) (cm : Md)
def GWant (p : Addr) (c : Cz) (m : MGen) (G0 : Hp) (args : List PV) (E : XK) : GD := fun k H rt yd => ∃ (G : Hp) (n : SN) (W : XP) (Rt : SN → Prop) (Yd : PV → SN → MTr k → Prop), Ok K cm p c G H n ∧ Same G0 G ∧ m args W k n Rt Yd ∧
  (∀ G1 H1 n1, Ok K cm p c G1 H1 n1 → Step cm c (· = p) G H G1 H1 → Rt n1 → rt H1) ∧
  (∀ x q G1 H1 n1 tr mt, Ok K cm p c G1 H1 n1 → Step cm c (· = p) G H G1 H1 → Rep K cm p G1 x q → SimTr K cm p c k G1 tr mt → Yd q n1 mt → yd x H1 tr) ∧
  ∀ cn fs C d G1 H1 n1, Ok K cm p c G1 H1 n1 → Step cm c (· = p) G H G1 H1 → cm.cx cn = some C → RepX K cm p G1 d fs → W cn fs n1 → E (.ref C) d H1
def spG (j : Nat) (m : MGen) : SpGn := fun vs _ E gd gd' => vs.length = j ∧ ∃ (p : Addr) (c : Cz) (G0 : Hp) (args : List PV), RepL K cm p G0 vs args ∧ (∀ k H2 r y, gd k H2 r y → GWant K cm p c m G0 args E k H2 r y) ∧ ∀ k H2 r y, gd' k H2 r y → GWant K cm p c m G0 args E0 k H2 r y
end
theorem qgen {P : Program} {w : World} {K : PySem.W.Frag} {mg : Str → Option Value} {base : Heap} {x qual : Str} {st : Stmt} {f : Addr} {fd : FuncData} {N ps : List Str} {kk : Nat} {cm : Md} {bp : MS} {bl : MG} {pre loop : List Stmt} (hN : ps.length ≤ N.length) (hbd : C8.fnBody st = pre ++ loop)
    (F : Ev.Fn K x qual st f fd) (S : GScope N ps (C8.fnScope st) ∧ ∀ y ∈ (C8.fnScope st).names, y.2 ≠ .cell)
    (hb : ∀ (cdv : Value) (A : Around) (outer : List Env) (L : Addr) (E : XK), fd.code = cdv → (A.deeper (envOfC qual (C8.fnScope st) L f cdv)).guards = some [] → Room kk (A.deeper (envOfC qual (C8.fnScope st) L f cdv)) →
      ∃ tp tp0 tl, (∀ (s : Shared) (H : Hp) (pn : List (Addr × Obj)), s.heap.objs.size = L → (A.deeper (envOfC qual (C8.fnScope st) s.heap.objs.size f cdv)).guards = some [] → Room kk (A.deeper (envOfC qual (C8.fnScope st) s.heap.objs.size f cdv)) → PSs (gcxOf P w K mg base N qual (C8.fnScope st) f cdv A outer s H E pn) pre tp) ∧ (∀ z : Z, z.K = K → z.cm = cm → (∃ wp, z.W = fun _ => wp) → Link z E → SimS z tp bp) ∧
        (All P w K mg base N (envOfC qual (C8.fnScope st) L f cdv) (A.deeper (envOfC qual (C8.fnScope st) L f cdv)) outer L fun X => PSs X pre tp0) ∧ (∀ z : Z, z.K = K → z.cm = cm → (∃ wp, z.W = fun _ => wp) → Link z E0 → SimS z tp0 bp) ∧
        GZs P w K mg base N (envOfC qual (C8.fnScope st) L f cdv) (A.deeper (envOfC qual (C8.fnScope st) L f cdv)) outer L loop tl ∧ ∀ p c, SimGn K cm p c tl bl) :
    GnOk P w K mg base (kk + 1) f fd ps (spG K cm ps.length (mGen N.length bp bl)) := by
  have send : ∀ (p : Addr) (c : Cz) (Gb : Hp), SimK K cm p c Gb Kend Mend := fun p c Gb k G0 H0 σ env G H n rt yd Rt Yd _ ok fr er hm hr hy => hr G H n ok fr.st hm
  have go : ∀ {p : Addr} {c : Cz} {G0 : Hp} {args : List PV} {E : XK} {vs : List V} {tp : TS} {tl : TGs2} {k : Nat} {H : Hp} {r : Hp → Prop} {y : V → Hp → GTr k → Prop}, vs.length = ps.length → RepL K cm p G0 vs args → (∀ z : Z, z.K = K → z.cm = cm → (∃ wp, z.W = fun _ => wp) → Link z E → SimS z tp bp) → SimGn K cm p c tl bl →
      GWant K cm p c (mGen N.length bp bl) G0 args E k H r y → gdB tp tl (L2.start N vs) k H r y := by
    intro p c G0 args E vs tp tl k H r y hl rl hs hg h
    obtain ⟨G, n, W, Rt, Yd, ok, sg, hm, hr, hy, hx⟩ := h
    refine hs ⟨K, cm, p, c, H, G, (· = p), fun _ => W, G, p, p, p, c.lk⟩ rfl rfl ⟨_, rfl⟩ (fun σ env G' H' n' cn fs C d ok' fr' er' hc rx hw => hx cn fs C d G' H' n' ok' fr'.st hc rx hw) (L2.start N vs) (startP N.length args) G H n _ _ ok ⟨Step.refl _ _ _, rfl, Same.refl _, id⟩ (envStart (rl.mono sg) (by rw [hl]; exact hN)) hm ⟨fun σ env G' H' n' s' ok' fr' er' h' => ?_, fun _ _ _ _ _ _ _ _ _ h' => h'.elim, fun _ _ _ _ _ _ _ _ _ h' => h', fun _ _ _ _ _ _ _ _ _ h' => h'⟩
    exact hg G Kend Mend (send p c G) k G H σ env G' H' n' r y Rt Yd s' ok' ⟨fr'.st, fr'.mp, s', fr'.lk⟩ (EnvRel.re (W := fun _ => W0) (Gx := G) er') h' hr hy
  refine gnok hbd F S.1 S.2 (fun vs H E gd gd' h => h.1) fun cdv A outer L H vs E gd gd' hcode hgd hr h => ?_
  obtain ⟨hl, p, c, G0, args, rl, h1, h2⟩ := h
  obtain ⟨tp, tp0, tl, hp, sp, hp0, sp0, hz, sl⟩ := hb cdv A outer L E hcode hgd hr
  exact ⟨tp, tp0, tl, fun s pn hs g2 r2 => hp s H pn hs g2 r2, hp0, hz, fun k r y q => go hl rl sp (sl p c) (h1 k H r y q), fun k H' r y q => go hl rl sp0 (sl p c) (h2 k H' r y q)⟩
section
variable {z : Z}
theorem fr_rel {g : TG} {mg : PV → PEnv → (PEnv → Prop) → Prop} {tb : TS} {mb : MS} (hg : SimG z g mg) (hb : SimS z tb mb) {D : Ends} {Dp : EndsP} : ∀ (k : Nat) (tr : GTr k) (mt : MTr k) (G0 : Hp), SimTr z.K z.cm z.p z.c k G0 tr mt → EndsRel z G0 D Dp →
    ∀ (σ : L2.St) (env : PEnv) (G H : Hp) (n : SN), Same G0 G → Ok z.K z.cm z.p z.c G H n → Fr z G H → EnvRel z G H σ env → frM mg mb z.W Dp k mt env n → frG g tb D k tr σ H
  | 0, _, _, _, _, _, _, _, _, _, _, _, _, _, _, h => h.elim
  | k + 1, tr, mt, G0, st, ed, σ, env, G, H, n, sg, ok, fr, er, h => by
    refine st G H n _ _ _ _ sg ok h (fun G1 H1 n1 ok1 s1 h1 => ed.nx σ env G1 H1 n1 (sg.trans s1.same) ok1 (fr.stepP s1) (er.step s1) h1) fun x q G1 H1 n1 tr' mt' ok1 s1 rx st' h1 => ?_
    refine hg σ env G1 H1 n1 x q _ _ ok1 (er.step s1) rx h1 fun σ2 env2 er2 h2 => ?_
    have ed1 := ed.mono (sg.trans s1.same)
    exact hb σ2 env2 G1 H1 n1 _ _ ok1 (fr.stepP s1) er2 h2 ⟨fun σ5 env5 G5 H5 n5 s5 ok5 fr5 er5 h5 => fr_rel hg hb k tr' mt' G1 st' ed1 σ5 env5 G5 H5 n5 s5 ok5 fr5 er5 h5, ed1.rt, ed1.nx, fun σ5 env5 G5 H5 n5 s5 ok5 fr5 er5 h5 => fr_rel hg hb k tr' mt' G1 st' ed1 σ5 env5 G5 H5 n5 s5 ok5 fr5 er5 h5⟩
theorem forG_rel {j : Nat} {m : MGen} {g : TG} {mg : PV → PEnv → (PEnv → Prop) → Prop} {tb : TS} {mb : MS} {E : XK} (hl : Link z E) (hg : SimG z g mg) (hb : SimS z tb mb) {D : Ends} {Dp : EndsP} {σ : L2.St} {env : PEnv} {G1 H1 : Hp} {n1 : SN} {vs : List V} {args : List PV} (ed : EndsRel z G1 D Dp) (ok1 : Ok z.K z.cm z.p z.c G1 H1 n1) (fr1 : Fr z G1 H1) (er1 : EnvRel z G1 H1 σ env)
    (r1 : z.repL G1 vs args) (hm : args.length = j ∧ ∃ k, m args (z.W env) k n1 (fun n' => Dp.nx env n') fun q n2 tr' => mg q env fun env2 => mb z.W { Dp with nx := frM mg mb z.W Dp k tr', ct := frM mg mb z.W Dp k tr', bk := Dp.nx } env2 n2) :
    ∃ gd gd', spG z.K z.cm j m vs H1 E gd gd' ∧ ∃ k, gd k H1 (fun H' => D.nx σ H') fun x H' tr' => g x σ H' fun σ2 H2 => tb { D with nx := frG g tb D k tr', ct := frG g tb D k tr', bk := D.nx } σ2 H2 := by
  obtain ⟨hj, k, hm⟩ := hm
  refine ⟨GWant z.K z.cm z.p z.c m G1 args E, fun _ _ _ _ => False, ⟨r1.len.trans hj, z.p, z.c, G1, args, r1, fun _ _ _ _ h => h, fun _ _ _ _ h => h.elim⟩, k, G1, n1, z.W env, _, _, ok1, Same.refl _, hm, fun G2 H2 n2 ok2 s2 h2 => ed.nx σ env G2 H2 n2 s2.same ok2 (fr1.stepP s2) (er1.step s2) h2, fun x q G2 H2 n2 tr mt ok2 s2 rx st h2 => ?_, fun cn fs C d G2 H2 n2 ok2 s2 hc rx hw => hl σ env G2 H2 n2 cn fs C d ok2 (fr1.stepP s2) (er1.step s2) hc rx hw⟩
  refine hg σ env G2 H2 n2 x q _ _ ok2 (er1.step s2) rx h2 fun σ3 env3 er3 h3 => ?_
  have ed2 := ed.mono s2.same
  exact hb σ3 env3 G2 H2 n2 _ _ ok2 (fr1.stepP s2) er3 h3 ⟨fun σ5 env5 G5 H5 n5 s5 ok5 fr5 er5 h5 => fr_rel hg hb k tr mt G2 st ed2 σ5 env5 G5 H5 n5 s5 ok5 fr5 er5 h5, ed2.rt, ed2.nx, fun σ5 env5 G5 H5 n5 s5 ok5 fr5 er5 h5 => fr_rel hg hb k tr mt G2 st ed2 σ5 env5 G5 H5 n5 s5 ok5 fr5 er5 h5⟩
theorem sim_forG {j : Nat} {m : MGen} {ta : TA} {ma : PEnv → M (List PV)} {g : TG} {mg : PV → PEnv → (PEnv → Prop) → Prop} {tb : TS} {mb : MS} {E : XK} (hl : Link z E) (ha : SimA z ta ma) (hg : SimG z g mg) (hb : SimS z tb mb) : SimS z (tForG (tGnC (spG z.K z.cm j m) E ta) g tb) (mForG j m ma mg mb) := by
  intro σ env G H n D Dp ok fr er hm ed
  refine ha.bind ok fr er hm fun vs args G1 H1 n1 ok1 fr1 er1 s1 r1 hm1 => ?_
  exact forG_rel hl hg hb (ed.mono s1.same) ok1 fr1 er1 r1 hm1
def mForGK (n l j : Nat) (gP : List PV → List PV → List PV) (m : MGen) (a b : PEnv → M (List PV)) (g : PV → PEnv → (PEnv → Prop) → Prop) (s : MS) : MS := fun W D env n0 => a env (W env) n0 fun ps n1 => b env (W env) n1 fun qs n2 => ps.length = n ∧ qs.length = l ∧ (gP ps qs).length = j ∧ ∃ k, m (gP ps qs) (W env) k n2 (fun n' => D.nx env n')
  fun q n3 tr' => g q env fun env2 => s W { D with nx := frM g s W D k tr', ct := frM g s W D k tr', bk := D.nx } env2 n3
theorem sim_forGK {n0 l j : Nat} {gP : List PV → List PV → List PV} {gV : List V → List V → List V} {m : MGen} {ta tk : TA} {ma mk : PEnv → M (List PV)} {g : TG} {mg : PV → PEnv → (PEnv → Prop) → Prop} {tb : TS} {mb : MS} {E : XK} (hl : Link z E)
    (hgp : ∀ G vs ps zs qs, ps.length = n0 → qs.length = l → z.repL G vs ps → z.repL G zs qs → z.repL G (gV vs zs) (gP ps qs)) (ha : SimA z ta ma) (hk : SimA z tk mk) (hg : SimG z g mg) (hb : SimS z tb mb) : SimS z (tForG (tGnK n0 l (spG z.K z.cm j m) gV E ta tk) g tb) (mForGK n0 l j gP m ma mk mg mb) := by
  intro σ env G H n D Dp ok fr er hm ed
  refine ha.bind ok fr er hm fun vs ps G1 H1 n1 ok1 fr1 er1 s1 r1 hm1 => ?_
  refine hk.bind ok1 fr1 er1 hm1 fun zs qs G2 H2 n2 ok2 fr2 er2 s2 r2 hm2 => ?_
  obtain ⟨l1, l2, hm2⟩ := hm2
  exact ⟨r1.len.trans l1, r2.len.trans l2, forG_rel hl hg hb (ed.mono (s1.same.trans s2.same)) ok2 fr2 er2 (hgp G2 vs ps zs qs l1 l2 (r1.mono s2.same) r2) hm2⟩
end
end Pu
namespace EvG
open PySem PySem.Spec PyProof.Rows L2 GenW Pu
def xns (K : PySem.W.Frag) (E : XK) : XK := fun cls d H => E cls d H ∧ PySem.W.subIn K cls (.type "StopIteration") = some false
theorem ns_xns {K : PySem.W.Frag} {E : XK} : NoStop K (xns K E) := fun _ _ _ h => h.2
theorem pass_xns {X : Cx} {E : XK} (h : Passes (L2.CX X.prog X.w) X E) : Passes (L2.CX X.prog X.w) X (xns X.K E) := fun pins σ H s e s' I c => h pins σ H s e s' I (by
  obtain ⟨a, B, H', cls, d, z1, fl, z2, ub, z3, z4, z5, z6⟩ := c
  exact ⟨a, B, H', cls, d, z1, fl, z2, ub, z3, z4, z5, z6.1⟩)
theorem link_xns {z : Z} {E : XK} (hs : ∀ c C, z.cm.cx c = some C → PySem.W.subIn z.K (.ref C) (.type "StopIteration") = some false) (h : Link z E) : Link z (xns z.K E) := fun σ env G H n cn fs C d ok fr er hc rx hw => ⟨h σ env G H n cn fs C d ok fr er hc rx hw, hs cn C hc⟩
end EvG
namespace Pu
open PySem PySem.Spec PyProof.Rows L2 GenW EvG
def lcM (g : PV → PEnv → (PEnv → Prop) → Prop) (t : PEnv → M Bool) (e : PEnv → M PV) (env : PEnv) (Q : List PV → SN → Prop) : (k : Nat) → MTr k → List PV → SN → Prop
  | 0, _, _, _ => False
  | k + 1, tr, acc, n => tr n (fun n' => Q acc n') fun q n1 tr' => g q env fun env2 => t env2 W0 n1 fun b n2 => if b = true then e env2 W0 n2 fun y n3 => lcM g t e env Q k tr' (acc ++ [y]) n3 else lcM g t e env Q k tr' acc n2
def mLcG (j : Nat) (m : MGen) (a : PEnv → M (List PV)) (g : PV → PEnv → (PEnv → Prop) → Prop) (t : PEnv → M Bool) (e : PEnv → M PV) (vs : List Nat) : PEnv → M PV := fun env W n Q => a env W n fun args n1 => args.length = j ∧ ∃ k, k ≤ 999999 ∧
  m args W0 k n1 (fun n' => Q (.lst []) n') fun q n2 tr' => g q (wipeP env vs) fun env2 => t env2 W0 n2 fun b n3 => if b = true then e env2 W0 n3 fun y n4 => lcM g t e (wipeP env vs) (fun ys n => Q (.lst ys) n) k tr' [y] n4 else lcM g t e (wipeP env vs) (fun ys n => Q (.lst ys) n) k tr' [] n3
section
variable {z : Z}
theorem lcI_rel {g : TG} {mg : PV → PEnv → (PEnv → Prop) → Prop} {tt : TT} {mt : PEnv → M Bool} {te : TE} {me : PEnv → M PV} {vs : List Nat} (hg : SimG z.nox g mg) (hw : GW g vs) (ht : SimT z.nox tt mt) (he : SimE z.nox te me)
    {σ : L2.St} {env : PEnv} {G1 H1 G2 H2 : Hp} {n2 : SN} {A : Addr} {us : List V} {acc : List PV} {x : V} {q : PV} {N : Hp → Prop} {Nm : List PV → SN → Prop} (fr1 : Fr z G1 H1) (er1 : EnvRel z G1 H1 σ env) (hA : H1 A = none) (mA : Mine z G1 A)
    (ok2 : Ok z.K z.cm z.p z.c G2 H2 n2) (st : Step z.cm z.c (· = z.p) G1 H1 G2 H2) (hA2 : H2 A = some (.lst us)) (gA2 : G2 A = none) (rl : z.repL G2 us acc) (la : acc.length ≤ 999999) (rx : z.rep G2 x q)
    (hm : mg q (wipeP env vs) fun env2 => mt env2 W0 n2 fun b n3 => if b = true then me env2 W0 n3 fun y n4 => Nm (acc ++ [y]) n4 else Nm acc n3)
    (hN : ∀ G' H' n' acc' us', Ok z.K z.cm z.p z.c G' H' n' → Step z.cm z.c (· = z.p) G1 H1 G' H' → Same G2 G' → H' A = some (.lst us') → G' A = none → z.repL G' us' acc' → acc'.length ≤ acc.length + 1 → Nm acc' n' → N H') : lcI g tt te vs σ A x H2 N := by
  have er2 : EnvRel z.nox G2 H2 (wipe σ vs) (wipeP env vs) := ((er1.step st).wipe vs).nox
  have keepA : ∀ {Ga Ha Gb Hb : Hp} {us : List V}, Step z.cm z.c (· = z.p) Ga Ha Gb Hb → Ha A = some (.lst us) → Ga A = none → Hb A = some (.lst us) ∧ Gb A = none := fun {Ga Ha Gb Hb us} s h g => by
    refine ⟨s.keep _ _ h mA.p ko_lst, ?_⟩
    cases q : Gb A with
    | none => rfl
    | some o =>
      have := s.new A o q ⟨_, h, nt0_lst⟩
      rw [g] at this
      cases this
  refine hw x (wipe σ vs) H2 (fun σ4 H4 => H4 = H2 ∧ ∃ env4, EnvRel z.nox G2 H2 σ4 env4 ∧ mt env4 W0 n2 fun b n3 => if b = true then me env4 W0 n3 fun y n4 => Nm (acc ++ [y]) n4 else Nm acc n3) _
    (hg (wipe σ vs) (wipeP env vs) G2 H2 n2 x _ _ _ ok2 er2 rx hm fun σ4 env4 er4 hf4 => ⟨rfl, env4, er4, hf4⟩) fun σ4 H4 we q4 => ?_
  obtain ⟨rfl, env4, er4, hf4⟩ := q4
  refine ⟨we.trans (wipe_wipe σ vs), ?_⟩
  have fr2 : Fr z.nox G2 H4 := (fr1.stepP st).nox
  refine ht.bind (z := z.nox) ok2 fr2 er4 hf4 fun bb bq G5 H5 n5 ok5 fr5 er5 s5 r5 hm5 => ?_
  cases r5
  obtain ⟨hA5, gA5⟩ := keepA s5 hA2 gA2
  have st5 := st.trans s5 fun _ q => q
  cases bb with
  | true =>
    rw [if_pos rfl] at hm5 ⊢
    refine he.bind (z := z.nox) ok5 fr5 er5 hm5 fun y py G6 H6 n6 ok6 fr6 er6 s6 r6 hm6 => ?_
    obtain ⟨hA6, gA6⟩ := keepA s6 hA5 gA5
    have st6 := st5.trans s6 fun _ q => q
    have rl6 : z.repL G6 us acc := rl.mono (s5.same.trans s6.same)
    have mine6 : Mine z G6 A := ⟨gA6, mA.p, mA.c, mA.h⟩
    refine ⟨us, hA6, by rw [rl.len, sizeLine_eq]; omega, hN G6 _ n6 (acc ++ [py]) (us ++ [y]) (Ok.set (z := z) ok6 mine6 hA6) ⟨st6.same, fun b o e nb nt => Ev.get_ne (fun q => by rw [q, hA] at e; cases e) (st6.keep b o e nb nt), st6.new, fun b h => ?_⟩ (s5.same.trans s6.same) upd_same gA6 (rl6.append (.cons r6 .nil)) (by simp) hm6⟩
    exact (st6.al b h).upd nt0_lst
  | false =>
    rw [if_neg (by decide)] at hm5 ⊢
    exact hN G5 _ n5 acc us ok5 st5 s5.same hA5 gA5 (rl.mono s5.same) (Nat.le_succ _) hm5
theorem lc_fin {Qp : PV → SN → Prop} {Q : VK} {G H G1 H1 G' H' : Hp} {n' : SN} {A : Addr} {us : List V} {acc : List PV} (hq : Post z z.rep G H Qp Q) (s1 : Step z.cm z.c (· = z.p) G H G1 H1) (hA : H1 A = none) (mA : Mine z G1 A) (ok' : Ok z.K z.cm z.p z.c G' H' n') (st' : Step z.cm z.c (· = z.p) G1 H1 G' H') (hA' : H' A = some (.lst us)) (gA' : G' A = none) (rl : z.repL G' us acc) (hQ : Qp (.lst acc) n') : Q (.ref A) H' := by
  have sg : Same G' (upd G' A (.lst us)) := fun b o e => Ev.get_new e gA'
  refine hq (.ref A) (.lst acc) (upd G' A (.lst us)) H' n' ⟨fun b o e => ?_, ok'.pen, (upd_ne mA.p.symm).trans ok'.gp, gc_upd mA.c.symm ok'.gc, ok'.tb, gt_upd ok'.gt nt0_lst, ok'.mu.frz hA' nt_lst gA', ok'.lk⟩ ?_ (.lst upd_same (rl.mono sg)) hQ
  · by_cases q : b = A
    · subst q
      rw [upd_same] at e
      rw [← e]
      exact hA'
    · rw [upd_ne q] at e
      exact ok'.sub _ _ e
  · have st := s1.trans st' fun _ q => q
    refine ⟨st.same.trans sg, st.keep, fun b o e nb => ?_, st.al⟩
    by_cases q : b = A
    · subst q
      exact ((s1.al b nb).no hA).elim
    · rw [upd_ne q] at e
      exact st.new b o e nb
theorem lcG_rel {g : TG} {mg : PV → PEnv → (PEnv → Prop) → Prop} {tt : TT} {mt : PEnv → M Bool} {te : TE} {me : PEnv → M PV} {vs : List Nat} (hg : SimG z.nox g mg) (hw : GW g vs) (ht : SimT z.nox tt mt) (he : SimE z.nox te me)
    {σ : L2.St} {env : PEnv} {G H G1 H1 : Hp} {A : Addr} {Qp : PV → SN → Prop} {Q : VK} (hq : Post z z.rep G H Qp Q) (s1 : Step z.cm z.c (· = z.p) G H G1 H1) (fr1 : Fr z G1 H1) (er1 : EnvRel z G1 H1 σ env) (hA : H1 A = none) (mA : Mine z G1 A) :
    ∀ (k : Nat) (tr : GTr k) (mt0 : MTr k) (G0 G2 H2 : Hp) (n2 : SN) (acc : List PV) (us : List V), SimTr z.K z.cm z.p z.c k G0 tr mt0 → Same G0 G2 → Ok z.K z.cm z.p z.c G2 H2 n2 → Step z.cm z.c (· = z.p) G1 H1 G2 H2 → H2 A = some (.lst us) → G2 A = none → z.repL G2 us acc → acc.length + k ≤ 1000000 →
      lcM mg mt me (wipeP env vs) (fun ys n => Qp (.lst ys) n) k mt0 acc n2 → lcG g tt te vs σ A (fun H => Q (.ref A) H) k tr H2
  | 0, _, _, _, _, _, _, _, _, _, _, _, _, _, _, _, _, h => h.elim
  | k + 1, tr, mt0, G0, G2, H2, n2, acc, us, st, sg, ok, s2, hA2, gA2, rl, la, h => by
    have keepA : ∀ {Gb Hb : Hp}, Step z.cm z.c (· = z.p) G2 H2 Gb Hb → Hb A = some (.lst us) ∧ Gb A = none := fun {Gb Hb} s => by
      refine ⟨s.keep _ _ hA2 mA.p ko_lst, ?_⟩
      cases q : Gb A with
      | none => rfl
      | some o =>
        have := s.new A o q ⟨_, hA2, nt0_lst⟩
        rw [gA2] at this
        cases this
    refine st G2 H2 n2 _ _ _ _ sg ok h (fun G3 H3 n3 ok3 s3 h3 => ?_) fun x q G3 H3 n3 tr' mt' ok3 s3 rx st' h3 => ?_
    · obtain ⟨hA3, gA3⟩ := keepA s3
      exact lc_fin hq s1 hA mA ok3 (s2.trans s3 fun _ q => q) hA3 gA3 (rl.mono s3.same) h3
    · obtain ⟨hA3, gA3⟩ := keepA s3
      refine lcI_rel hg hw ht he fr1 er1 hA mA ok3 (s2.trans s3 fun _ q => q) hA3 gA3 (rl.mono s3.same) (by omega) rx h3 fun G' H' n' acc' us' ok' st4 sm hA' gA' rl' la' hm' => ?_
      exact lcG_rel hg hw ht he hq s1 fr1 er1 hA mA k tr' mt' G3 G' H' n' acc' us' st' sm ok' st4 hA' gA' rl' (by omega) hm'
theorem lcG_start {j : Nat} {m : MGen} {g : TG} {mg : PV → PEnv → (PEnv → Prop) → Prop} {tt : TT} {mt : PEnv → M Bool} {te : TE} {me : PEnv → M PV} {vs : List Nat} (hg : SimG z.nox g mg) (hw : GW g vs) (ht : SimT z.nox tt mt) (he : SimE z.nox te me)
    {σ : L2.St} {env : PEnv} {G H G1 H1 : Hp} {n1 : SN} {vs' : List V} {args : List PV} {Qp : PV → SN → Prop} {Q : VK} (hq : Post z z.rep G H Qp Q) (s1 : Step z.cm z.c (· = z.p) G H G1 H1) (ok1 : Ok z.K z.cm z.p z.c G1 H1 n1) (fr1 : Fr z G1 H1) (er1 : EnvRel z G1 H1 σ env) (r1 : z.repL G1 vs' args)
    (hm1 : args.length = j ∧ ∃ k, k ≤ 999999 ∧ m args W0 k n1 (fun n' => Qp (.lst []) n') fun q n2 tr' => mg q (wipeP env vs) fun env2 => mt env2 W0 n2 fun b n3 => if b = true then me env2 W0 n3 fun y n4 => lcM mg mt me (wipeP env vs) (fun ys n => Qp (.lst ys) n) k tr' [y] n4 else lcM mg mt me (wipeP env vs) (fun ys n => Qp (.lst ys) n) k tr' [] n3) :
    ∃ gd gd', spG z.K z.cm j m vs' H1 E0 gd gd' ∧ ∀ D, H1 D = none → ∃ k, gd k H1 (fun H' => H' D = none → Q (.ref D) (upd H' D (.lst []))) fun x H' tr' => H' D = none → lcI g tt te vs σ D x (upd H' D (.lst [])) (lcG g tt te vs σ D (fun H => Q (.ref D) H) k tr') := by
  obtain ⟨hj, k, hk, hm1⟩ := hm1
  refine ⟨GWant z.K z.cm z.p z.c m G1 args E0, fun _ _ _ _ => False, ⟨r1.len.trans hj, z.p, z.c, G1, args, r1, fun _ _ _ _ h => h, fun _ _ _ _ h => h.elim⟩, fun A hA => ⟨k, G1, n1, W0, _, _, ok1, Same.refl _, hm1, fun G2 H2 n2 ok2 s2 h2 hA2 => ?_, fun x q G2 H2 n2 tr mt2 ok2 s2 rx st h2 hA2 => ?_, fun cn fs C d G2 H2 n2 ok2 s2 hc rx hw => hw.elim⟩⟩
  · obtain ⟨ok3, s3⟩ := ok2.newO (o := .lst []) hA2
    have m2 := ok2.mine (fr1.stepP s2) hA2
    exact lc_fin hq s1 hA (ok1.mine fr1 hA) ok3 (s2.trans s3 fun _ q => q) upd_same m2.g .nil h2
  · obtain ⟨ok3, s3⟩ := ok2.newO (o := .lst []) hA2
    have m2 := ok2.mine (fr1.stepP s2) hA2
    have mA := ok1.mine fr1 hA
    refine lcI_rel (acc := []) (us := []) (Nm := fun acc n => lcM mg mt me (wipeP env vs) (fun ys n => Qp (.lst ys) n) k mt2 acc n) hg hw ht he fr1 er1 hA mA ok3 (s2.trans s3 fun _ q => q) upd_same m2.g .nil (Nat.zero_le _) (rx.mono s3.same) h2 fun G' H' n' acc' us' ok' st4 sm hA' gA' rl' la' hm' => ?_
    exact lcG_rel hg hw ht he hq s1 fr1 er1 hA mA k tr mt2 G2 G' H' n' acc' us' st (s3.same.trans sm) ok' st4 hA' gA' rl' (by simp at la'; omega) hm'
theorem sim_lcG {j : Nat} {m : MGen} {ta : TA} {ma : PEnv → M (List PV)} {g : TG} {mg : PV → PEnv → (PEnv → Prop) → Prop} {tt : TT} {mt : PEnv → M Bool} {te : TE} {me : PEnv → M PV} {vs : List Nat} (ha : SimA z ta ma) (hg : SimG z.nox g mg) (hw : GW g vs) (ht : SimT z.nox tt mt) (he : SimE z.nox te me) :
    SimE z (tLcG (tGnC (spG z.K z.cm j m) E0 ta) g tt te vs) (mLcG j m ma mg mt me vs) := by
  intro σ env G H n Qp Q ok fr er hm hq
  refine ha.bind ok fr er hm fun vs' args G1 H1 n1 ok1 fr1 er1 s1 r1 hm1 => ?_
  exact lcG_start hg hw ht he hq s1 ok1 fr1 er1 r1 hm1
def mLcGK (n0 l j : Nat) (gP : List PV → List PV → List PV) (m : MGen) (a b : PEnv → M (List PV)) (g : PV → PEnv → (PEnv → Prop) → Prop) (t : PEnv → M Bool) (e : PEnv → M PV) (vs : List Nat) : PEnv → M PV := fun env W n Q => a env W n fun ps n1 => b env W n1 fun qs n2 => ps.length = n0 ∧ qs.length = l ∧ (gP ps qs).length = j ∧ ∃ k, k ≤ 999999 ∧
  m (gP ps qs) W0 k n2 (fun n' => Q (.lst []) n') fun q n3 tr' => g q (wipeP env vs) fun env2 => t env2 W0 n3 fun b n4 => if b = true then e env2 W0 n4 fun y n5 => lcM g t e (wipeP env vs) (fun ys n => Q (.lst ys) n) k tr' [y] n5 else lcM g t e (wipeP env vs) (fun ys n => Q (.lst ys) n) k tr' [] n4
theorem sim_lcGK {n0 l j : Nat} {gP : List PV → List PV → List PV} {gV : List V → List V → List V} {m : MGen} {ta tk : TA} {ma mk : PEnv → M (List PV)} {g : TG} {mg : PV → PEnv → (PEnv → Prop) → Prop} {tt : TT} {mt : PEnv → M Bool} {te : TE} {me : PEnv → M PV} {vs : List Nat}
    (hgp : ∀ G vs ps zs qs, ps.length = n0 → qs.length = l → z.repL G vs ps → z.repL G zs qs → z.repL G (gV vs zs) (gP ps qs)) (ha : SimA z ta ma) (hk : SimA z tk mk) (hg : SimG z.nox g mg) (hw : GW g vs) (ht : SimT z.nox tt mt) (he : SimE z.nox te me) :
    SimE z (tLcG (tGnK n0 l (spG z.K z.cm j m) gV E0 ta tk) g tt te vs) (mLcGK n0 l j gP m ma mk mg mt me vs) := by
  intro σ env G H n Qp Q ok fr er hm hq
  refine ha.bind ok fr er hm fun vs1 ps G1 H1 n1 ok1 fr1 er1 s1 r1 hm1 => ?_
  refine hk.bind ok1 fr1 er1 hm1 fun zs qs G2 H2 n2 ok2 fr2 er2 s2 r2 hm2 => ?_
  obtain ⟨l1, l2, hm2⟩ := hm2
  exact ⟨r1.len.trans l1, r2.len.trans l2, lcG_start hg hw ht he hq (s1.trans s2 fun _ q => q) ok2 fr2 er2 (hgp G2 vs1 ps zs qs l1 l2 (r1.mono s2.same) r2) hm2⟩
end
end Pu
namespace Ev
open PySem L2
theorem u1 {A : Nat} (h : A + 64 < cLine) : A + 1 < cLine := by omega
end Ev
namespace Pu
open PySem PySem.Spec PyProof.Rows L2
def PV.key : PV → Option Key
  | .int i => some (.inl i)
  | .str s => some (.inr s)
  | _ => none
def valP (xs : List (Key × PV)) (k : Key) : Option PV := (xs.find? fun kv => decide (kv.1 = k)).map (·.2)
def keysI : List (Key × PV) → Option (List Int)
  | [] => some []
  | (.inl i, _) :: r => (keysI r).map (i :: ·)
  | _ => none
def mSetOwnD (i : Nat) : MS := fun _ D env n => D.nx (env.set i (.odc [])) n
def mInD (i : Nat) (g : Bool → Bool) (a : PEnv → M PV) : PEnv → M PV := fun env W n Q => a env W n fun x n1 => match x.key, env[i]? with
  | some k, some (.odc xs) => Q (.bl (g (valP xs k).isSome)) n1
  | _, _ => False
def mPutD (i : Nat) (k a : PEnv → M PV) : MS := fun W D env n => a env (W env) n fun y n1 => match env[i]? with
  | some (.odc xs) => k env (W env) n1 fun x n2 => match x.key with
    | some k => xs.length < 1000000 ∧ D.nx (env.set i (.odc (putP xs k y))) n2
    | none => False
  | _ => False
def mLenD (i : Nat) : PEnv → M PV := fun env _ n Q => match env[i]? with
  | some (.odc xs) => Q (.int xs.length) n
  | _ => False
def mFreezeD (i : Nat) (a : MS) : MS := fun W D env n => match env[i]? with
  | some (.odc xs) => a W D (env.set i (.val (.dct xs))) n
  | _ => a W D env n
def mIxD (a b : PEnv → M PV) : PEnv → M PV := fun env W n Q => a env W n fun x n1 => b env W n1 fun y n2 => match x, y.key with
  | .dct xs, some k => match valP xs k with
    | some v => Q v n2
    | none => False
  | _, _ => False
def mKeysI (i j : Nat) : PEnv → M PV := fun env _ n Q => match env[i]? with
  | some (.val (.dct xs)) => match keysI xs with
    | some is => j < env.length ∧ is.length ≤ 1000000 ∧ Q (.lst (is.map PV.int)) n
    | none => False
  | _ => False
def pSorted : List PV → M PV := fun xs _ n Q => match xs with
  | [.lst ys] => match toInts ys with
    | some is => ∀ js : List Int, js.Perm is → js.Pairwise (· ≤ ·) → Q (.lst (js.map PV.int)) n
    | none => False
  | _ => False
section
variable {K : PySem.W.Frag} {cm : Md} {p : Addr} {G : Hp}
theorem key_of {v : V} {q : PV} {k : Key} (r : Rep K cm p G v q) (h : q.key = some k) : v = kV k := by
  cases r <;> simp [PV.key] at h <;> subst h <;> rfl
theorem RepK.val (k : Key) : ∀ {v : List (Key × V)} {q : List (Key × PV)}, RepK K cm p G v q → (valP q k = none ∧ valV v k = none) ∨ ∃ x y, valP q k = some x ∧ valV v k = some y ∧ Rep K cm p G y x
  | _, _, .nil => .inl ⟨rfl, rfl⟩
  | _, _, .cons (k := j) (v := y) (q := x) r t => by
    by_cases e : j = k
    · exact .inr ⟨x, y, by simp [valP, List.find?_cons, e], valV_pos (p := (j, y)) e, r⟩
    · rcases RepK.val k t with ⟨h1, h2⟩ | ⟨x2, y2, h1, h2, h3⟩
      · exact .inl ⟨by simpa [valP, List.find?_cons, e] using h1, (valV_neg (p := (j, y)) e).trans h2⟩
      · exact .inr ⟨x2, y2, by simpa [valP, List.find?_cons, e] using h1, (valV_neg (p := (j, y)) e).trans h2, h3⟩
theorem RepK.keysI : ∀ {v : List (Key × V)} {q : List (Key × PV)} {is : List Int}, RepK K cm p G v q → Pu.keysI q = some is → is.length = v.length ∧ ∀ (i : Nat) (k : Key) (x : V), v[i]? = some (k, x) → ∃ j : Int, is[i]? = some j ∧ k = .inl j
  | _, _, _, .nil, h => by
    cases h
    exact ⟨rfl, fun i k x e => by simp at e⟩
  | _, _, _, .cons (k := .inl j) r t, h => by
    simp only [Pu.keysI] at h
    obtain ⟨is, h1, rfl⟩ := Option.map_eq_some_iff.mp h
    obtain ⟨a, b⟩ := RepK.keysI t h1
    refine ⟨by simp [a], fun i k x e => ?_⟩
    cases i with
    | zero =>
      simp at e
      exact ⟨j, rfl, e.1.symm⟩
    | succ i =>
      obtain ⟨j2, h2, h3⟩ := b i k x (by simpa using e)
      exact ⟨j2, by simpa using h2, h3⟩
  | _, _, _, .cons (k := .inr s) r t, h => by cases h
theorem repL_intsI : ∀ is : List Int, RepL K cm p G (is.map V.int) (is.map PV.int)
  | [] => .nil
  | i :: is => .cons (.int i) (repL_intsI is)
theorem ints_rep : ∀ {v : List V} {q : List PV} {is : List Int}, RepL K cm p G v q → toInts q = some is → v = is.map V.int
  | _, _, _, .nil, h => by
    cases h
    rfl
  | _, _, _, .cons (q := q) r t, h => by
    cases r <;> simp only [toInts] at h <;> try cases h
    obtain ⟨is, h1, rfl⟩ := Option.map_eq_some_iff.mp h
    rw [ints_rep t h1]
    rfl
end
section
variable {z : Z}
theorem sim_setOwnD {i : Nat} : SimS z (tAsg tDNewK (gName i)) (mSetOwnD i) := by
  intro σ env G H n D Dp ok fr er hm ed q hq1
  obtain ⟨ok2, s2⟩ := ok.newO (o := .dK []) hq1
  have mine := ok.mine fr hq1
  refine ed.nx _ _ G _ n (Same.refl _) ok2 (fr.stepP s2) ?_ hm
  refine (er.step s2).set ⟨q, [], rfl, upd_same, mine, fr.h0 hq1, .nil⟩ fun _ j s' b nj hj os' hb eb => ?_
  cases Option.some.inj eb
  obtain ⟨x, hx, rx⟩ := er.at_ j s' hj
  rw [hx] at hb
  cases Option.some.inj hb
  cases s' with
  | no => cases os'
  | val _ => cases os'
  | own ps =>
    obtain ⟨b, vs, e, hb, _⟩ := rx
    cases e
    rw [hq1] at hb
    cases hb
  | odc ps =>
    obtain ⟨b, vs, e, hb, _⟩ := rx
    cases e
    rw [hq1] at hb
    cases hb
  | obj c fs =>
    obtain ⟨b, C, dx, vs, e, _, hb, _⟩ := rx
    cases e
    rw [hq1] at hb
    cases hb
theorem sim_inD {i : Nat} {ta : TE} {ma : PEnv → M PV} (ha : SimE z ta ma) : SimE z (tDIn ta (tVar i)) (mInD i id ma) := by
  intro σ env G H n Qp Q ok fr er hm hq
  refine ha.bind ok fr er hm fun x px G1 H1 n1 ok1 fr1 er1 s1 r1 hm1 => ?_
  split at hm1
  · rename_i k xs hk he
    obtain ⟨_, hx, a, vs, rfl, hh, mine, h0, rk⟩ := er1.at_ i _ he
    refine ⟨_, hx, a, valV vs k, rfl, .inl ⟨vs, k, .inl hh, key_of r1 hk, rfl⟩, (hq.step s1).here ok1 (.bl _) ?_⟩
    rcases rk.val k with ⟨h1, h2⟩ | ⟨x2, y2, h1, h2, h3⟩ <;> rw [h2] <;> rw [h1] at hm1 <;> exact hm1
  · exact hm1.elim
theorem sim_notInD {i : Nat} {ta : TE} {ma : PEnv → M PV} (ha : SimE z ta ma) : SimE z (tDNotIn ta (tVar i)) (mInD i not ma) := by
  intro σ env G H n Qp Q ok fr er hm hq
  refine ha.bind ok fr er hm fun x px G1 H1 n1 ok1 fr1 er1 s1 r1 hm1 => ?_
  split at hm1
  · rename_i k xs hk he
    obtain ⟨_, hx, a, vs, rfl, hh, mine, h0, rk⟩ := er1.at_ i _ he
    refine ⟨_, hx, a, valV vs k, rfl, .inl ⟨vs, k, .inl hh, key_of r1 hk, rfl⟩, (hq.step s1).here ok1 (.bl _) ?_⟩
    rcases rk.val k with ⟨h1, h2⟩ | ⟨x2, y2, h1, h2, h3⟩ <;> rw [h2] <;> rw [h1] at hm1 <;> exact hm1
  · exact hm1.elim
theorem sim_putD {i : Nat} {tk ta : TE} {mk ma : PEnv → M PV} (hk : SimE z tk mk) (ha : SimE z ta ma) : SimS z (tAsg ta (gSub (tVar i) tk rSetD)) (mPutD i mk ma) := by
  intro σ env G H n D Dp ok fr er hm ed
  refine ha.bind ok fr er hm fun v q G1 H1 n1 ok1 fr1 er1 s1 r1 hm1 => ?_
  split at hm1
  · rename_i ps he
    obtain ⟨_, hx, a, vs, rfl, hh, mine, h0, rk⟩ := er1.at_ i _ he
    refine ⟨_, hx, ?_⟩
    refine hk.bind ok1 fr1 er1 hm1 fun k kq G2 H2 n2 ok2 fr2 er2 s2 r2 hm2 => ?_
    obtain ⟨_, hx2, a2, vs2, e2, hh2, mine2, h02, rk2⟩ := er2.at_ i _ he
    rw [hx] at hx2
    cases Option.some.inj hx2
    cases e2
    split at hm2
    · rename_i kk hkk
      refine ⟨a, _, rfl, .inl ⟨vs2, kk, hh2, key_of r2 hkk, by rw [rk2.len, sizeLine_eq]; have := hm2.1; omega, rfl⟩, ?_⟩
      refine ed.nx _ _ G2 _ n2 (s1.same.trans s2.same) (ok2.set mine2 hh2) (fr2.set mine2) ?_ hm2.2
      exact er2.store hx he rfl rfl mine2 ⟨a, _, rfl, upd_same, mine2, h02, rk2.put (r1.mono s2.same)⟩
    · exact hm2.elim
  · exact hm1.elim
theorem sim_lenD {i : Nat} : SimE z (tCB (fun xs H Q => ∃ a kvs, xs = [V.ref a] ∧ H a = some (.dK kvs) ∧ Q (.int kvs.length) H) (tCons (tVar i) tNil)) (mLenD i) := by
  intro σ env G H n Qp Q ok fr er hm hq
  unfold mLenD at hm
  split at hm
  · rename_i ps he
    obtain ⟨_, hx, a, vs, rfl, hh, mine, h0, rk⟩ := er.at_ i _ he
    refine ⟨_, hx, a, vs, rfl, hh, hq.here ok (.int _) ?_⟩
    rw [rk.len]
    exact hm
  · exact hm.elim
theorem EnvRel.freezeD {G H : Hp} {σ : L2.St} {env : PEnv} {n : SN} {i : Nat} {ps : List (Key × PV)} (ok : Ok z.K z.cm z.p z.c G H n) (fr : Fr z G H) (er : EnvRel z G H σ env) (he : env[i]? = some (.odc ps)) :
    ∃ G', Same G G' ∧ Ok z.K z.cm z.p z.c G' H n ∧ Fr z G' H ∧ EnvRel z G' H σ (env.set i (.val (.dct ps))) := by
  obtain ⟨x, hx, a, vs, rfl, hh, mine, h0, rl⟩ := er.at_ i _ he
  have sg : Same G (upd G a (.dK vs)) := fun b o e => Ev.get_new e mine.g
  refine ⟨upd G a (.dK vs), sg, ⟨fun b o e => ?_, ok.pen, (upd_ne mine.p.symm).trans ok.gp, gc_upd mine.c.symm ok.gc, ok.tb, gt_upd ok.gt nt0_dK, ok.mu.frz hh nt_dK mine.g, ok.lk⟩, ⟨⟨fr.st.same.trans sg, fr.st.keep, fun b o e nb => ?_, fr.st.al⟩, fr.mp, fr.sx.trans sg, fr.lk⟩, ?_⟩
  · by_cases q : b = a
    · subst q
      rw [upd_same] at e
      rw [← e]
      exact hh
    · rw [upd_ne q] at e
      exact ok.sub _ _ e
  · by_cases q : b = a
    · subst q
      exact (h0 nb).elim
    · rw [upd_ne q] at e
      exact fr.st.new b o e nb
  · refine ⟨fun j u hj => ?_, fun j k u u' b njk hj hk ou ou' aj ak => ?_, by rw [List.length_set, er.len]⟩
    · rcases get_set hj with ⟨rfl, rfl, hl⟩ | ⟨ne, hj2⟩
      · exact ⟨_, hx, _, rfl, .dct upd_same (rl.mono sg)⟩
      · obtain ⟨y, hy, r⟩ := er.at_ j u hj2
        refine ⟨y, hy, ?_⟩
        have na : ∀ b, u.isOwn = true → y = some (.ref b) → b ≠ a := fun b ou yb q => by
          subst q
          exact er.df j i u _ b ne hj2 he ou rfl (by rw [hy, yb]) hx
        cases u with
        | no => trivial
        | val q => exact let ⟨v, e, r⟩ := r; ⟨v, e, r.mono sg⟩
        | own qs =>
          obtain ⟨b, ws, rfl, hb, mb, hb0, rb⟩ := r
          exact ⟨b, ws, rfl, hb, ⟨(upd_ne (na b rfl rfl)).trans mb.g, mb.p, mb.c, mb.h⟩, hb0, rb.mono sg⟩
        | odc qs =>
          obtain ⟨b, ws, rfl, hb, mb, hb0, rb⟩ := r
          exact ⟨b, ws, rfl, hb, ⟨(upd_ne (na b rfl rfl)).trans mb.g, mb.p, mb.c, mb.h⟩, hb0, rb.mono sg⟩
        | obj c fs =>
          obtain ⟨b, C, dx, ws, rfl, hc, hb, mb, rb, me⟩ := r
          exact ⟨b, C, dx, ws, rfl, hc, hb, ⟨(upd_ne (na b rfl rfl)).trans mb.g, mb.p, mb.c, mb.h⟩, rb.mono sg, me⟩
    · rcases get_set hj with ⟨ej, eu, hl⟩ | ⟨ne, hj2⟩
      · subst eu
        cases ou
      · rcases get_set hk with ⟨ek, eu, hl⟩ | ⟨ne2, hk2⟩
        · subst eu
          cases ou'
        · exact er.df j k u u' b njk hj2 hk2 ou ou' aj ak
theorem sim_freezeD {i : Nat} {t : TS} {a : MS} (ha : SimS z t a) : SimS z t (mFreezeD i a) := by
  intro σ env G H n D Dp ok fr er hm ed
  unfold mFreezeD at hm
  split at hm
  · rename_i ps he
    obtain ⟨G', sg, ok', fr', er'⟩ := er.freezeD ok fr he
    exact ha σ _ G' H n D Dp ok' fr' er' hm (ed.mono sg)
  · exact ha σ env G H n D Dp ok fr er hm ed
theorem sim_ixD {ta tb : TE} {ma mb : PEnv → M PV} (ha : SimE z ta ma) (hb : SimE z tb mb) : SimE z (tDGet ta tb) (mIxD ma mb) := by
  intro σ env G H n Qp Q ok fr er hm hq
  refine ha.bind ok fr er hm fun x px G1 H1 n1 ok1 fr1 er1 s1 r1 hm1 => ?_
  refine hb.bind ok1 fr1 er1 hm1 fun y py G2 H2 n2 ok2 fr2 er2 s2 r2 hm2 => ?_
  have r1' := r1.mono s2.same
  cases r1' <;> try exact hm2.elim
  rename_i a vs ps hg rk
  split at hm2
  · rename_i xs k ek hk
    cases ek
    rcases rk.val k with ⟨h1, h2⟩ | ⟨x2, y2, h1, h2, h3⟩
    · rw [h1] at hm2
      exact hm2.elim
    · rw [h1] at hm2
      exact ⟨a, y2, rfl, .inl ⟨vs, k, .inl (ok2.sub _ _ hg), key_of r2 hk, h2.symm⟩, ((hq.step s1).step s2).here ok2 h3 hm2⟩
  · exact hm2.elim
theorem simC_sorted : SimC z (rSortedI z.K) pSorted := by
  intro σ env G H n Qp Q xs ps ok fr er rl hm hq
  unfold pSorted at hm
  split at hm
  · split at hm
    · rename_i is hi
      cases rl with
      | cons r t =>
        cases t
        cases r with
        | lst hs rl =>
          refine ⟨_, is, rfl, (ints_rep rl hi) ▸ SqL.of (ok.sub _ _ hs), fun js q hp hw hq1 => ?_⟩
          obtain ⟨ok2, s2⟩ := ok.new (o := .lst (js.map V.int)) hq1
          exact (hq.step s2).here ok2 (.lst upd_same (repL_intsI js)) (hm js hp hw)
    · exact hm.elim
  · exact hm.elim
theorem upd_comm {H : Hp} {a b : Addr} {o u : HO} (h : a ≠ b) : upd (upd H a o) b u = upd (upd H b u) a o := by
  funext c
  by_cases h1 : c = a
  · rw [h1, upd_ne h, upd_same, upd_same]
  · by_cases h2 : c = b
    · rw [h2, upd_same, upd_ne h.symm, upd_same]
    · rw [upd_ne h2, upd_ne h1, upd_ne h1, upd_ne h2]
theorem upd_self {H : Hp} {a : Addr} {o : HO} (h : H a = some o) : upd H a o = H := by
  funext c
  unfold upd
  by_cases h1 : c = a
  · rw [if_pos h1, h1, h]
  · rw [if_neg h1]
theorem sim_keysI {i j : Nat} (hij : i ≠ j) : SimE z (tLockE (tLc (iKeys (tVar i)) (gName j) tYes (tCB (fun xs H Q => (∃ i, xs = [.int i] ∧ Q (.int i) H) ∨ ∃ k, xs = [.bl k] ∧ Q (.int (if k then 1 else 0)) H) (tCons (tVar j) tNil)) [j])) (mKeysI i j) := by
  intro σ env G H n Qp Q ok fr er hm hq
  unfold mKeysI at hm
  split at hm
  · rename_i ps he
    split at hm
    · rename_i is hi
      obtain ⟨_, hx, v, rfl, r⟩ := er.at_ i _ he
      cases r with
      | dct hg rk =>
        rename_i a vs
        obtain ⟨hl, hk⟩ := rk.keysI hi
        have hh := ok.sub _ _ hg
        refine ⟨a, .dK vs, hh, trivial, fun od => ?_⟩
        refine ⟨_, hx, a, od, rfl, .inl ⟨vs, upd_same, fun D hD => ?_⟩⟩
        have hne : D ≠ a := fun q => by
          rw [q, upd_same] at hD
          cases hD
        have hD0 : H D = none := (upd_ne hne).symm.trans hD
        refine lc_it walk_keys (fun m H' => H' = upd (upd H a (.frz od (.dK vs))) D (.lst ((is.take m).map V.int))) rfl (fun m H' _ e => ?_) (fun m x H' H'' hm' e y => ?_) (fun H' e => ?_)
        · rw [e]
          exact (upd_ne hne.symm).trans upd_same
        · obtain ⟨rfl, k, x2, hv, rfl⟩ := y
          obtain ⟨jj, h1, rfl⟩ := hk m k x2 hv
          have hj : j < σ.length := by rw [er.len]; exact hm.1
          refine ⟨?_, ?_⟩
          · simp [L2.wipe, List.set_set]
          · refine ⟨_, ?_, .inl ⟨jj, rfl, (is.take m).map V.int, by rw [e]; exact upd_same, ?_, ?_⟩⟩
            · simp [L2.wipe, hj, kV]
            · have := hm.2.1
              rw [sizeLine_eq]
              simp
              omega
            · rw [e, upd_upd, List.take_add_one, h1]
              simp
        · rw [e]
          have e1 : (is.take vs.length) = is := List.take_of_length_le (by omega)
          refine ⟨(upd_ne hne.symm).trans upd_same, ?_⟩
          rw [e1, upd_comm hne, upd_upd, upd_self hh]
          obtain ⟨ok2, s2⟩ := ok.new (o := .lst (is.map V.int)) hD0
          exact (hq.step s2).here ok2 (.lst upd_same (repL_intsI is)) hm.2.2
    · exact hm.elim
  · exact hm.elim
end
end Pu
namespace Pu
open PySem PySem.Spec PyProof.Rows L2
def mStoreMN (f : Str) (i j : Nat) (m : PEnv → M PV) : MS := fun W D env n => m env (W env) n fun y n1 => match y, env[i]? with
  | .tup [a, b], some (.val x) => match mAt n1 x with
    | some (q, c, fs) => n1.lk = false ∧ fs.length < 1000 ∧ D.nx (env.set j (.val b)) (n1.setμ q (c, pputF f a fs))
    | none => False
  | _, _ => False
end Pu
namespace Ev
open PySem PySem.Spec PyProof.Rows L2
def shpX (d : PyData) : Bool := d.canLay0 && decide (d.depth ≤ 150)
def rNeX (K : PySem.W.Frag) : R2 := fun x y H Q => ∃ d e, Dp K H x d ∧ Dp K H y e ∧ shpX d = true ∧ shpX e = true ∧ Q (.bl (!PyData.eqv d e)) H
end Ev
namespace Pu
open PySem PySem.Spec PyProof.Rows L2
def pNeX : PV → PV → M PV := fun x y _ n Q => match x.data, y.data with
  | some d, some e => Ev.shpX d = true ∧ Ev.shpX e = true ∧ Q (.bl (!PyData.eqv d e)) n
  | _, _ => False
theorem simR_neX {z : Z} : SimR z (Ev.rNeX z.K) pNeX := by
  intro σ env G H n Qp Q x y px py ok fr er rx ry hm hq
  unfold pNeX at hm
  split at hm
  · rename_i d e hd he
    exact ⟨d, e, dp_of ok.sub rx hd, dp_of ok.sub ry he, hm.1, hm.2.1, hq.here ok (.bl _) hm.2.2⟩
  · exact hm.elim
end Pu
namespace K29
open PySem L2
def top (i : Nat) : Stmt := PySem.Challenge.pw_evenrules_k29_whole_heights_by_all_split.main.body.getD i (.Pass ⟨0, 0, 0, 0⟩)
def subs (c d : Str) : Bool := ([("Rule", ["Rule"]), ("WeightRule", ["WeightRule", "Rule"]), ("TurnRule", ["TurnRule", "WeightRule", "Rule"]), ("TryRule", ["TryRule", "WeightRule", "Rule"])] : List (Str × List Str)).any fun q => q.1 == c && q.2.contains d
def xsubs (c d : Str) : Bool := ([("BadRule", ["BadRule", "FairError", "ValueError"]), ("NoHalves", ["NoHalves", "FairError", "ValueError"]), ("BadNumber", ["BadNumber", "FairError", "ValueError"]), ("BadText", ["BadText", "FairError", "ValueError"])] : List (Str × List Str)).any fun q => q.1 == c && q.2.contains d
structure Tx (K : PySem.W.Frag) (mg : Str → Option Value) (cm : Pu.Md) (C_Rule : Addr) (C_WeightRule : Addr) (C_TurnRule : Addr) (C_TryRule : Addr) (X_BadRule : Addr) (X_NoHalves : Addr) (X_BadNumber : Addr) (X_BadText : Addr) (X_FairError : Addr) : Prop where
  m_int : mg "int" = none
  m_abs : mg "abs" = none
  m_len : mg "len" = none
  m_list : mg "list" = none
  m_range : mg "range" = none
  m_max : mg "max" = none
  m_isinstance : mg "isinstance" = none
  m_bool : mg "bool" = none
  m_all : mg "all" = none
  m_tuple : mg "tuple" = none
  m_sorted : mg "sorted" = none
  g_Rule : mg "Rule" = some (.ref C_Rule)
  cm_Rule : cm "Rule" = some C_Rule
  ks_Rule : ∀ c C, cm c = some C → Ev.CI K C ∧ PySem.W.kitOne K (.ref C) (.ref C_Rule) = some (subs c "Rule")
  g_WeightRule : mg "WeightRule" = some (.ref C_WeightRule)
  cm_WeightRule : cm "WeightRule" = some C_WeightRule
  ks_WeightRule : ∀ c C, cm c = some C → Ev.CI K C ∧ PySem.W.kitOne K (.ref C) (.ref C_WeightRule) = some (subs c "WeightRule")
  g_TurnRule : mg "TurnRule" = some (.ref C_TurnRule)
  cm_TurnRule : cm "TurnRule" = some C_TurnRule
  ks_TurnRule : ∀ c C, cm c = some C → Ev.CI K C ∧ PySem.W.kitOne K (.ref C) (.ref C_TurnRule) = some (subs c "TurnRule")
  nf_TurnRule : ∀ d D, cm d = some D → Ev.CI K D ∧ PySem.W.notFirst K C_TurnRule (.ref D) = true
  ne_TurnRule : Ev.NeO K C_TurnRule
  g_TryRule : mg "TryRule" = some (.ref C_TryRule)
  cm_TryRule : cm "TryRule" = some C_TryRule
  ks_TryRule : ∀ c C, cm c = some C → Ev.CI K C ∧ PySem.W.kitOne K (.ref C) (.ref C_TryRule) = some (subs c "TryRule")
  nf_TryRule : ∀ d D, cm d = some D → Ev.CI K D ∧ PySem.W.notFirst K C_TryRule (.ref D) = true
  ne_TryRule : Ev.NeO K C_TryRule
  kt : ∀ c C, cm c = some C → Ev.CI K C ∧ ∀ T ∈ Pu.BTys, PySem.W.kitOne K (.ref C) (.type T) = some false
  na_turn : ∀ c C, cm c = some C → Cls K C ∧ NoAttr K C "turn"
  na_turn_plus : ∀ c C, cm c = some C → Cls K C ∧ NoAttr K C "turn_plus"
  na_times : ∀ c C, cm c = some C → Cls K C ∧ NoAttr K C "times"
  na_plus : ∀ c C, cm c = some C → Cls K C ∧ NoAttr K C "plus"
  k_MOST_PLUS : ∃ t, mg "MOST_PLUS" = some (.int (6) t)
  k_MOST_TURN : ∃ t, mg "MOST_TURN" = some (.int (8) t)
  k_MOST_WEIGHT : ∃ t, mg "MOST_WEIGHT" = some (.int (1000000000000000000000000000000000000000000000000000000000000) t)
  k_MOST_HEIGHT : ∃ t, mg "MOST_HEIGHT" = some (.int (1000) t)
  k_MOST_KEYS : ∃ t, mg "MOST_KEYS" = some (.int (1000000000000000000000000000000) t)
  cv_WeightRule_MOST : ∃ mc u, ClX.CRead K C_WeightRule mc ∧ ClX.CVal K C_WeightRule mc "MOST" (.int (6)) u
  xg_BadRule : mg "BadRule" = some (.ref X_BadRule)
  xg_NoHalves : mg "NoHalves" = some (.ref X_NoHalves)
  xg_BadNumber : mg "BadNumber" = some (.ref X_BadNumber)
  xg_BadText : mg "BadText" = some (.ref X_BadText)
  xg_FairError : mg "FairError" = some (.ref X_FairError)
  cx_BadRule : cm.cx "BadRule" = some X_BadRule
  oe_BadRule : OexC K X_BadRule
  cx_NoHalves : cm.cx "NoHalves" = some X_NoHalves
  oe_NoHalves : OexC K X_NoHalves
  cx_BadNumber : cm.cx "BadNumber" = some X_BadNumber
  oe_BadNumber : OexC K X_BadNumber
  cx_BadText : cm.cx "BadText" = some X_BadText
  oe_BadText : OexC K X_BadText
  xx : ∀ c C, cm.cx c = some C → ExcC K C
  xs : ∀ c C, cm.cx c = some C → PySem.W.subIn K (.ref C) (.type "StopIteration") = some false
  xn_part : ∀ c C, cm.cx c = some C → PySem.W.findIn K (.ref C) "part" = some none
  xn_value : ∀ c C, cm.cx c = some C → PySem.W.findIn K (.ref C) "value" = some none
  xn_weight : ∀ c C, cm.cx c = some C → PySem.W.findIn K (.ref C) "weight" = some none
end K29
set_option hygiene false
local macro_rules | `(tactic| walk_at "ev hl") => `(tactic| (repeat (first | assumption | exact upd_same | refine Ev.get_new ?_ (by assumption) | refine Ev.get_ne (by assumption) ?_ | refine Ev.get_but (by assumption) (by walk_at "ev ne") ?_ | refine Ev.get_same (by assumption) ?_)))
local macro_rules | `(tactic| walk_at "ev fr") => `(tactic| (first | assumption | exact Ev.free_upd (by assumption) | exact Ev.free_upd (Ev.free_upd (by assumption)) | exact Ev.free_upd (Ev.free_upd (Ev.free_upd (by assumption))) | exact Ev.free_upd (Ev.free_upd (Ev.free_upd (Ev.free_upd (by assumption)))) | exact Ev.free_upd (Ev.free_upd (Ev.free_upd (Ev.free_upd (Ev.free_upd (by assumption))))) | exact Ev.free_upd (Ev.free_upd (Ev.free_upd (Ev.free_upd (Ev.free_upd (Ev.free_upd (by assumption)))))) | exact Ev.free_upd (Ev.free_upd (Ev.free_upd (Ev.free_upd (Ev.free_upd (Ev.free_upd (Ev.free_upd (by assumption))))))) | exact Ev.free_upd (Ev.free_upd (Ev.free_upd (Ev.free_upd (Ev.free_upd (Ev.free_upd (Ev.free_upd (Ev.free_upd (by assumption)))))))) | exact Ev.free_upd (Ev.free_upd (Ev.free_upd (Ev.free_upd (Ev.free_upd (Ev.free_upd (Ev.free_upd (Ev.free_upd (Ev.free_upd (by assumption)))))))))))
local macro_rules | `(tactic| walk_at "ev pen") => `(tactic| (first | assumption | exact Ev.Pen.new (by assumption) (by assumption) | exact Ev.Pen.new (Ev.Pen.new (by assumption) (by assumption)) (by assumption) | exact Ev.Pen.new (Ev.Pen.new (Ev.Pen.new (by assumption) (by assumption)) (by assumption)) (by assumption) | exact Ev.Pen.new (Ev.Pen.new (Ev.Pen.new (Ev.Pen.new (by assumption) (by assumption)) (by assumption)) (by assumption)) (by assumption) | exact Ev.Pen.new (Ev.Pen.new (Ev.Pen.new (Ev.Pen.new (Ev.Pen.new (by assumption) (by assumption)) (by assumption)) (by assumption)) (by assumption)) (by assumption) | exact Ev.Pen.new (Ev.Pen.new (Ev.Pen.new (Ev.Pen.new (Ev.Pen.new (Ev.Pen.new (by assumption) (by assumption)) (by assumption)) (by assumption)) (by assumption)) (by assumption)) (by assumption) | exact Ev.Pen.new (Ev.Pen.new (Ev.Pen.new (Ev.Pen.new (Ev.Pen.new (Ev.Pen.new (Ev.Pen.new (by assumption) (by assumption)) (by assumption)) (by assumption)) (by assumption)) (by assumption)) (by assumption)) (by assumption) | exact Ev.Pen.new (Ev.Pen.new (Ev.Pen.new (Ev.Pen.new (Ev.Pen.new (Ev.Pen.new (Ev.Pen.new (Ev.Pen.new (by assumption) (by assumption)) (by assumption)) (by assumption)) (by assumption)) (by assumption)) (by assumption)) (by assumption)) (by assumption) | exact Ev.Pen.new (Ev.Pen.new (Ev.Pen.new (Ev.Pen.new (Ev.Pen.new (Ev.Pen.new (Ev.Pen.new (Ev.Pen.new (Ev.Pen.new (by assumption) (by assumption)) (by assumption)) (by assumption)) (by assumption)) (by assumption)) (by assumption)) (by assumption)) (by assumption)) (by assumption) | exact Ev.Pen.new (Ev.Pen.new (Ev.Pen.new (Ev.Pen.new (Ev.Pen.new (Ev.Pen.new (Ev.Pen.new (Ev.Pen.new (Ev.Pen.new (Ev.Pen.new (by assumption) (by assumption)) (by assumption)) (by assumption)) (by assumption)) (by assumption)) (by assumption)) (by assumption)) (by assumption)) (by assumption)) (by assumption) | exact Ev.Pen.new (Ev.Pen.new (Ev.Pen.new (Ev.Pen.new (Ev.Pen.new (Ev.Pen.new (Ev.Pen.new (Ev.Pen.new (Ev.Pen.new (Ev.Pen.new (Ev.Pen.new (by assumption) (by assumption)) (by assumption)) (by assumption)) (by assumption)) (by assumption)) (by assumption)) (by assumption)) (by assumption)) (by assumption)) (by assumption)) (by assumption) | exact Ev.Pen.new (Ev.Pen.new (Ev.Pen.new (Ev.Pen.new (Ev.Pen.new (Ev.Pen.new (Ev.Pen.new (Ev.Pen.new (Ev.Pen.new (Ev.Pen.new (Ev.Pen.new (Ev.Pen.new (by assumption) (by assumption)) (by assumption)) (by assumption)) (by assumption)) (by assumption)) (by assumption)) (by assumption)) (by assumption)) (by assumption)) (by assumption)) (by assumption)) (by assumption)))
local macro_rules | `(tactic| walk_at "ev ne") => `(tactic| (first | assumption | exact Ev.Pen.ne (by assumption) (by walk_at "ev fr")))
local macro_rules | `(tactic| walk_at "ev but") => `(tactic| (repeat (first | assumption | exact Ev.But.refl _ _ | refine Ev.But.new ?_ (by assumption) | refine Ev.But.trans ?_ (by assumption) | refine Ev.But.set ?_)))
local macro_rules | `(tactic| walk_at "ev sm") => `(tactic| (repeat (first | assumption | exact Same.refl _ | refine Ev.Same.new ?_ (by assumption) | refine Same.trans ?_ (by assumption))))
local macro_rules | `(tactic| walk_at "ev sz") => `(tactic| (rw [sizeLine_eq]; simp))
local macro_rules | `(tactic| walk_at "ev flen") => `(tactic| (show _ < 1000; refine Nat.lt_of_le_of_lt (?_ : _ ≤ 20) (by decide); repeat (first | exact Nat.zero_le _ | refine Ev.len_putF ?_)))
local macro_rules | `(tactic| walk_at "ev rd") => `(tactic| (repeat (first | refine ⟨_, rfl, ?_⟩ | refine ⟨_, _, rfl, rfl, ?_⟩ | refine Or.inl ⟨_, rfl, ?_⟩ | refine Or.inr ⟨_, rfl, ?_⟩ | refine ⟨_, _, _, _, rfl, rfl, SqL.of (by walk_at "ev hl"), (by rfl), ?_⟩ | refine ⟨_, _, _, _, rfl, rfl, SqT.of (by walk_at "ev hl"), (by rfl), ?_⟩ | refine ⟨_, _, rfl, Or.inl (SqL.of (by walk_at "ev hl")), ?_⟩ | refine ⟨_, _, rfl, Or.inr (SqT.of (by walk_at "ev hl")), ?_⟩ | refine ⟨_, _, _, _, rfl, rfl, (by walk_at "ev hl"), (by rfl), ?_⟩ | (refine ⟨Nat.zero_le _, fun _ hfr => ?_⟩; try (have := Ev.Pen.ne (by walk_at "ev pen") hfr)) | (refine ⟨(by walk_at "ev sz"), fun _ hfr => ?_⟩; try (have := Ev.Pen.ne (by walk_at "ev pen") hfr)) | refine ⟨(by show (0 : Int) < _; omega), ?_⟩ | refine ⟨(by show CMul _ _; unfold CMul; omega), ?_⟩ | refine ⟨(by show CPow _ _; unfold CPow; omega), ?_⟩ | refine ⟨(by show CDiv _ _; unfold CDiv; omega), ?_⟩ | refine ⟨⟨_, SqT.of (by walk_at "ev hl")⟩, ?_⟩ | refine ⟨⟨_, SqL.of (by walk_at "ev hl")⟩, ?_⟩ | refine ⟨rfl, ?_⟩ | refine iteT ?_ | refine iteF ?_ | refine ⟨_, _, _, _, _, rfl, .ty _, .base (.int _), kit_ty rfl, ?_⟩ | refine ⟨_, _, _, _, _, rfl, .ty _, .base (.tup (by walk_at "ev hl")), kit_ty rfl, ?_⟩ | refine ⟨_, _, _, _, _, rfl, .ty _, .base (.lst (by walk_at "ev hl")), kit_ty rfl, ?_⟩ | refine ⟨Or.inl ⟨rfl, _, SqL.of (by walk_at "ev hl")⟩, ?_⟩ | refine ⟨_, _, rfl, SqT.of (by walk_at "ev hl"), rfl, ?_⟩ | refine ⟨_, _, rfl, ?_⟩ | refine ⟨_, _, _, rfl, ?_⟩)))
namespace K29
open PySem L2
theorem sc_draw : FnScope ["_law_pen_here", "_law_many", "_law_digit", "_law_at", "_law_cell", "_law_great", "_law_mixed"] ["_law_pen_here", "_law_many"] (C8.fnScope (top 38)) := C8.fnScope_by (by decide +kernel)
def spDraw : Sp := fun vs H Q _ => ∃ (p c : Addr) (m n : Int), vs = [.ref p, .int m] ∧ Ev.Pen H p c n ∧ n ≤ 100000 ∧ 0 < m ∧ m ≤ 10000000000000000000000000000000000000000000000000000000000000000000000 ∧
  ∀ (d : Int) (H' : Hp), 0 ≤ d → d < m → Ev.But p H H' → Ev.Pen H' p c (n + 1) → Q (.int d) H'
section
variable {P : Program} {w : World} {K : PySem.W.Frag} {mg : Str → Option Value} {base : Heap} {cm : Pu.Md} {C_Rule : Addr} {C_WeightRule : Addr} {C_TurnRule : Addr} {C_TryRule : Addr} {X_BadRule : Addr} {X_NoHalves : Addr} {X_BadNumber : Addr} {X_BadText : Addr} {X_FairError : Addr}
theorem ok_draw {f : Addr} {fd : FuncData} (F : Ev.Fn K "_law_draw" "_law_draw" (top 38) f fd) (T : Tx K mg cm C_Rule C_WeightRule C_TurnRule C_TryRule X_BadRule X_NoHalves X_BadNumber X_BadText X_FairError) : Ev.GOk P w K mg base (L2.CX P w) 1 f fd ["_law_pen_here", "_law_many"] spDraw := by
  refine Ev.gfn0 F sc_draw (fun vs H Q E h => ?_) (fun cdv A outer s H vs Q E hgd hr h => ?_)
  · obtain ⟨p, c, m, n, rfl, ⟨t, g, ns, hp, hc, t0, t1, g0, hcp, hl⟩, hn, m0, m1, k⟩ := h
    rfl
  · obtain ⟨p, c, m, n, rfl, ⟨t, g, ns, hp, hc, t0, t1, g0, hcp, hl⟩, hn, m0, m1, k⟩ := h
    have hu : _ + 64 < cLine := hr.units
    refine ⟨_, (pss_cons (ps_if (pt_cmpR op_gt (pe_ix ix_list (pv 0) pe_int (fun _ _ => rfl)) pe_int (nomark _))
  (pss_cons (ps_set (i := 2) sc_draw.nd rfl (.inl rfl) (pe_op op_mod (pe_callTy call_int1 (by rfl) T.m_int (by decide +kernel) (pa_cons (pe_ix ix_list (pv 0) pe_int (fun _ _ => rfl)) pa_nil)) (pv 1)))
  (pss_cons (ps_asg (pe_op op_fdivW (pe_callTy call_int1 (by rfl) T.m_int (by decide +kernel) (pa_cons (pe_ix ix_list (pv 0) pe_int (fun _ _ => rfl)) pa_nil)) (pv 1)) (pg_sub (pv 0) pe_int set_list))
  (pss_one (ps_ret (pv 2)))))
  pss_nil)
  (pss_cons (ps_set (i := 3) sc_draw.nd rfl (.inl rfl) (pe_ix ix_list (pv 0) pe_int (fun _ _ => rfl)))
  (pss_cons (ps_asg (pe_op op_add (pv 3) pe_int) (pg_sub (pv 0) pe_int set_list))
  (pss_cons (ps_set (i := 4) sc_draw.nd rfl (.inl rfl) (pe_op op_add (pe_op op_mul pe_int (pv 3)) pe_int))
  (pss_cons (ps_if (pt_cmpR (op_neD hu) (pe_ix ix_list (pv 0) pe_int (fun _ _ => rfl)) (pe_lst pa_nil) (nomark _))
  (pss_one (ps_set (i := 4) sc_draw.nd rfl (.inl rfl) (pe_ix ix_list (pe_ix ix_list (pv 0) pe_int (fun _ _ => rfl)) (pe_op op_mod (pe_callTy call_int1 (by rfl) T.m_int (by decide +kernel) (pa_cons (pv 3) pa_nil)) (pe_callB call_len_seq (by rfl) T.m_len (by decide +kernel) (pa_cons (pe_ix ix_list (pv 0) pe_int (fun _ _ => rfl)) pa_nil))) (fun _ _ => rfl))))
  pss_nil)
  (pss_cons (ps_if (pw_and (pt_cmpR op_lt (pv 3) (pe_callB call_len_seq (by rfl) T.m_len (by decide +kernel) (pa_cons (pe_ix ix_list (pv 0) pe_int (fun _ _ => rfl)) pa_nil)) (nomark _)) (pw_and1 (pt_cmpR op_ge (pe_callB call_abs (by rfl) T.m_abs (by decide +kernel) (pa_cons (pv 4) pa_nil)) (pe_op op_pow pe_int pe_int) (nomark _)))).pt
  (pss_cons (ps_set (i := 5) sc_draw.nd rfl (.inl rfl) (pe_op op_add (pe_op op_mul pe_int (pe_op op_sub (pe_callB call_abs (by rfl) T.m_abs (by decide +kernel) (pa_cons (pv 4) pa_nil)) (pe_op op_pow pe_int pe_int))) (pe_callTy call_int1 (by rfl) T.m_int (by decide +kernel) (pa_cons (pe_cmpR op_lt (pv 4) pe_int (nomark _)) pa_nil))))
  (pss_cons (ps_asg (pe_op op_fdivW (pe_callTy call_int1 (by rfl) T.m_int (by decide +kernel) (pa_cons (pv 5) pa_nil)) (pv 1)) (pg_sub (pv 0) pe_int set_list))
  (pss_one (ps_ret (pe_op op_mod (pe_callTy call_int1 (by rfl) T.m_int (by decide +kernel) (pa_cons (pv 5) pa_nil)) (pv 1))))))
  pss_nil)
  (pss_cons (ps_set (i := 6) sc_draw.nd rfl (.inl rfl) (pe_op op_mod (pe_callTy call_int1 (by rfl) T.m_int (by decide +kernel) (pa_cons (pe_op op_pow (pe_op op_add (pe_op op_add (pe_op op_mod (pe_callTy call_int1 (by rfl) T.m_int (by decide +kernel) (pa_cons (pv 4) pa_nil)) pe_int) (pe_op op_mul pe_int (pv 3))) pe_int) pe_int) pa_nil)) pe_int))
  (pss_cons (ps_set (i := 6) sc_draw.nd rfl (.inl rfl) (pe_op op_mod (pe_callTy call_int1 (by rfl) T.m_int (by decide +kernel) (pa_cons (pe_op op_pow (pe_op op_add (pe_op op_add (pe_op op_mul (pv 6) (pe_op op_add (pe_op op_mul pe_int (pv 3)) pe_int)) (pe_op op_mul (pe_op op_mul pe_int (pv 3)) (pv 3))) pe_int) pe_int) pa_nil)) pe_int))
  (pss_one (ps_ret (pe_op op_mod (pe_callTy call_int1 (by rfl) T.m_int (by decide +kernel) (pa_cons (pe_op op_fdiv (pv 6) pe_int) pa_nil)) (pv 1)))))))))))), ?_⟩
    have hw : ∀ z, CDivW z m := fun z => wide_div (b := 256) m0 (by omega) (by decide) (by decide)
    walk_at "ev rd"
    refine ite2 (fun hg => ?_) (fun hg => ?_)
    · walk_at "ev rd"
      refine ⟨hw _, ?_⟩
      walk_at "ev rd"
      exact k (g % m) _ (Int.emod_nonneg _ (by omega)) (Int.emod_lt_of_pos _ m0) (Ev.But.refl p H).set ⟨t, g / m, ns, upd_same, Ev.get_ne hcp hc, t0, by omega, Int.ediv_nonneg g0 (by omega), hcp, hl⟩
    · walk_at "ev rd"
      refine Ev.ne_ints (ns := ns) (ms := []) (SqL.of (by walk_at "ev hl")) (SqL.of (by walk_at "ev hl")) ?_
      walk_at "ev rd"
      have hlen : ((ns.map V.int).length : Int) = (ns.length : Int) := by rw [List.length_map]
      refine ite2 (fun h0 => ?_) (fun h0 => ?_)
      · have hne : 0 < ns.length := by
          cases ns with
          | nil => simp at h0
          | cons _ _ => simp
        walk_at "ev rd"
        obtain ⟨z, hz, hat⟩ := Ev.at_int (ns := ns) (i := t % ((ns.map V.int).length : Int)) (Int.emod_nonneg _ (by omega)) (by have := Int.emod_lt_of_pos t (show (0 : Int) < ((ns.map V.int).length : Int) by omega); omega)
        refine ⟨_, _, _, _, rfl, rfl, SqL.of (by walk_at "ev hl"), hat, ?_⟩
        walk_at "ev rd"
        refine ite2 (fun h1 => ?_) (fun h1 => ?_)
        · walk_at "ev rd"
          refine ite2 (fun h2 => ?_) (fun h2 => ?_)
          · walk_at "ev rd"
            refine ⟨hw _, ?_⟩
            walk_at "ev rd"
            exact k _ _ (Int.emod_nonneg _ (by omega)) (Int.emod_lt_of_pos _ m0) ((Ev.But.refl p H).set.new (by assumption)).set ⟨t + 1, _, ns, upd_same, (by walk_at "ev hl"), by omega, by omega, Int.ediv_nonneg (Ev.great_nn (of_decide_eq_true h2)) (by omega), hcp, hl⟩
          · walk_at "ev rd"
            refine ⟨Ev.pow3 (by omega) (by omega) t0 (by omega) (by decide) (by decide) (by decide) (by decide) (by decide) (by decide), ?_⟩
            walk_at "ev rd"
            exact k _ _ (Int.emod_nonneg _ (by omega)) (Int.emod_lt_of_pos _ m0) ((Ev.But.refl p H).set.new (by assumption)) ⟨t + 1, g, ns, (by walk_at "ev hl"), (by walk_at "ev hl"), by omega, by omega, g0, hcp, hl⟩
        · refine iteF ?_
          walk_at "ev rd"
          refine ⟨Ev.pow3 (by omega) (by omega) t0 (by omega) (by decide) (by decide) (by decide) (by decide) (by decide) (by decide), ?_⟩
          walk_at "ev rd"
          exact k _ _ (Int.emod_nonneg _ (by omega)) (Int.emod_lt_of_pos _ m0) ((Ev.But.refl p H).set.new (by assumption)) ⟨t + 1, g, ns, (by walk_at "ev hl"), (by walk_at "ev hl"), by omega, by omega, g0, hcp, hl⟩
      · walk_at "ev rd"
        refine ite2 (fun h1 => ?_) (fun h1 => ?_)
        · walk_at "ev rd"
          refine ite2 (fun h2 => ?_) (fun h2 => ?_)
          · walk_at "ev rd"
            refine ⟨hw _, ?_⟩
            walk_at "ev rd"
            exact k _ _ (Int.emod_nonneg _ (by omega)) (Int.emod_lt_of_pos _ m0) ((Ev.But.refl p H).set.new (by assumption)).set ⟨t + 1, _, ns, upd_same, (by walk_at "ev hl"), by omega, by omega, Int.ediv_nonneg (Ev.great_nn (of_decide_eq_true h2)) (by omega), hcp, hl⟩
          · walk_at "ev rd"
            refine ⟨Ev.pow3 (by omega) (by omega) t0 (by omega) (by decide) (by decide) (by decide) (by decide) (by decide) (by decide), ?_⟩
            walk_at "ev rd"
            exact k _ _ (Int.emod_nonneg _ (by omega)) (Int.emod_lt_of_pos _ m0) ((Ev.But.refl p H).set.new (by assumption)) ⟨t + 1, g, ns, (by walk_at "ev hl"), (by walk_at "ev hl"), by omega, by omega, g0, hcp, hl⟩
        · refine iteF ?_
          walk_at "ev rd"
          refine ⟨Ev.pow3 (by omega) (by omega) t0 (by omega) (by decide) (by decide) (by decide) (by decide) (by decide) (by decide), ?_⟩
          walk_at "ev rd"
          exact k _ _ (Int.emod_nonneg _ (by omega)) (Int.emod_lt_of_pos _ m0) ((Ev.But.refl p H).set.new (by assumption)) ⟨t + 1, g, ns, (by walk_at "ev hl"), (by walk_at "ev hl"), by omega, by omega, g0, hcp, hl⟩
end
end K29
namespace K29
open PySem L2
theorem sc_pen : FnScope ["_law_script"] ["_law_script"] (C8.fnScope (top 37)) := C8.fnScope_by (by decide +kernel)
def spPen (K : PySem.W.Frag) : Sp := fun vs H Q _ => ∃ (a : Addr) (ns : List Int), vs = [.ref a] ∧ SqL K H a (ns.map V.int) ∧ ns.length ≤ 63 ∧
  ∀ (p c : Addr) (H' : Hp), Same H H' → H p = none → Ev.Pen H' p c 0 → Q (.ref p) H'
section
variable {P : Program} {w : World} {K : PySem.W.Frag} {mg : Str → Option Value} {base : Heap} {cm : Pu.Md} {C_Rule : Addr} {C_WeightRule : Addr} {C_TurnRule : Addr} {C_TryRule : Addr} {X_BadRule : Addr} {X_NoHalves : Addr} {X_BadNumber : Addr} {X_BadText : Addr} {X_FairError : Addr}
theorem ok_pen {f : Addr} {fd : FuncData} (F : Ev.Fn K "_law_pen" "_law_pen" (top 37) f fd) (T : Tx K mg cm C_Rule C_WeightRule C_TurnRule C_TryRule X_BadRule X_NoHalves X_BadNumber X_BadText X_FairError) : Ev.GOk P w K mg base (L2.CX P w) 1 f fd ["_law_script"] (spPen K) := by
  refine Ev.gfn0 F sc_pen (fun vs H Q E h => ?_) (fun cdv A outer s H vs Q E hgd hr h => ?_)
  · obtain ⟨a, ns, rfl, hS, hl, k⟩ := h
    rfl
  · obtain ⟨a, ns, rfl, hS, hl, k⟩ := h
    have hu : _ + 64 < cLine := hr.units
    refine ⟨_, (pss_one (ps_ret (pe_lst (pa_cons (pe_callTy call_list_of (by rfl) T.m_list (by decide +kernel) (pa_cons (pe_slice sl_list (pv 0) po_none (po_some pe_int)) pa_nil)) (pa_cons pe_int (pa_cons pe_int pa_nil)))))), ?_⟩
    obtain ⟨ms, e, hm, _⟩ := Ev.cut_ints ns none (some 63)
    walk_at "ev rd"
    refine ⟨_, _, rfl, hS, fun c nc => ?_⟩
    rw [e]
    refine ⟨_, _, rfl, Or.inl (SqL.of (by walk_at "ev hl")), fun l nl => ⟨(by walk_at "ev sz"), fun p np => ?_⟩⟩
    refine k p l _ (fun b o h => by walk_at "ev hl") ?_ ⟨0, 0, ms, upd_same, (by walk_at "ev hl"), by decide, by decide, by decide, ?_, by omega⟩
    · cases z : H p with
      | none => rfl
      | some o =>
        rw [Ev.get_new (Ev.get_new z nc) nl] at np
        cases np
    · intro z
      subst z
      rw [upd_same] at np
      cases np
end
end K29
namespace K29
open PySem L2
section
variable {P : Program} {w : World} {K : PySem.W.Frag} {mg : Str → Option Value} {base : Heap} {cm : Pu.Md} {C_Rule : Addr} {C_WeightRule : Addr} {C_TurnRule : Addr} {C_TryRule : Addr} {X_BadRule : Addr} {X_NoHalves : Addr} {X_BadNumber : Addr} {X_BadText : Addr} {X_FairError : Addr}
end
end K29
namespace K29
open PySem L2 Pu
theorem draw_sp (p c : Addr) (m n : Int) (H : Hp) (Q : VK) (E : XK) (h1 : Ev.Pen H p c n) (h2 : n ≤ 100000) (h3 : 0 < m) (h4 : m ≤ 10000000000000000000000000000000000000000000000000000000000000000000000) (h5 : ∀ (d : Int) (H' : Hp), 0 ≤ d → d < m → Ev.But p H H' → Ev.Pen H' p c (n + 1) → Q (.int d) H') : spDraw [.ref p, .int m] H Q E := ⟨p, c, m, n, rfl, h1, h2, h3, h4, h5⟩
end K29
set_option hygiene false
local macro_rules | `(tactic| walk_at "ev s0") => `(tactic| try dsimp only [Cx.nox, Cx.wish, Cx.blk, Cx.tr, cxOf, Ev.cxS, Ev.gvX, List.map, List.length, Nat.reduceAdd])
namespace K29
open PySem L2 Pu
theorem sc_law_pick : FnScope ["_law_pen_here", "_law_some"] ["_law_pen_here", "_law_some"] (C8.fnScope (top 39)) := C8.fnScope_by (by decide +kernel)
def b_law_pick : MS := (mRet (mOp pIxL (mVar 1) (mDraw (mCons (mVar 0) (mCons (mCB pLen (mCons (mVar 1) mNil)) mNil)))))
def m_law_pick : List PV → M PV := mFnX 2 b_law_pick
theorem run_law_pick {a0 a1 : PV} {W : XP} {n : SN} {Q : PV → SN → Prop} (h : b_law_pick (fun _ => W) { nx := fun _ n' => Q .non n', rt := Q } [.val a0, .val a1] n) : m_law_pick [a0, a1] W n Q := h
section
variable {P : Program} {w : World} {K : PySem.W.Frag} {mg : Str → Option Value} {base : Heap} {cm : Pu.Md} {C_Rule : Addr} {C_WeightRule : Addr} {C_TurnRule : Addr} {C_TryRule : Addr} {X_BadRule : Addr} {X_NoHalves : Addr} {X_BadNumber : Addr} {X_BadText : Addr} {X_FairError : Addr}
theorem ok_law_pick {f : Addr} {fd : FuncData} (F : Ev.Fn K "_law_pick" "_law_pick" (top 39) f fd) (T : Tx K mg cm C_Rule C_WeightRule C_TurnRule C_TryRule X_BadRule X_NoHalves X_BadNumber X_BadText X_FairError) (c_draw : Ev.GC P w K mg base 1 "_law_draw" spDraw []) : Ev.GOk P w K mg base (L2.CX P w) 2 f fd ["_law_pen_here", "_law_some"] (spP K cm 2 m_law_pick) := by
  refine qfnX (by decide) F sc_law_pick fun cdv A outer s H E hcode hgd hr => ?_
  have hu : _ + 64 < cLine := hr.units
  refine ⟨_, (pss_one (ps_ret (pe_ix ix_list (pv 1) (Ev.pe_cE c_draw hgd hr (by decide) (Ev.passE (takes_of rfl rfl rfl rfl)) (by rfl) (pa_cons (pv 0) (pa_cons (pe_callB call_len_seq (by rfl) T.m_len (by decide +kernel) (pa_cons (pv 1) pa_nil)) pa_nil))) (fun _ _ => rfl)))), fun z hK hcm hW hl => ?_⟩
  subst hK hcm
  unfold b_law_pick
  walk_at "ev s0"
  with_reducible exact (sim_ret (sim_op simR_ixL sim_var (sim_draw draw_sp (sim_cons sim_var (sim_cons (sim_cb simC_len (sim_cons sim_var sim_nil)) sim_nil)))))
end
end K29
set_option hygiene false
namespace K29
open PySem L2 Pu
theorem sc_law_numbers : FnScope ["_law_pen_here", "_law_q", "_law_p", "_law_k", "_law_s"] ["_law_pen_here"] (C8.fnScope (top 40)) := C8.fnScope_by (by decide +kernel)
def b_law_numbers : MS := (mSeq (mAsg (mOp pAdd (mC (.int 1)) (mCall 2 m_law_pick [] (mCons (mVar 0) (mCons (mLst (mCons (mC (.int 0)) (mCons (mC (.int 0)) (mCons (mC (.int 1)) (mCons (mC (.int 1)) (mCons (mC (.int 2)) (mCons (mDraw (mCons (mVar 0) (mCons (mC (.int 6)) mNil))) mNil))))))) mNil)))) (mgN 1))
  (mSeq (mAsg (mOp pAdd (mVar 1) (mDraw (mCons (mVar 0) (mCons (mOp pSub (mC (.int 7)) (mVar 1)) mNil)))) (mgN 2))
  (mSeq (mAsg (mCall 2 m_law_pick [] (mCons (mVar 0) (mCons (mLst (mCons (mC (.int 0)) (mCons (mC (.int 0)) (mCons (mC (.int 1)) (mCons (mUn pNeg (mC (.int 1))) (mCons (mC (.int 6)) (mCons (mOp pSub (mDraw (mCons (mVar 0) (mCons (mC (.int 13)) mNil))) (mC (.int 6))) mNil))))))) mNil))) (mgN 3))
  (mSeq (mAsg (mIf (mB (mOp pGe (mOp pAdd (mVar 2) (mVar 3)) (mOp pMul (mC (.int 2)) (mVar 1)))) (mVar 3) (mOp pSub (mOp pMul (mC (.int 2)) (mVar 1)) (mVar 2))) (mgN 3))
  (mSeq (mAsg (mOp pAdd (mC (.int 1)) (mDraw (mCons (mVar 0) (mCons (mC (.int 4)) mNil)))) (mgN 4))
  (mRet (mTup (mCons (mVar 2) (mCons (mVar 1) (mCons (mVar 3) (mCons (mOp pAdd (mVar 4) (mDraw (mCons (mVar 0) (mCons (mC (.int 5)) mNil)))) (mCons (mVar 4) (mCons (mCall 2 m_law_pick [] (mCons (mVar 0) (mCons (mLst (mCons (mC (.int 0)) (mCons (mC (.int 0)) (mCons (mUn pNeg (mC (.int 1))) (mCons (mC (.int 1)) (mCons (mUn pNeg (mVar 4)) (mCons (mOp pSub (mDraw (mCons (mVar 0) (mCons (mC (.int 13)) mNil))) (mC (.int 6))) mNil))))))) mNil))) mNil)))))))))))))
def m_law_numbers : List PV → M PV := mFnX 5 b_law_numbers
theorem run_law_numbers {a0 : PV} {W : XP} {n : SN} {Q : PV → SN → Prop} (h : b_law_numbers (fun _ => W) { nx := fun _ n' => Q .non n', rt := Q } [.val a0, .no, .no, .no, .no] n) : m_law_numbers [a0] W n Q := h
section
variable {P : Program} {w : World} {K : PySem.W.Frag} {mg : Str → Option Value} {base : Heap} {cm : Pu.Md} {C_Rule : Addr} {C_WeightRule : Addr} {C_TurnRule : Addr} {C_TryRule : Addr} {X_BadRule : Addr} {X_NoHalves : Addr} {X_BadNumber : Addr} {X_BadText : Addr} {X_FairError : Addr}
theorem ok_law_numbers {f : Addr} {fd : FuncData} (F : Ev.Fn K "_law_numbers" "_law_numbers" (top 40) f fd) (T : Tx K mg cm C_Rule C_WeightRule C_TurnRule C_TryRule X_BadRule X_NoHalves X_BadNumber X_BadText X_FairError) (c_draw : Ev.GC P w K mg base 1 "_law_draw" spDraw []) (c_law_pick : Ev.GC P w K mg base 2 "_law_pick" (spP K cm 2 m_law_pick) []) : Ev.GOk P w K mg base (L2.CX P w) 3 f fd ["_law_pen_here"] (spP K cm 1 m_law_numbers) := by
  refine qfnX (by decide) F sc_law_numbers fun cdv A outer s H E hcode hgd hr => ?_
  have hu : _ + 64 < cLine := hr.units
  refine ⟨_, (pss_cons (ps_set (i := 1) sc_law_numbers.nd rfl (.inl rfl) (pe_op op_add pe_int (Ev.pe_cE c_law_pick hgd hr (by decide) (Ev.passE (takes_of rfl rfl rfl rfl)) (by rfl) (pa_cons (pv 0) (pa_cons (pe_lst (pa_cons pe_int (pa_cons pe_int (pa_cons pe_int (pa_cons pe_int (pa_cons pe_int (pa_cons (Ev.pe_cE c_draw hgd hr (by decide) (Ev.passE (takes_of rfl rfl rfl rfl)) (by rfl) (pa_cons (pv 0) (pa_cons pe_int pa_nil))) pa_nil))))))) pa_nil)))))
    (pss_cons (ps_set (i := 2) sc_law_numbers.nd rfl (.inl rfl) (pe_op op_add (pv 1) (Ev.pe_cE c_draw hgd hr (by decide) (Ev.passE (takes_of rfl rfl rfl rfl)) (by rfl) (pa_cons (pv 0) (pa_cons (pe_op op_sub pe_int (pv 1)) pa_nil)))))
    (pss_cons (ps_set (i := 3) sc_law_numbers.nd rfl (.inl rfl) (Ev.pe_cE c_law_pick hgd hr (by decide) (Ev.passE (takes_of rfl rfl rfl rfl)) (by rfl) (pa_cons (pv 0) (pa_cons (pe_lst (pa_cons pe_int (pa_cons pe_int (pa_cons pe_int (pa_cons (pe_un un_neg pe_int) (pa_cons pe_int (pa_cons (pe_op op_sub (Ev.pe_cE c_draw hgd hr (by decide) (Ev.passE (takes_of rfl rfl rfl rfl)) (by rfl) (pa_cons (pv 0) (pa_cons pe_int pa_nil))) pe_int) pa_nil))))))) pa_nil))))
    (pss_cons (ps_set (i := 3) sc_law_numbers.nd rfl (.inl rfl) (pe_ifExp (pt_cmpR op_ge (pe_op op_add (pv 2) (pv 3)) (pe_op op_mulW pe_int (pv 1)) (nomark _)) (pv 3) (pe_op op_sub (pe_op op_mulW pe_int (pv 1)) (pv 2))))
    (pss_cons (ps_set (i := 4) sc_law_numbers.nd rfl (.inl rfl) (pe_op op_add pe_int (Ev.pe_cE c_draw hgd hr (by decide) (Ev.passE (takes_of rfl rfl rfl rfl)) (by rfl) (pa_cons (pv 0) (pa_cons pe_int pa_nil)))))
    (pss_one (ps_ret (pe_tup (pa_cons (pv 2) (pa_cons (pv 1) (pa_cons (pv 3) (pa_cons (pe_op op_add (pv 4) (Ev.pe_cE c_draw hgd hr (by decide) (Ev.passE (takes_of rfl rfl rfl rfl)) (by rfl) (pa_cons (pv 0) (pa_cons pe_int pa_nil)))) (pa_cons (pv 4) (pa_cons (Ev.pe_cE c_law_pick hgd hr (by decide) (Ev.passE (takes_of rfl rfl rfl rfl)) (by rfl) (pa_cons (pv 0) (pa_cons (pe_lst (pa_cons pe_int (pa_cons pe_int (pa_cons (pe_un un_neg pe_int) (pa_cons pe_int (pa_cons (pe_un un_neg (pv 4)) (pa_cons (pe_op op_sub (Ev.pe_cE c_draw hgd hr (by decide) (Ev.passE (takes_of rfl rfl rfl rfl)) (by rfl) (pa_cons (pv 0) (pa_cons pe_int pa_nil))) pe_int) pa_nil))))))) pa_nil))) pa_nil)))))))))))))), fun z hK hcm hW hl => ?_⟩
  subst hK hcm
  unfold b_law_numbers
  walk_at "ev s0"
  with_reducible exact (sim_seq (sim_asg (sim_op simR_add (by first | with_reducible exact (sim_c fun _ => .int _) | with_reducible exact sim_cval T.cv_WeightRule_MOST fun _ => .int _) (by first | with_reducible exact (sim_callS hl2 (sim_cons sim_var (sim_cons (sim_lst (sim_cons (by first | with_reducible exact (sim_c fun _ => .int _) | with_reducible exact sim_cval T.cv_WeightRule_MOST fun _ => .int _) (sim_cons (by first | with_reducible exact (sim_c fun _ => .int _) | with_reducible exact sim_cval T.cv_WeightRule_MOST fun _ => .int _) (sim_cons (by first | with_reducible exact (sim_c fun _ => .int _) | with_reducible exact sim_cval T.cv_WeightRule_MOST fun _ => .int _) (sim_cons (by first | with_reducible exact (sim_c fun _ => .int _) | with_reducible exact sim_cval T.cv_WeightRule_MOST fun _ => .int _) (sim_cons (by first | with_reducible exact (sim_c fun _ => .int _) | with_reducible exact sim_cval T.cv_WeightRule_MOST fun _ => .int _) (sim_cons (sim_draw draw_sp (sim_cons sim_var (sim_cons (by first | with_reducible exact (sim_c fun _ => .int _) | with_reducible exact sim_cval T.cv_WeightRule_MOST fun _ => .int _) sim_nil))) sim_nil))))))) sim_nil))) | with_reducible exact (sim_call (by first | exact hl3 | exact hl2 | exact hl | exact link0 (by first | exact hW | rfl)) (fun _ => .nil) (sim_cons sim_var (sim_cons (sim_lst (sim_cons (by first | with_reducible exact (sim_c fun _ => .int _) | with_reducible exact sim_cval T.cv_WeightRule_MOST fun _ => .int _) (sim_cons (by first | with_reducible exact (sim_c fun _ => .int _) | with_reducible exact sim_cval T.cv_WeightRule_MOST fun _ => .int _) (sim_cons (by first | with_reducible exact (sim_c fun _ => .int _) | with_reducible exact sim_cval T.cv_WeightRule_MOST fun _ => .int _) (sim_cons (by first | with_reducible exact (sim_c fun _ => .int _) | with_reducible exact sim_cval T.cv_WeightRule_MOST fun _ => .int _) (sim_cons (by first | with_reducible exact (sim_c fun _ => .int _) | with_reducible exact sim_cval T.cv_WeightRule_MOST fun _ => .int _) (sim_cons (sim_draw draw_sp (sim_cons sim_var (sim_cons (by first | with_reducible exact (sim_c fun _ => .int _) | with_reducible exact sim_cval T.cv_WeightRule_MOST fun _ => .int _) sim_nil))) sim_nil))))))) sim_nil))))) sim_gN) (sim_seq (sim_asg (sim_op simR_add sim_var (sim_draw draw_sp (sim_cons sim_var (sim_cons (sim_op simR_sub (by first | with_reducible exact (sim_c fun _ => .int _) | with_reducible exact sim_cval T.cv_WeightRule_MOST fun _ => .int _) sim_var) sim_nil)))) sim_gN) (sim_seq (sim_asg (by first | with_reducible exact (sim_callS hl2 (sim_cons sim_var (sim_cons (sim_lst (sim_cons (by first | with_reducible exact (sim_c fun _ => .int _) | with_reducible exact sim_cval T.cv_WeightRule_MOST fun _ => .int _) (sim_cons (by first | with_reducible exact (sim_c fun _ => .int _) | with_reducible exact sim_cval T.cv_WeightRule_MOST fun _ => .int _) (sim_cons (by first | with_reducible exact (sim_c fun _ => .int _) | with_reducible exact sim_cval T.cv_WeightRule_MOST fun _ => .int _) (sim_cons (sim_un simU_neg (by first | with_reducible exact (sim_c fun _ => .int _) | with_reducible exact sim_cval T.cv_WeightRule_MOST fun _ => .int _)) (sim_cons (by first | with_reducible exact (sim_c fun _ => .int _) | with_reducible exact sim_cval T.cv_WeightRule_MOST fun _ => .int _) (sim_cons (sim_op simR_sub (sim_draw draw_sp (sim_cons sim_var (sim_cons (by first | with_reducible exact (sim_c fun _ => .int _) | with_reducible exact sim_cval T.cv_WeightRule_MOST fun _ => .int _) sim_nil))) (by first | with_reducible exact (sim_c fun _ => .int _) | with_reducible exact sim_cval T.cv_WeightRule_MOST fun _ => .int _)) sim_nil))))))) sim_nil))) | with_reducible exact (sim_call (by first | exact hl3 | exact hl2 | exact hl | exact link0 (by first | exact hW | rfl)) (fun _ => .nil) (sim_cons sim_var (sim_cons (sim_lst (sim_cons (by first | with_reducible exact (sim_c fun _ => .int _) | with_reducible exact sim_cval T.cv_WeightRule_MOST fun _ => .int _) (sim_cons (by first | with_reducible exact (sim_c fun _ => .int _) | with_reducible exact sim_cval T.cv_WeightRule_MOST fun _ => .int _) (sim_cons (by first | with_reducible exact (sim_c fun _ => .int _) | with_reducible exact sim_cval T.cv_WeightRule_MOST fun _ => .int _) (sim_cons (sim_un simU_neg (by first | with_reducible exact (sim_c fun _ => .int _) | with_reducible exact sim_cval T.cv_WeightRule_MOST fun _ => .int _)) (sim_cons (by first | with_reducible exact (sim_c fun _ => .int _) | with_reducible exact sim_cval T.cv_WeightRule_MOST fun _ => .int _) (sim_cons (sim_op simR_sub (sim_draw draw_sp (sim_cons sim_var (sim_cons (by first | with_reducible exact (sim_c fun _ => .int _) | with_reducible exact sim_cval T.cv_WeightRule_MOST fun _ => .int _) sim_nil))) (by first | with_reducible exact (sim_c fun _ => .int _) | with_reducible exact sim_cval T.cv_WeightRule_MOST fun _ => .int _)) sim_nil))))))) sim_nil)))) sim_gN) (sim_seq (sim_asg (sim_if (by (first | with_reducible refine sim_b ?_ | with_reducible refine sim_test ?_); exact (sim_op simR_ge (sim_op simR_add sim_var sim_var) (sim_op simR_mul (by first | with_reducible exact (sim_c fun _ => .int _) | with_reducible exact sim_cval T.cv_WeightRule_MOST fun _ => .int _) sim_var))) sim_var (sim_op simR_sub (sim_op simR_mul (by first | with_reducible exact (sim_c fun _ => .int _) | with_reducible exact sim_cval T.cv_WeightRule_MOST fun _ => .int _) sim_var) sim_var)) sim_gN) (sim_seq (sim_asg (sim_op simR_add (by first | with_reducible exact (sim_c fun _ => .int _) | with_reducible exact sim_cval T.cv_WeightRule_MOST fun _ => .int _) (sim_draw draw_sp (sim_cons sim_var (sim_cons (by first | with_reducible exact (sim_c fun _ => .int _) | with_reducible exact sim_cval T.cv_WeightRule_MOST fun _ => .int _) sim_nil)))) sim_gN) (sim_ret (sim_tup (sim_cons sim_var (sim_cons sim_var (sim_cons sim_var (sim_cons (sim_op simR_add sim_var (sim_draw draw_sp (sim_cons sim_var (sim_cons (by first | with_reducible exact (sim_c fun _ => .int _) | with_reducible exact sim_cval T.cv_WeightRule_MOST fun _ => .int _) sim_nil)))) (sim_cons sim_var (sim_cons (by first | with_reducible exact (sim_callS hl2 (sim_cons sim_var (sim_cons (sim_lst (sim_cons (by first | with_reducible exact (sim_c fun _ => .int _) | with_reducible exact sim_cval T.cv_WeightRule_MOST fun _ => .int _) (sim_cons (by first | with_reducible exact (sim_c fun _ => .int _) | with_reducible exact sim_cval T.cv_WeightRule_MOST fun _ => .int _) (sim_cons (sim_un simU_neg (by first | with_reducible exact (sim_c fun _ => .int _) | with_reducible exact sim_cval T.cv_WeightRule_MOST fun _ => .int _)) (sim_cons (by first | with_reducible exact (sim_c fun _ => .int _) | with_reducible exact sim_cval T.cv_WeightRule_MOST fun _ => .int _) (sim_cons (sim_un simU_neg sim_var) (sim_cons (sim_op simR_sub (sim_draw draw_sp (sim_cons sim_var (sim_cons (by first | with_reducible exact (sim_c fun _ => .int _) | with_reducible exact sim_cval T.cv_WeightRule_MOST fun _ => .int _) sim_nil))) (by first | with_reducible exact (sim_c fun _ => .int _) | with_reducible exact sim_cval T.cv_WeightRule_MOST fun _ => .int _)) sim_nil))))))) sim_nil))) | with_reducible exact (sim_call (by first | exact hl3 | exact hl2 | exact hl | exact link0 (by first | exact hW | rfl)) (fun _ => .nil) (sim_cons sim_var (sim_cons (sim_lst (sim_cons (by first | with_reducible exact (sim_c fun _ => .int _) | with_reducible exact sim_cval T.cv_WeightRule_MOST fun _ => .int _) (sim_cons (by first | with_reducible exact (sim_c fun _ => .int _) | with_reducible exact sim_cval T.cv_WeightRule_MOST fun _ => .int _) (sim_cons (sim_un simU_neg (by first | with_reducible exact (sim_c fun _ => .int _) | with_reducible exact sim_cval T.cv_WeightRule_MOST fun _ => .int _)) (sim_cons (by first | with_reducible exact (sim_c fun _ => .int _) | with_reducible exact sim_cval T.cv_WeightRule_MOST fun _ => .int _) (sim_cons (sim_un simU_neg sim_var) (sim_cons (sim_op simR_sub (sim_draw draw_sp (sim_cons sim_var (sim_cons (by first | with_reducible exact (sim_c fun _ => .int _) | with_reducible exact sim_cval T.cv_WeightRule_MOST fun _ => .int _) sim_nil))) (by first | with_reducible exact (sim_c fun _ => .int _) | with_reducible exact sim_cval T.cv_WeightRule_MOST fun _ => .int _)) sim_nil))))))) sim_nil)))) sim_nil)))))))))))))
end
end K29
set_option hygiene false
namespace K29
open PySem L2 Pu
theorem sc_is_integer : FnScope ["value"] ["value"] (C8.fnScope (top 7)) := C8.fnScope_by (by decide +kernel)
def b_is_integer : MS := (mRet (mAndV (mIsiT "int" (mVar 0)) (mNotV (mIsiT "bool" (mVar 0)))))
def m_is_integer : List PV → M PV := mFnX 1 b_is_integer
theorem run_is_integer {a0 : PV} {W : XP} {n : SN} {Q : PV → SN → Prop} (h : b_is_integer (fun _ => W) { nx := fun _ n' => Q .non n', rt := Q } [.val a0] n) : m_is_integer [a0] W n Q := h
section
variable {P : Program} {w : World} {K : PySem.W.Frag} {mg : Str → Option Value} {base : Heap} {cm : Pu.Md} {C_Rule : Addr} {C_WeightRule : Addr} {C_TurnRule : Addr} {C_TryRule : Addr} {X_BadRule : Addr} {X_NoHalves : Addr} {X_BadNumber : Addr} {X_BadText : Addr} {X_FairError : Addr}
theorem ok_is_integer {f : Addr} {fd : FuncData} (F : Ev.Fn K "is_integer" "is_integer" (top 7) f fd) (T : Tx K mg cm C_Rule C_WeightRule C_TurnRule C_TryRule X_BadRule X_NoHalves X_BadNumber X_BadText X_FairError) : Ev.GOk P w K mg base (L2.CX P w) 1 f fd ["value"] (spP K cm 1 m_is_integer) := by
  refine qfnX (by decide) F sc_is_integer fun cdv A outer s H E hcode hgd hr => ?_
  have hu : _ + 64 < cLine := hr.units
  refine ⟨_, (pss_one (ps_ret (pe_and (pe_callB call_isi (by rfl) T.m_isinstance (by decide +kernel) (pa_cons (pv 0) (pa_cons (pe_bltn (v := .ty "int") (u := .type "int") (by rfl) T.m_int (by decide +kernel) rfl) pa_nil))) (pe_one (pe_not (pe_callB call_isi (by rfl) T.m_isinstance (by decide +kernel) (pa_cons (pv 0) (pa_cons (pe_bltn (v := .ty "bool") (u := .type "bool") (by rfl) T.m_bool (by decide +kernel) rfl) pa_nil)))))))), fun z hK hcm hW hl => ?_⟩
  subst hK hcm
  unfold b_is_integer
  walk_at "ev s0"
  with_reducible exact (sim_ret (sim_andV (sim_isiT (by decide) T.kt sim_var) (sim_notV (sim_isiT (by decide) T.kt sim_var))))
end
end K29
set_option hygiene false
namespace K29
open PySem L2 Pu
theorem sc_is_within : FnScope ["value", "least", "most"] ["value", "least", "most"] (C8.fnScope (top 8)) := C8.fnScope_by (by decide +kernel)
def b_is_within : MS := (mRet (mAndV (mCall 1 m_is_integer [] (mCons (mVar 0) mNil)) (mChain pLe pLe (mVar 1) (mVar 0) (mVar 2))))
def m_is_within : List PV → M PV := mFnX 3 b_is_within
theorem run_is_within {a0 a1 a2 : PV} {W : XP} {n : SN} {Q : PV → SN → Prop} (h : b_is_within (fun _ => W) { nx := fun _ n' => Q .non n', rt := Q } [.val a0, .val a1, .val a2] n) : m_is_within [a0, a1, a2] W n Q := h
section
variable {P : Program} {w : World} {K : PySem.W.Frag} {mg : Str → Option Value} {base : Heap} {cm : Pu.Md} {C_Rule : Addr} {C_WeightRule : Addr} {C_TurnRule : Addr} {C_TryRule : Addr} {X_BadRule : Addr} {X_NoHalves : Addr} {X_BadNumber : Addr} {X_BadText : Addr} {X_FairError : Addr}
theorem ok_is_within {f : Addr} {fd : FuncData} (F : Ev.Fn K "is_within" "is_within" (top 8) f fd) (T : Tx K mg cm C_Rule C_WeightRule C_TurnRule C_TryRule X_BadRule X_NoHalves X_BadNumber X_BadText X_FairError) (c_is_integer : Ev.GC P w K mg base 1 "is_integer" (spP K cm 1 m_is_integer) []) : Ev.GOk P w K mg base (L2.CX P w) 2 f fd ["value", "least", "most"] (spP K cm 3 m_is_within) := by
  refine qfnX (by decide) F sc_is_within fun cdv A outer s H E hcode hgd hr => ?_
  have hu : _ + 64 < cLine := hr.units
  refine ⟨_, (pss_one (ps_ret (pe_and (Ev.pe_cE c_is_integer hgd hr (by decide) (Ev.passE (takes_of rfl rfl rfl rfl)) (by rfl) (pa_cons (pv 0) pa_nil)) (pe_one (pe_chain op_le op_le (pv 1) (pv 0) (pv 2)))))), fun z hK hcm hW hl => ?_⟩
  subst hK hcm
  unfold b_is_within
  walk_at "ev s0"
  with_reducible exact (sim_ret (sim_andV (by first | with_reducible exact (sim_callS hl2 (sim_cons sim_var sim_nil)) | with_reducible exact (sim_call (by first | exact hl3 | exact hl2 | exact hl | exact link0 (by first | exact hW | rfl)) (fun _ => .nil) (sim_cons sim_var sim_nil))) (sim_chain simR_le simR_le sim_var sim_var sim_var)))
end
end K29
set_option hygiene false
namespace K29
open PySem L2 Pu
theorem sc_is_times : FnScope ["value", "most", "each"] ["value", "most"] (C8.fnScope (top 14)) := C8.fnScope_by (by decide +kernel)
def b_is_times : MS := (mRet (mAndV (mIsiT "tuple" (mVar 0)) (mAndV (mOp pEq (mCB pLen (mCons (mVar 0) mNil)) (mC (.int 2))) (mCB pAll (mCons (mLc (mTupI (mVar 0)) (mgN 2) mYes (mCall 3 m_is_within [] (mCons (mVar 2) (mCons (mC (.int 1)) (mCons (mVar 1) mNil)))) [2]) mNil)))))
def m_is_times : List PV → M PV := mFnX 3 b_is_times
theorem run_is_times {a0 a1 : PV} {W : XP} {n : SN} {Q : PV → SN → Prop} (h : b_is_times (fun _ => W) { nx := fun _ n' => Q .non n', rt := Q } [.val a0, .val a1, .no] n) : m_is_times [a0, a1] W n Q := h
section
variable {P : Program} {w : World} {K : PySem.W.Frag} {mg : Str → Option Value} {base : Heap} {cm : Pu.Md} {C_Rule : Addr} {C_WeightRule : Addr} {C_TurnRule : Addr} {C_TryRule : Addr} {X_BadRule : Addr} {X_NoHalves : Addr} {X_BadNumber : Addr} {X_BadText : Addr} {X_FairError : Addr}
theorem ok_is_times {f : Addr} {fd : FuncData} (F : Ev.Fn K "is_times" "is_times" (top 14) f fd) (T : Tx K mg cm C_Rule C_WeightRule C_TurnRule C_TryRule X_BadRule X_NoHalves X_BadNumber X_BadText X_FairError) (c_is_within : Ev.GC P w K mg base 2 "is_within" (spP K cm 3 m_is_within) []) : Ev.GOk P w K mg base (L2.CX P w) 3 f fd ["value", "most"] (spP K cm 2 m_is_times) := by
  refine qfnX (by decide) F sc_is_times fun cdv A outer s H E hcode hgd hr => ?_
  have hu : _ + 64 < cLine := hr.units
  refine ⟨_, (pss_one (ps_ret (pe_and (pe_callB call_isi (by rfl) T.m_isinstance (by decide +kernel) (pa_cons (pv 0) (pa_cons (pe_bltn (v := .ty "tuple") (u := .type "tuple") (by rfl) T.m_tuple (by decide +kernel) rfl) pa_nil))) (pe_and (pe_cmpR op_eq (pe_callB call_len_seq (by rfl) T.m_len (by decide +kernel) (pa_cons (pv 0) pa_nil)) pe_int (nomark _)) (pe_one (pe_callB (cr_all rfl) (by rfl) T.m_all (by decide +kernel) (pa_cons (pe_lc (own := [("each", 2)]) (g := gName 2) rfl sc_is_times.nd (pi_tup (pv 0)) (blkOk_by (N := ["value", "most", "each"]) (sc := (C8.fnScope (top 14))) (by decide +kernel)) (fun _ _ _ _ _ => (pg_name (i := 2) sc_is_times.nd rfl (.inl rfl))) (fun _ _ _ _ _ => pts_nil) (fun _ _ _ _ _ => (Ev.pe_cE c_is_within hgd hr (by decide) passL (by rfl) (pa_cons (pv 2) (pa_cons pe_int (pa_cons (pv 1) pa_nil)))))) pa_nil))))))), fun z hK hcm hW hl => ?_⟩
  subst hK hcm
  unfold b_is_times
  walk_at "ev s0"
  with_reducible exact (sim_ret (sim_andV (sim_isiT (by decide) T.kt sim_var) (sim_andV (sim_op simR_eq (sim_cb simC_len (sim_cons sim_var sim_nil)) (by first | with_reducible exact (sim_c fun _ => .int _) | with_reducible exact sim_cval T.cv_WeightRule_MOST fun _ => .int _)) (sim_cb simC_all (sim_cons (sim_lc (sim_iTup sim_var) sim_gN (gw_name (by decide)) sim_yes (by first | with_reducible exact (sim_callS hl2 (sim_cons sim_var (sim_cons (by first | with_reducible exact (sim_c fun _ => .int _) | with_reducible exact sim_cval T.cv_WeightRule_MOST fun _ => .int _) (sim_cons sim_var sim_nil)))) | with_reducible exact (sim_call (by first | exact hl3 | exact hl2 | exact hl | exact link0 (by first | exact hW | rfl)) (fun _ => .nil) (sim_cons sim_var (sim_cons (by first | with_reducible exact (sim_c fun _ => .int _) | with_reducible exact sim_cval T.cv_WeightRule_MOST fun _ => .int _) (sim_cons sim_var sim_nil)))))) sim_nil)))))
end
end K29
namespace K29
open PySem L2 Pu
theorem sc_BadRule_init : FnScope ["self", "part"] ["self", "part"] (C8.fnScope (inClass (top 2) 0)) := C8.fnScope_by (by decide +kernel)
section
variable {P : Program} {w : World} {K : PySem.W.Frag} {mg : Str → Option Value} {base : Heap} {cm : Pu.Md} {C_Rule : Addr} {C_WeightRule : Addr} {C_TurnRule : Addr} {C_TryRule : Addr} {X_BadRule : Addr} {X_NoHalves : Addr} {X_BadNumber : Addr} {X_BadText : Addr} {X_FairError : Addr}
theorem ok_BadRule_init {f : Addr} {fd : FuncData} (F : Ev.Fn K "__init__" "BadRule.__init__" (inClass (top 2) 0) f fd) : FnOk P w K mg base (L2.CX P w) 1 f fd ["self", "part"] (Ev.spX1 K "part") := by
  obtain ⟨oc, od, dV, kV, doc, pm, an, cdv, ct, osl, rfl, lk, hcd⟩ := F.ex
  refine fn_of (N := ["self", "part"]) lk hcd sc_BadRule_init (fun vs H Q E h => by obtain ⟨a, C, y, rfl, _⟩ := h; rfl) fun A outer s H vs Q E hr h => ?_
  obtain ⟨a, C, y, rfl, T, h1, ha, k⟩ := h
  refine ⟨_, pss_one (ps_ost (pv 0) (pv 1)), ?_⟩
  exact ⟨y, rfl, .ref a, rfl, a, C, rfl, T, h1, .inl ⟨ha, fun dx n1 n2 => k dx n1 n2⟩⟩
end
end K29
set_option hygiene false
namespace K29
open PySem L2 Pu
theorem sc_need_plus : FnScope ["value", "part"] ["value", "part"] (C8.fnScope (top 15)) := C8.fnScope_by (by decide +kernel)
def b_need_plus : MS := (mIfS (mNot (mB (mCall 3 m_is_within [] (mCons (mVar 0) (mCons (mUn pNeg (mC (.int 6))) (mCons (mC (.int 6)) mNil))))))
  (mRai1 "BadRule" "part" (mCons (mVar 1) mNil))
  mNext)
def m_need_plus : List PV → M PV := mFnX 2 b_need_plus
theorem run_need_plus {a0 a1 : PV} {W : XP} {n : SN} {Q : PV → SN → Prop} (h : b_need_plus (fun _ => W) { nx := fun _ n' => Q .non n', rt := Q } [.val a0, .val a1] n) : m_need_plus [a0, a1] W n Q := h
section
variable {P : Program} {w : World} {K : PySem.W.Frag} {mg : Str → Option Value} {base : Heap} {cm : Pu.Md} {C_Rule : Addr} {C_WeightRule : Addr} {C_TurnRule : Addr} {C_TryRule : Addr} {X_BadRule : Addr} {X_NoHalves : Addr} {X_BadNumber : Addr} {X_BadText : Addr} {X_FairError : Addr}
theorem ok_need_plus {f : Addr} {fd : FuncData} (F : Ev.Fn K "need_plus" "need_plus" (top 15) f fd) (T : Tx K mg cm C_Rule C_WeightRule C_TurnRule C_TryRule X_BadRule X_NoHalves X_BadNumber X_BadText X_FairError) (c_is_within : Ev.GC P w K mg base 2 "is_within" (spP K cm 3 m_is_within) []) (xc_BadRule : Ev.XC P w K mg base "BadRule" X_BadRule (Ev.spX1 K "part") 1) : Ev.GOk P w K mg base (L2.CX P w) 3 f fd ["value", "part"] (spP K cm 2 m_need_plus) := by
  refine qfnX (by decide) F sc_need_plus fun cdv A outer s H E hcode hgd hr => ?_
  have hu : _ + 64 < cLine := hr.units
  obtain ⟨_, hk_MOST_PLUS⟩ := T.k_MOST_PLUS
  refine ⟨_, (pss_one (ps_if (pt_not (pt_val (Ev.pe_cE c_is_within hgd hr (by decide) (Ev.passE (takes_of rfl rfl rfl rfl)) (by rfl) (pa_cons (pv 0) (pa_cons (pe_un un_neg (pe_glob (by rfl) hk_MOST_PLUS Ev.rel_int)) (pa_cons (pe_glob (by rfl) hk_MOST_PLUS Ev.rel_int) pa_nil))))))
    (pss_one (Ev.ps_rai xc_BadRule rfl (takes_of rfl rfl rfl rfl) (hr.mono (by decide)) (by rfl) (pa_cons (pv 1) pa_nil)))
    pss_nil)), fun z hK hcm hW hl => ?_⟩
  subst hK hcm
  unfold b_need_plus
  walk_at "ev s0"
  with_reducible exact (sim_ifS (sim_not (by (first | with_reducible refine sim_b ?_ | with_reducible refine sim_test ?_); exact (by first | with_reducible exact (sim_callS hl2 (sim_cons sim_var (sim_cons (sim_un simU_neg (by first | with_reducible exact (sim_c fun _ => .int _) | with_reducible exact sim_cval T.cv_WeightRule_MOST fun _ => .int _)) (sim_cons (by first | with_reducible exact (sim_c fun _ => .int _) | with_reducible exact sim_cval T.cv_WeightRule_MOST fun _ => .int _) sim_nil)))) | with_reducible exact (sim_call (by first | exact hl3 | exact hl2 | exact hl | exact link0 (by first | exact hW | rfl)) (fun _ => .nil) (sim_cons sim_var (sim_cons (sim_un simU_neg (by first | with_reducible exact (sim_c fun _ => .int _) | with_reducible exact sim_cval T.cv_WeightRule_MOST fun _ => .int _)) (sim_cons (by first | with_reducible exact (sim_c fun _ => .int _) | with_reducible exact sim_cval T.cv_WeightRule_MOST fun _ => .int _) sim_nil))))))) (sim_rai1 (by first | exact hl3 | exact hl2 | exact hl | exact link0 (by first | exact hW | rfl)) T.cx_BadRule T.oe_BadRule (T.xn_part _ _ T.cx_BadRule) (sim_cons sim_var sim_nil)) sim_next)
end
end K29
set_option hygiene false
namespace K29
open PySem L2 Pu
theorem sc_WeightRule_need_numbers : FnScope ["times", "plus"] ["times", "plus"] (C8.fnScope (inClass (top 17) 2)) := C8.fnScope_by (by decide +kernel)
def b_WeightRule_need_numbers : MS := (mSeq (mIfS (mOr (mNot (mB (mCall 2 m_is_times [] (mCons (mVar 0) (mCons (mC (.int 6)) mNil))))) (mB (mOp pGt (mOp pIxT (mVar 0) (mC (.int 1))) (mOp pIxT (mVar 0) (mC (.int 0))))))
  (mRai1 "BadRule" "part" (mCons (mC (.str "times")) mNil))
  mNext)
  (mDrop (mCall 2 m_need_plus [] (mCons (mVar 1) (mCons (mC (.str "plus")) mNil)))))
def m_WeightRule_need_numbers : List PV → M PV := mFnX 2 b_WeightRule_need_numbers
theorem run_WeightRule_need_numbers {a0 a1 : PV} {W : XP} {n : SN} {Q : PV → SN → Prop} (h : b_WeightRule_need_numbers (fun _ => W) { nx := fun _ n' => Q .non n', rt := Q } [.val a0, .val a1] n) : m_WeightRule_need_numbers [a0, a1] W n Q := h
section
variable {P : Program} {w : World} {K : PySem.W.Frag} {mg : Str → Option Value} {base : Heap} {cm : Pu.Md} {C_Rule : Addr} {C_WeightRule : Addr} {C_TurnRule : Addr} {C_TryRule : Addr} {X_BadRule : Addr} {X_NoHalves : Addr} {X_BadNumber : Addr} {X_BadText : Addr} {X_FairError : Addr}
theorem ok_WeightRule_need_numbers {f : Addr} {fd : FuncData} (F : Ev.Fn K "need_numbers" "WeightRule.need_numbers" (inClass (top 17) 2) f fd) (T : Tx K mg cm C_Rule C_WeightRule C_TurnRule C_TryRule X_BadRule X_NoHalves X_BadNumber X_BadText X_FairError) (c_is_times : Ev.GC P w K mg base 3 "is_times" (spP K cm 2 m_is_times) []) (xc_BadRule : Ev.XC P w K mg base "BadRule" X_BadRule (Ev.spX1 K "part") 1) (c_need_plus : Ev.GC P w K mg base 3 "need_plus" (spP K cm 2 m_need_plus) []) : Ev.GOk P w K mg base (L2.CX P w) 4 f fd ["times", "plus"] (spP K cm 2 m_WeightRule_need_numbers) := by
  refine qfnX (by decide) F sc_WeightRule_need_numbers fun cdv A outer s H E hcode hgd hr => ?_
  have hu : _ + 64 < cLine := hr.units
  refine ⟨_, (pss_cons (ps_if (PW.pt (pw_or (pt_not (pt_val (Ev.pe_cE c_is_times hgd hr (by decide) (Ev.passE (takes_of rfl rfl rfl rfl)) (by rfl) (pa_cons (pv 0) (pa_cons (ClX.pe_cval (pe_glob (by rfl) T.g_WeightRule Ev.rel_ref)) pa_nil))))) (pw_or1 (pt_cmpR op_gt (pe_ix ix_tup (pv 0) pe_int (fun _ _ => rfl)) (pe_ix ix_tup (pv 0) pe_int (fun _ _ => rfl)) (nomark _)))))
    (pss_one (Ev.ps_rai xc_BadRule rfl (takes_of rfl rfl rfl rfl) (hr.mono (by decide)) (by rfl) (pa_cons pe_str pa_nil)))
    pss_nil)
    (pss_one (ps_expr (Ev.pe_cE c_need_plus hgd hr (by decide) (Ev.passE (takes_of rfl rfl rfl rfl)) (by rfl) (pa_cons (pv 1) (pa_cons pe_str pa_nil)))))), fun z hK hcm hW hl => ?_⟩
  subst hK hcm
  unfold b_WeightRule_need_numbers
  walk_at "ev s0"
  with_reducible exact (sim_seq (sim_ifS (sim_or (sim_not (by (first | with_reducible refine sim_b ?_ | with_reducible refine sim_test ?_); exact (by first | with_reducible exact (sim_callS hl2 (sim_cons sim_var (sim_cons (by first | with_reducible exact (sim_c fun _ => .int _) | with_reducible exact sim_cval T.cv_WeightRule_MOST fun _ => .int _) sim_nil))) | with_reducible exact (sim_call (by first | exact hl3 | exact hl2 | exact hl | exact link0 (by first | exact hW | rfl)) (fun _ => .nil) (sim_cons sim_var (sim_cons (by first | with_reducible exact (sim_c fun _ => .int _) | with_reducible exact sim_cval T.cv_WeightRule_MOST fun _ => .int _) sim_nil)))))) (by (first | with_reducible refine sim_b ?_ | with_reducible refine sim_test ?_); exact (sim_op simR_gt (sim_op simR_ixT sim_var (by first | with_reducible exact (sim_c fun _ => .int _) | with_reducible exact sim_cval T.cv_WeightRule_MOST fun _ => .int _)) (sim_op simR_ixT sim_var (by first | with_reducible exact (sim_c fun _ => .int _) | with_reducible exact sim_cval T.cv_WeightRule_MOST fun _ => .int _))))) (sim_rai1 (by first | exact hl3 | exact hl2 | exact hl | exact link0 (by first | exact hW | rfl)) T.cx_BadRule T.oe_BadRule (T.xn_part _ _ T.cx_BadRule) (sim_cons (by first | with_reducible exact (sim_c fun _ => .str _) | with_reducible exact sim_cval T.cv_WeightRule_MOST fun _ => .int _) sim_nil)) sim_next) (sim_drop (by first | with_reducible exact (sim_callS hl2 (sim_cons sim_var (sim_cons (by first | with_reducible exact (sim_c fun _ => .str _) | with_reducible exact sim_cval T.cv_WeightRule_MOST fun _ => .int _) sim_nil))) | with_reducible exact (sim_call (by first | exact hl3 | exact hl2 | exact hl | exact link0 (by first | exact hW | rfl)) (fun _ => .nil) (sim_cons sim_var (sim_cons (by first | with_reducible exact (sim_c fun _ => .str _) | with_reducible exact sim_cval T.cv_WeightRule_MOST fun _ => .int _) sim_nil))))))
end
end K29
set_option hygiene false
namespace K29
open PySem L2 Pu
theorem sc_WeightRule_beside : FnScope ["self", "weight"] ["self", "weight"] (C8.fnScope (inClass (top 17) 4)) := C8.fnScope_by (by decide +kernel)
def b_WeightRule_beside : MS := (mRet (mOp pDiv (mOp pAdd (mOp pMul (mOp pIxT (mFld "times" (mVar 0)) (mC (.int 0))) (mVar 1)) (mFld "plus" (mVar 0))) (mOp pIxT (mFld "times" (mVar 0)) (mC (.int 1)))))
def m_WeightRule_beside : List PV → M PV := mFnX 2 b_WeightRule_beside
theorem run_WeightRule_beside {a0 a1 : PV} {W : XP} {n : SN} {Q : PV → SN → Prop} (h : b_WeightRule_beside (fun _ => W) { nx := fun _ n' => Q .non n', rt := Q } [.val a0, .val a1] n) : m_WeightRule_beside [a0, a1] W n Q := h
section
variable {P : Program} {w : World} {K : PySem.W.Frag} {mg : Str → Option Value} {base : Heap} {cm : Pu.Md} {C_Rule : Addr} {C_WeightRule : Addr} {C_TurnRule : Addr} {C_TryRule : Addr} {X_BadRule : Addr} {X_NoHalves : Addr} {X_BadNumber : Addr} {X_BadText : Addr} {X_FairError : Addr}
theorem ok_WeightRule_beside {f : Addr} {fd : FuncData} (F : Ev.Fn K "beside" "WeightRule.beside" (inClass (top 17) 4) f fd) (T : Tx K mg cm C_Rule C_WeightRule C_TurnRule C_TryRule X_BadRule X_NoHalves X_BadNumber X_BadText X_FairError) : Ev.GOk P w K mg base (L2.CX P w) 1 f fd ["self", "weight"] (spP K cm 2 m_WeightRule_beside) := by
  refine qfnX (by decide) F sc_WeightRule_beside fun cdv A outer s H E hcode hgd hr => ?_
  have hu : _ + 64 < cLine := hr.units
  refine ⟨_, (pss_one (ps_ret (pe_op op_fdivW (pe_op op_add (pe_op op_mulW (pe_ix ix_tup (pe_fld (pv 0) rfl) pe_int (fun _ _ => rfl)) (pv 1)) (pe_fld (pv 0) rfl)) (pe_ix ix_tup (pe_fld (pv 0) rfl) pe_int (fun _ _ => rfl))))), fun z hK hcm hW hl => ?_⟩
  subst hK hcm
  unfold b_WeightRule_beside
  walk_at "ev s0"
  with_reducible exact (sim_ret (sim_op simR_div (sim_op simR_add (sim_op simR_mul (sim_op simR_ixT (sim_fld T.na_times sim_var) (by first | with_reducible exact (sim_c fun _ => .int _) | with_reducible exact sim_cval T.cv_WeightRule_MOST fun _ => .int _)) sim_var) (sim_fld T.na_plus sim_var)) (sim_op simR_ixT (sim_fld T.na_times sim_var) (by first | with_reducible exact (sim_c fun _ => .int _) | with_reducible exact sim_cval T.cv_WeightRule_MOST fun _ => .int _))))
end
end K29
namespace K29
open PySem L2 Pu
theorem sc_NoHalves_init : FnScope ["self", "weight"] ["self", "weight"] (C8.fnScope (inClass (top 3) 0)) := C8.fnScope_by (by decide +kernel)
section
variable {P : Program} {w : World} {K : PySem.W.Frag} {mg : Str → Option Value} {base : Heap} {cm : Pu.Md} {C_Rule : Addr} {C_WeightRule : Addr} {C_TurnRule : Addr} {C_TryRule : Addr} {X_BadRule : Addr} {X_NoHalves : Addr} {X_BadNumber : Addr} {X_BadText : Addr} {X_FairError : Addr}
theorem ok_NoHalves_init {f : Addr} {fd : FuncData} (F : Ev.Fn K "__init__" "NoHalves.__init__" (inClass (top 3) 0) f fd) : FnOk P w K mg base (L2.CX P w) 1 f fd ["self", "weight"] (Ev.spX1 K "weight") := by
  obtain ⟨oc, od, dV, kV, doc, pm, an, cdv, ct, osl, rfl, lk, hcd⟩ := F.ex
  refine fn_of (N := ["self", "weight"]) lk hcd sc_NoHalves_init (fun vs H Q E h => by obtain ⟨a, C, y, rfl, _⟩ := h; rfl) fun A outer s H vs Q E hr h => ?_
  obtain ⟨a, C, y, rfl, T, h1, ha, k⟩ := h
  refine ⟨_, pss_one (ps_ost (pv 0) (pv 1)), ?_⟩
  exact ⟨y, rfl, .ref a, rfl, a, C, rfl, T, h1, .inl ⟨ha, fun dx n1 n2 => k dx n1 n2⟩⟩
end
end K29
set_option hygiene false
namespace K29
open PySem L2 Pu
theorem sc_WeightRule_init : FnScope ["self", "times", "plus"] ["self", "times", "plus"] (C8.fnScope (inClass (top 17) 1)) := C8.fnScope_by (by decide +kernel)
def b_WeightRule_init : MS := (mSeq (mDrop (mStatO ["TurnRule", "TryRule"] "need_numbers" 2 m_WeightRule_need_numbers 0 (mCons (mVar 1) (mCons (mVar 2) mNil))))
  (mSeq (mStore 0 "times" (mVar 1))
  (mSeq (mStore 0 "plus" (mVar 2))
  (mSeq (mIfS (mB (mOp pLt (mMethOD [("TurnRule", m_WeightRule_beside), ("TryRule", m_WeightRule_beside)] "beside" 2 0 (mCons (mC (.int 1)) mNil)) (mC (.int 1))))
  (mRai1 "NoHalves" "weight" (mCons (mC (.int 2)) mNil))
  mNext)
  (mIfS (mB (mOp pLt (mMethOD [("TurnRule", m_WeightRule_beside), ("TryRule", m_WeightRule_beside)] "beside" 2 0 (mCons (mC (.int 1)) mNil)) (mC (.int 2))))
  (mRai1 "NoHalves" "weight" (mCons (mC (.int 3)) mNil))
  mNext)))))
def m_WeightRule_init : Str → List (Str × PV) → List PV → M (List (Str × PV)) := mInitX 3 b_WeightRule_init
theorem run_WeightRule_init {c : Str} {fs : List (Str × PV)} {a1 a2 : PV} {W : XP} {n : SN} {Q : List (Str × PV) → SN → Prop} (h : b_WeightRule_init (fun _ => W) { nx := initEnd Q, rt := fun _ _ => False } [.obj c fs, .val a1, .val a2] n) : m_WeightRule_init c fs [a1, a2] W n Q := h
section
variable {P : Program} {w : World} {K : PySem.W.Frag} {mg : Str → Option Value} {base : Heap} {cm : Pu.Md} {C_Rule : Addr} {C_WeightRule : Addr} {C_TurnRule : Addr} {C_TryRule : Addr} {X_BadRule : Addr} {X_NoHalves : Addr} {X_BadNumber : Addr} {X_BadText : Addr} {X_FairError : Addr}
theorem ok_WeightRule_init {f : Addr} {fd : FuncData} (F : Ev.Fn K "__init__" "WeightRule.__init__" (inClass (top 17) 1) f fd) (T : Tx K mg cm C_Rule C_WeightRule C_TurnRule C_TryRule X_BadRule X_NoHalves X_BadNumber X_BadText X_FairError) (c_sneed_numbers_TurnRule_TryRule : ∀ C, (C = C_TurnRule ∨ C = C_TryRule) → Ev.GS P w K mg base 4 C "need_numbers" (spP K cm 2 m_WeightRule_need_numbers) []) (c_pbeside_TurnRule_TryRule : ∀ C sp, ((C = C_TurnRule ∧ sp = spP K cm 2 m_WeightRule_beside) ∨ (C = C_TryRule ∧ sp = spP K cm 2 m_WeightRule_beside)) → Ev.GM P w K mg base 1 C "beside" sp []) (xc_NoHalves : Ev.XC P w K mg base "NoHalves" X_NoHalves (Ev.spX1 K "weight") 1) : Ev.GOk P w K mg base (L2.CX P w) 5 f fd ["self", "times", "plus"] (spI K cm 3 m_WeightRule_init) := by
  refine qinitX (by decide) F sc_WeightRule_init fun cdv A outer s H E hcode hgd hr => ?_
  have hu : _ + 64 < cLine := hr.units
  refine ⟨_, (pss_cons (ps_expr (Ev.pe_sD (D := fun C => C = C_TurnRule ∨ C = C_TryRule) c_sneed_numbers_TurnRule_TryRule hgd hr (by decide) (Ev.passE (takes_of rfl rfl rfl rfl)) (pv 0) (pa_cons (pv 1) (pa_cons (pv 2) pa_nil))))
    (pss_cons (ps_fld (pv 0) (pv 1) rfl)
    (pss_cons (ps_fld (pv 0) (pv 2) rfl)
    (pss_cons (ps_if (pt_cmpR op_lt (Ev.pe_mD (D := fun C sp => (C = C_TurnRule ∧ sp = spP K cm 2 m_WeightRule_beside) ∨ (C = C_TryRule ∧ sp = spP K cm 2 m_WeightRule_beside)) c_pbeside_TurnRule_TryRule hgd hr (by decide) (Ev.passE (takes_of rfl rfl rfl rfl)) (pv 0) (pa_cons pe_int pa_nil)) pe_int (nomark _))
    (pss_one (Ev.ps_rai xc_NoHalves rfl (takes_of rfl rfl rfl rfl) (hr.mono (by decide)) (by rfl) (pa_cons pe_int pa_nil)))
    pss_nil)
    (pss_one (ps_if (pt_cmpR op_lt (Ev.pe_mD (D := fun C sp => (C = C_TurnRule ∧ sp = spP K cm 2 m_WeightRule_beside) ∨ (C = C_TryRule ∧ sp = spP K cm 2 m_WeightRule_beside)) c_pbeside_TurnRule_TryRule hgd hr (by decide) (Ev.passE (takes_of rfl rfl rfl rfl)) (pv 0) (pa_cons pe_int pa_nil)) pe_int (nomark _))
    (pss_one (Ev.ps_rai xc_NoHalves rfl (takes_of rfl rfl rfl rfl) (hr.mono (by decide)) (by rfl) (pa_cons pe_int pa_nil)))
    pss_nil)))))), fun z hK hcm hW hl => ?_⟩
  subst hK hcm
  unfold b_WeightRule_init
  walk_at "ev s0"
  with_reducible exact (sim_seq (sim_drop (sim_statO (by first | exact hl3 | exact hl2 | exact hl | exact link0 (by first | exact hW | rfl)) (by (intro c C h1 h2; simp only [List.contains_cons, List.contains_nil, Bool.or_false, Bool.or_eq_true, beq_iff_eq] at h1; (repeat' (refine Or.elim h1 ?_ ?_ <;> clear h1 <;> intro h1)); all_goals (subst h1; simp only [T.cm_Rule, T.cm_WeightRule, T.cm_TurnRule, T.cm_TryRule, Option.some.injEq] at h2; subst h2; simp))) (sim_cons sim_var (sim_cons sim_var sim_nil)))) (sim_seq (sim_store T.na_times sim_var) (sim_seq (sim_store T.na_plus sim_var) (sim_seq (sim_ifS (by (first | with_reducible refine sim_b ?_ | with_reducible refine sim_test ?_); exact (sim_op simR_lt (sim_methOD (by (intro c m C h1 h2; replace h1 := lk_mem h1; simp only [List.mem_cons, Prod.mk.injEq, List.not_mem_nil, or_false] at h1; (repeat' (refine Or.elim h1 ?_ ?_ <;> clear h1 <;> intro h1)); all_goals (obtain ⟨rfl, rfl⟩ := h1; (simp only [T.cm_Rule, T.cm_WeightRule, T.cm_TurnRule, T.cm_TryRule, Option.some.injEq] at h2; subst h2; simp)))) (sim_cons (by first | with_reducible exact (sim_c fun _ => .int _) | with_reducible exact sim_cval T.cv_WeightRule_MOST fun _ => .int _) sim_nil)) (by first | with_reducible exact (sim_c fun _ => .int _) | with_reducible exact sim_cval T.cv_WeightRule_MOST fun _ => .int _))) (sim_rai1 (by first | exact hl3 | exact hl2 | exact hl | exact link0 (by first | exact hW | rfl)) T.cx_NoHalves T.oe_NoHalves (T.xn_weight _ _ T.cx_NoHalves) (sim_cons (by first | with_reducible exact (sim_c fun _ => .int _) | with_reducible exact sim_cval T.cv_WeightRule_MOST fun _ => .int _) sim_nil)) sim_next) (sim_ifS (by (first | with_reducible refine sim_b ?_ | with_reducible refine sim_test ?_); exact (sim_op simR_lt (sim_methOD (by (intro c m C h1 h2; replace h1 := lk_mem h1; simp only [List.mem_cons, Prod.mk.injEq, List.not_mem_nil, or_false] at h1; (repeat' (refine Or.elim h1 ?_ ?_ <;> clear h1 <;> intro h1)); all_goals (obtain ⟨rfl, rfl⟩ := h1; (simp only [T.cm_Rule, T.cm_WeightRule, T.cm_TurnRule, T.cm_TryRule, Option.some.injEq] at h2; subst h2; simp)))) (sim_cons (by first | with_reducible exact (sim_c fun _ => .int _) | with_reducible exact sim_cval T.cv_WeightRule_MOST fun _ => .int _) sim_nil)) (by first | with_reducible exact (sim_c fun _ => .int _) | with_reducible exact sim_cval T.cv_WeightRule_MOST fun _ => .int _))) (sim_rai1 (by first | exact hl3 | exact hl2 | exact hl | exact link0 (by first | exact hW | rfl)) T.cx_NoHalves T.oe_NoHalves (T.xn_weight _ _ T.cx_NoHalves) (sim_cons (by first | with_reducible exact (sim_c fun _ => .int _) | with_reducible exact sim_cval T.cv_WeightRule_MOST fun _ => .int _) sim_nil)) sim_next)))))
end
end K29
set_option hygiene false
set_option hygiene false
local macro_rules | `(tactic| walk_at "ev sim") => `(tactic| ((try dsimp only [Cx.nox, Cx.wish, Cx.blk, Cx.tr, cxOf, Ev.cxS, Ev.gvX, List.map, List.length, Nat.reduceAdd]); (repeat' (first | with_reducible exact sim_var | with_reducible exact sim_next | with_reducible exact sim_never | with_reducible exact sim_retN | with_reducible exact sim_nil | with_reducible exact sim_break | with_reducible exact sim_cont | with_reducible exact sim_yes | with_reducible exact sim_c fun _ => .int _ | with_reducible exact sim_c fun _ => .str _ | with_reducible exact sim_c fun _ => .bl _ | with_reducible exact sim_c fun _ => .non | with_reducible refine sim_pop ?_ | with_reducible refine sim_seq ?_ ?_ | with_reducible refine sim_freeze ?_ | with_reducible refine sim_ifS ?_ ?_ ?_ | with_reducible refine sim_catOwn ?_ ?_ | with_reducible refine sim_ext ?_ | with_reducible refine sim_setOwn ?_ | with_reducible refine sim_ownList ?_ | with_reducible refine sim_setIx ?_ ?_ | with_reducible refine sim_asg ?_ ?_ | with_reducible exact sim_gN | with_reducible refine sim_ret ?_ | with_reducible refine sim_app ?_ | with_reducible refine sim_drop ?_ | with_reducible refine sim_parOwn ?_ ?_ | with_reducible refine sim_parOwnR ?_ ?_ | with_reducible refine sim_parOwn2 ?_ ?_ | with_reducible refine sim_parOwn3 ?_ ?_ ?_ | with_reducible refine sim_par ?_ | with_reducible refine sim_par3 ?_ | with_reducible refine sim_aug ?_ ?_ | with_reducible refine sim_for ?_ ?_ ?_ | with_reducible refine sim_while ?_ ?_ | with_reducible refine sim_gT ?_ | with_reducible refine sim_gCons ?_ ?_ | with_reducible exact sim_gNil | with_reducible refine sim_join ?_ ?_ | with_reducible refine sim_split ?_ ?_ | with_reducible exact simR_inSign | with_reducible exact simR_notInSign | with_reducible exact simR_in | with_reducible refine sim_star ?_ ?_ | with_reducible refine sim_cons ?_ ?_ | with_reducible refine sim_op ?_ ?_ ?_ | with_reducible refine sim_un ?_ ?_ | with_reducible refine sim_tup ?_ | with_reducible refine sim_lst ?_ | with_reducible refine sim_b ?_ | with_reducible refine sim_test ?_ | with_reducible refine sim_and ?_ ?_ | with_reducible refine sim_or ?_ ?_ | with_reducible refine sim_not ?_ | with_reducible refine sim_andV ?_ ?_ | with_reducible refine sim_orV ?_ ?_ | with_reducible refine sim_notV ?_ | with_reducible refine sim_if ?_ ?_ ?_ | with_reducible refine sim_chain ?_ ?_ ?_ ?_ ?_ | with_reducible refine sim_forG (by first | exact EvG.link_xns T.xs hl3 | exact EvG.link_xns T.xs hl2 | exact EvG.link_xns T.xs hl | exact link0 (by first | exact hW | rfl)) ?_ ?_ ?_ | with_reducible refine sim_forGK (by first | exact EvG.link_xns T.xs hl3 | exact EvG.link_xns T.xs hl2 | exact EvG.link_xns T.xs hl | exact link0 (by first | exact hW | rfl)) (pk_rep (fun _ => by repeat (first | exact .nil | refine .cons (by first | exact .int _ | exact .non | exact .bl _ | exact .str _) ?_)) (fun _ => by repeat (first | exact .nil | refine .cons (by first | exact .int _ | exact .non | exact .bl _ | exact .str _) ?_))) ?_ ?_ ?_ ?_ | with_reducible refine sim_lcG ?_ ?_ ?_ ?_ ?_ | with_reducible refine sim_lcGK (pk_rep (fun _ => by repeat (first | exact .nil | refine .cons (by first | exact .int _ | exact .non | exact .bl _ | exact .str _) ?_)) (fun _ => by repeat (first | exact .nil | refine .cons (by first | exact .int _ | exact .non | exact .bl _ | exact .str _) ?_))) ?_ ?_ ?_ ?_ ?_ ?_ | with_reducible refine sim_ixO ?_ | with_reducible exact sim_setOwnD | with_reducible refine sim_inD ?_ | with_reducible refine sim_notInD ?_ | with_reducible refine sim_putD ?_ ?_ | with_reducible exact sim_lenD | with_reducible refine sim_freezeD ?_ | with_reducible refine sim_ixD ?_ ?_ | with_reducible exact sim_keysI (by decide) | with_reducible exact simC_sorted | with_reducible exact simR_neX | with_reducible refine sim_keepN ?_ ?_ | with_reducible refine sim_peekN ?_ ?_ | with_reducible refine sim_peekTN ?_ ?_ | (exact hA _ _ _ hl2) | (with_reducible refine sim_rai1 (by first | exact hl3 | exact hl2 | exact hl | exact link0 (by first | exact hW | rfl)) T.cx_BadRule T.oe_BadRule (T.xn_part _ _ T.cx_BadRule) ?_) | (with_reducible refine sim_rai1 (by first | exact hl3 | exact hl2 | exact hl | exact link0 (by first | exact hW | rfl)) T.cx_NoHalves T.oe_NoHalves (T.xn_weight _ _ T.cx_NoHalves) ?_) | (with_reducible refine sim_rai1 (by first | exact hl3 | exact hl2 | exact hl | exact link0 (by first | exact hW | rfl)) T.cx_BadNumber T.oe_BadNumber (T.xn_value _ _ T.cx_BadNumber) ?_) | (with_reducible refine sim_xfld T.xx T.xn_part ?_) | (with_reducible refine sim_xfld T.xx T.xn_value ?_) | (with_reducible refine sim_xfld T.xx T.xn_weight ?_) | with_reducible exact sim_dnew | with_reducible refine sim_disp ?_ | with_reducible refine sim_dispP ?_ | with_reducible refine sim_pair1 ?_ ?_ | with_reducible exact sim_pnil | with_reducible refine sim_pconsI ?_ ?_ | with_reducible refine sim_pconsS ?_ ?_ | with_reducible exact simC_reprD | with_reducible refine sim_instD (by first | exact hl3 | exact hl2 | exact hl | exact link0 (by first | exact hW | rfl)) (by (intro c m C h1 h2; replace h1 := lk_mem h1; simp only [List.mem_cons, Prod.mk.injEq, List.not_mem_nil, or_false] at h1; (repeat' (refine Or.elim h1 ?_ ?_ <;> clear h1 <;> intro h1)); all_goals (obtain ⟨rfl, rfl⟩ := h1; (simp only [T.cm_Rule, T.cm_WeightRule, T.cm_TurnRule, T.cm_TryRule, Option.some.injEq] at h2; subst h2; simp)))) ?_ ?_ | with_reducible refine sim_instDK (by first | exact hl3 | exact hl2 | exact hl | exact link0 (by first | exact hW | rfl)) (by (intro c m C h1 h2; replace h1 := lk_mem h1; simp only [List.mem_cons, Prod.mk.injEq, List.not_mem_nil, or_false] at h1; (repeat' (refine Or.elim h1 ?_ ?_ <;> clear h1 <;> intro h1)); all_goals (obtain ⟨rfl, rfl⟩ := h1; (simp only [T.cm_Rule, T.cm_WeightRule, T.cm_TurnRule, T.cm_TryRule, Option.some.injEq] at h2; subst h2; simp)))) (pkS_rep (fun _ => by repeat (first | exact .nil | refine .cons (by first | exact .int _ | exact .non | exact .bl _ | exact .str _) ?_)) (fun _ => by repeat (first | exact .nil | refine .cons (by first | exact .int _ | exact .non | exact .bl _ | exact .str _) ?_))) ?_ ?_ | with_reducible exact simR_isB | with_reducible exact simR_notB | with_reducible exact simR_mulS | with_reducible exact simC_intS | with_reducible refine sim_joined ?_ | with_reducible refine sim_fmt ?_ | with_reducible refine SJ.cons ?_ ?_ | with_reducible exact SJ.nil | with_reducible refine sim_lc2 ?_ ?_ ?_ ?_ ?_ ?_ ?_ ?_ ?_ | with_reducible refine sim_lc ?_ ?_ ?_ ?_ ?_ | with_reducible exact gw_name (by decide) | with_reducible refine gw_tup ?_ | with_reducible refine gw_cons ?_ ?_ | with_reducible exact gw_nil | with_reducible refine sim_iList ?_ | with_reducible refine sim_iTup ?_ | with_reducible refine sim_iRng1 ?_ | with_reducible refine sim_iRng2 ?_ | with_reducible refine sim_iZip ?_ | with_reducible refine sim_iStr ?_ | with_reducible refine sim_iEnum ?_ | with_reducible refine sim_iAny ?_ | with_reducible refine sim_iEnumA ?_ | with_reducible refine sim_iOwn (by first | exact T.cm_Rule | exact T.cm_WeightRule | exact T.cm_TurnRule | exact T.cm_TryRule) ?_ | with_reducible refine sim_draw draw_sp ?_ | with_reducible refine sim_methS hl2 (by first | exact T.cm_Rule | exact T.cm_WeightRule | exact T.cm_TurnRule | exact T.cm_TryRule) ?_ ?_ | with_reducible refine sim_callS hl2 ?_ | with_reducible refine sim_call (by first | exact hl3 | exact hl2 | exact hl | exact link0 (by first | exact hW | rfl)) (fun _ => .nil) ?_ | with_reducible refine sim_callK (by first | exact hl3 | exact hl2 | exact hl | exact link0 (by first | exact hW | rfl)) (pk_rep (fun _ => by repeat (first | exact .nil | refine .cons (by first | exact .int _ | exact .non | exact .bl _ | exact .str _) ?_)) (fun _ => by repeat (first | exact .nil | refine .cons (by first | exact .int _ | exact .non | exact .bl _ | exact .str _) ?_))) ?_ ?_ | with_reducible refine sim_meth (by first | exact hl3 | exact hl2 | exact hl | exact link0 (by first | exact hW | rfl)) (by first | exact T.cm_Rule | exact T.cm_WeightRule | exact T.cm_TurnRule | exact T.cm_TryRule) (fun _ => .nil) ?_ ?_ | with_reducible refine sim_methO (by first | exact T.cm_Rule | exact T.cm_WeightRule | exact T.cm_TurnRule | exact T.cm_TryRule) (fun _ => .nil) ?_ | with_reducible refine sim_prop (by first | exact T.cm_Rule | exact T.cm_WeightRule | exact T.cm_TurnRule | exact T.cm_TryRule) ?_ | with_reducible refine sim_make (by first | exact hl3 | exact hl2 | exact hl | exact link0 (by first | exact hW | rfl)) (by first | exact T.cm_Rule | exact T.cm_WeightRule | exact T.cm_TurnRule | exact T.cm_TryRule) (pkS_rep (fun _ => by repeat (first | exact .nil | refine .cons (by first | exact .int _ | exact .non | exact .bl _ | exact .str _) ?_)) (fun _ => by repeat (first | exact .nil | refine .cons (by first | exact .int _ | exact .non | exact .bl _ | exact .str _) ?_))) ?_ ?_ | with_reducible refine sim_makeV (by first | exact hl3 | exact hl2 | exact hl | exact link0 (by first | exact hW | rfl)) (by first | exact T.cm_Rule | exact T.cm_WeightRule | exact T.cm_TurnRule | exact T.cm_TryRule) (pkS_rep (fun _ => by repeat (first | exact .nil | refine .cons (by first | exact .int _ | exact .non | exact .bl _ | exact .str _) ?_)) (fun _ => by repeat (first | exact .nil | refine .cons (by first | exact .int _ | exact .non | exact .bl _ | exact .str _) ?_))) ?_ ?_ | with_reducible refine sim_cc (by first | exact hl3 | exact hl2 | exact hl | exact link0 (by first | exact hW | rfl)) (pkS_rep (fun _ => by repeat (first | exact .nil | refine .cons (by first | exact .int _ | exact .non | exact .bl _ | exact .str _) ?_)) (fun _ => by repeat (first | exact .nil | refine .cons (by first | exact .int _ | exact .non | exact .bl _ | exact .str _) ?_))) ?_ ?_ | with_reducible refine sim_rev ?_ | with_reducible refine sim_isiT (by decide) T.kt ?_ | with_reducible refine sim_isiT2 (by decide) (by decide) T.kt ?_  | with_reducible refine sim_isiC T.cm_Rule T.ks_Rule ?_ | with_reducible refine sim_isiC T.cm_WeightRule T.ks_WeightRule ?_ | with_reducible refine sim_isiC T.cm_TurnRule T.ks_TurnRule ?_ | with_reducible refine sim_isiC T.cm_TryRule T.ks_TryRule ?_ | with_reducible refine sim_cb ?_ ?_ | with_reducible refine sim_fld T.na_turn ?_ | with_reducible exact sim_fldO T.na_turn | with_reducible refine sim_store T.na_turn ?_ | with_reducible refine sim_makeSt (by first | exact hl3 | exact hl2 | exact hl | exact link0 (by first | exact hW | rfl)) (by first | exact T.cm_Rule | exact T.cm_WeightRule | exact T.cm_TurnRule | exact T.cm_TryRule) T.na_turn (pkS_rep (fun _ => by repeat (first | exact .nil | refine .cons (by first | exact .int _ | exact .non | exact .bl _ | exact .str _) ?_)) (fun _ => by repeat (first | exact .nil | refine .cons (by first | exact .int _ | exact .non | exact .bl _ | exact .str _) ?_))) ?_ ?_ ?_ ?_ | with_reducible refine sim_fld T.na_turn_plus ?_ | with_reducible exact sim_fldO T.na_turn_plus | with_reducible refine sim_store T.na_turn_plus ?_ | with_reducible refine sim_makeSt (by first | exact hl3 | exact hl2 | exact hl | exact link0 (by first | exact hW | rfl)) (by first | exact T.cm_Rule | exact T.cm_WeightRule | exact T.cm_TurnRule | exact T.cm_TryRule) T.na_turn_plus (pkS_rep (fun _ => by repeat (first | exact .nil | refine .cons (by first | exact .int _ | exact .non | exact .bl _ | exact .str _) ?_)) (fun _ => by repeat (first | exact .nil | refine .cons (by first | exact .int _ | exact .non | exact .bl _ | exact .str _) ?_))) ?_ ?_ ?_ ?_ | with_reducible refine sim_fld T.na_times ?_ | with_reducible exact sim_fldO T.na_times | with_reducible refine sim_store T.na_times ?_ | with_reducible refine sim_makeSt (by first | exact hl3 | exact hl2 | exact hl | exact link0 (by first | exact hW | rfl)) (by first | exact T.cm_Rule | exact T.cm_WeightRule | exact T.cm_TurnRule | exact T.cm_TryRule) T.na_times (pkS_rep (fun _ => by repeat (first | exact .nil | refine .cons (by first | exact .int _ | exact .non | exact .bl _ | exact .str _) ?_)) (fun _ => by repeat (first | exact .nil | refine .cons (by first | exact .int _ | exact .non | exact .bl _ | exact .str _) ?_))) ?_ ?_ ?_ ?_ | with_reducible refine sim_fld T.na_plus ?_ | with_reducible exact sim_fldO T.na_plus | with_reducible refine sim_store T.na_plus ?_ | with_reducible refine sim_makeSt (by first | exact hl3 | exact hl2 | exact hl | exact link0 (by first | exact hW | rfl)) (by first | exact T.cm_Rule | exact T.cm_WeightRule | exact T.cm_TurnRule | exact T.cm_TryRule) T.na_plus (pkS_rep (fun _ => by repeat (first | exact .nil | refine .cons (by first | exact .int _ | exact .non | exact .bl _ | exact .str _) ?_)) (fun _ => by repeat (first | exact .nil | refine .cons (by first | exact .int _ | exact .non | exact .bl _ | exact .str _) ?_))) ?_ ?_ ?_ ?_ | with_reducible exact sim_cval T.cv_WeightRule_MOST fun _ => .int _ | with_reducible refine sim_sl ?_ ?_ ?_ ?_ | with_reducible exact sim_noPart | with_reducible refine sim_part ?_ | with_reducible exact simS_slT | with_reducible exact simS_slL | with_reducible exact simS_slS | with_reducible refine sim_lrg1 ?_ | with_reducible refine sim_lrg2 ?_ ?_ | with_reducible refine sim_statO (by first | exact hl3 | exact hl2 | exact hl | exact link0 (by first | exact hW | rfl)) (by (intro c C h1 h2; simp only [List.contains_cons, List.contains_nil, Bool.or_false, Bool.or_eq_true, beq_iff_eq] at h1; (repeat' (refine Or.elim h1 ?_ ?_ <;> clear h1 <;> intro h1)); all_goals (subst h1; simp only [T.cm_Rule, T.cm_WeightRule, T.cm_TurnRule, T.cm_TryRule, Option.some.injEq] at h2; subst h2; simp))) ?_ | with_reducible refine sim_stat (by first | exact hl3 | exact hl2 | exact hl | exact link0 (by first | exact hW | rfl)) (by (intro c C h1 h2; simp only [List.contains_cons, List.contains_nil, Bool.or_false, Bool.or_eq_true, beq_iff_eq] at h1; (repeat' (refine Or.elim h1 ?_ ?_ <;> clear h1 <;> intro h1)); all_goals (subst h1; simp only [T.cm_Rule, T.cm_WeightRule, T.cm_TurnRule, T.cm_TryRule, Option.some.injEq] at h2; subst h2; simp))) ?_ ?_ | with_reducible refine sim_methOD (by (intro c m C h1 h2; replace h1 := lk_mem h1; simp only [List.mem_cons, Prod.mk.injEq, List.not_mem_nil, or_false] at h1; (repeat' (refine Or.elim h1 ?_ ?_ <;> clear h1 <;> intro h1)); all_goals (obtain ⟨rfl, rfl⟩ := h1; (simp only [T.cm_Rule, T.cm_WeightRule, T.cm_TurnRule, T.cm_TryRule, Option.some.injEq] at h2; subst h2; simp)))) ?_ | with_reducible refine sim_methDK (by first | exact hl3 | exact hl2 | exact hl | exact link0 (by first | exact hW | rfl)) (by (intro c m C h1 h2; replace h1 := lk_mem h1; simp only [List.mem_cons, Prod.mk.injEq, List.not_mem_nil, or_false] at h1; (repeat' (refine Or.elim h1 ?_ ?_ <;> clear h1 <;> intro h1)); all_goals (obtain ⟨rfl, rfl⟩ := h1; (simp only [T.cm_Rule, T.cm_WeightRule, T.cm_TurnRule, T.cm_TryRule, Option.some.injEq] at h2; subst h2; simp)))) (pkS_rep (fun _ => by repeat (first | exact .nil | refine .cons (by first | exact .int _ | exact .non | exact .bl _ | exact .str _) ?_)) (fun _ => by repeat (first | exact .nil | refine .cons (by first | exact .int _ | exact .non | exact .bl _ | exact .str _) ?_))) ?_ ?_ | with_reducible exact simR_add | with_reducible exact simR_sub | with_reducible exact simR_mul | with_reducible exact simR_div | with_reducible exact simR_mod | with_reducible exact simR_pow | with_reducible exact simR_lt | with_reducible exact simR_le | with_reducible exact simR_gt | with_reducible exact simR_ge | with_reducible exact simR_ipadd | with_reducible exact simR_ipsub | with_reducible exact simR_eq | with_reducible exact simR_ne | with_reducible exact simR_isN | with_reducible exact simR_notN | with_reducible exact simU_neg | with_reducible exact simR_eqD | with_reducible exact simR_neD | with_reducible exact simR_ixA | with_reducible exact simR_ixU | with_reducible exact simR_ixL | with_reducible exact simR_ixT | with_reducible exact simR_ixS | with_reducible exact simR_catT | with_reducible exact simR_catL | with_reducible exact simR_catS | with_reducible exact simR_repL | with_reducible exact simR_repT | with_reducible exact simC_repr | with_reducible exact simC_len | with_reducible exact simC_lenU | with_reducible exact simC_lenS | with_reducible exact simC_abs | with_reducible exact simC_max2 | with_reducible exact simC_min2 | with_reducible exact simC_int1 | with_reducible exact simC_bool1 | with_reducible exact simC_str1 | with_reducible exact simC_sum | with_reducible exact simC_sumT | with_reducible exact simC_maxL | with_reducible exact simC_minL | with_reducible exact simC_all | with_reducible exact simC_any | with_reducible exact simC_tuple | with_reducible exact simC_list | with_reducible exact simC_listO (by first | exact T.cm_Rule | exact T.cm_WeightRule | exact T.cm_TurnRule | exact T.cm_TryRule) | with_reducible refine simC_1 ?_ | with_reducible refine simU_own1 (by first | exact hl3 | exact hl2 | exact hl | exact link0 (by first | exact hW | rfl)) (by first | exact T.cm_Rule | exact T.cm_WeightRule | exact T.cm_TurnRule | exact T.cm_TryRule) (fun _ _ _ => isB_of) | with_reducible refine simU_own1 (by first | exact hl3 | exact hl2 | exact hl | exact link0 (by first | exact hW | rfl)) (by first | exact T.cm_Rule | exact T.cm_WeightRule | exact T.cm_TurnRule | exact T.cm_TryRule) (fun _ _ _ => isS_of) | with_reducible refine simU_own1 (by first | exact hl3 | exact hl2 | exact hl | exact link0 (by first | exact hW | rfl)) (by first | exact T.cm_Rule | exact T.cm_WeightRule | exact T.cm_TurnRule | exact T.cm_TryRule) (fun _ _ _ => isLen_of) | with_reducible exact simR_eqLI (by (intro c m C h1 h2; replace h1 := lk_mem h1; simp only [List.mem_cons, Prod.mk.injEq, List.not_mem_nil, or_false] at h1; (repeat' (refine Or.elim h1 ?_ ?_ <;> clear h1 <;> intro h1)); all_goals (obtain ⟨rfl, rfl⟩ := h1; (simp only [T.cm_Rule, T.cm_WeightRule, T.cm_TurnRule, T.cm_TryRule, Option.some.injEq] at h2; subst h2; simp)))) (by (intro c C m d D h1 h2 h3; replace h1 := lk_mem h1; simp only [List.mem_cons, Prod.mk.injEq, List.not_mem_nil, or_false] at h1; (repeat' (refine Or.elim h1 ?_ ?_ <;> clear h1 <;> intro h1)); all_goals (obtain ⟨rfl, rfl⟩ := h1; (simp only [T.cm_Rule, T.cm_WeightRule, T.cm_TurnRule, T.cm_TryRule, Option.some.injEq] at h2; subst h2; first | exact T.nf_TurnRule _ _ h3 | exact T.nf_TryRule _ _ h3)))) | with_reducible exact simR_eqTI (by (intro c m C h1 h2; replace h1 := lk_mem h1; simp only [List.mem_cons, Prod.mk.injEq, List.not_mem_nil, or_false] at h1; (repeat' (refine Or.elim h1 ?_ ?_ <;> clear h1 <;> intro h1)); all_goals (obtain ⟨rfl, rfl⟩ := h1; (simp only [T.cm_Rule, T.cm_WeightRule, T.cm_TurnRule, T.cm_TryRule, Option.some.injEq] at h2; subst h2; simp)))) (by (intro c C m d D h1 h2 h3; replace h1 := lk_mem h1; simp only [List.mem_cons, Prod.mk.injEq, List.not_mem_nil, or_false] at h1; (repeat' (refine Or.elim h1 ?_ ?_ <;> clear h1 <;> intro h1)); all_goals (obtain ⟨rfl, rfl⟩ := h1; (simp only [T.cm_Rule, T.cm_WeightRule, T.cm_TurnRule, T.cm_TryRule, Option.some.injEq] at h2; subst h2; first | exact T.nf_TurnRule _ _ h3 | exact T.nf_TryRule _ _ h3)))) | with_reducible exact simR_neLX (by (intro c m C h1 h2; replace h1 := lk_mem h1; simp only [List.mem_cons, Prod.mk.injEq, List.not_mem_nil, or_false] at h1; (repeat' (refine Or.elim h1 ?_ ?_ <;> clear h1 <;> intro h1)); all_goals (obtain ⟨rfl, rfl⟩ := h1; (simp only [T.cm_Rule, T.cm_WeightRule, T.cm_TurnRule, T.cm_TryRule, Option.some.injEq] at h2; subst h2; simp)))) (by (intro c C m d D h1 h2 h3; replace h1 := lk_mem h1; simp only [List.mem_cons, Prod.mk.injEq, List.not_mem_nil, or_false] at h1; (repeat' (refine Or.elim h1 ?_ ?_ <;> clear h1 <;> intro h1)); all_goals (obtain ⟨rfl, rfl⟩ := h1; (simp only [T.cm_Rule, T.cm_WeightRule, T.cm_TurnRule, T.cm_TryRule, Option.some.injEq] at h2; subst h2; first | exact T.nf_TurnRule _ _ h3 | exact T.nf_TryRule _ _ h3)))) | with_reducible exact simR_ownCD (by first | exact hl3 | exact hl2 | exact hl | exact link0 (by first | exact hW | rfl)) (by (intro c m C h1 h2; replace h1 := lk_mem h1; simp only [List.mem_cons, Prod.mk.injEq, List.not_mem_nil, or_false] at h1; (repeat' (refine Or.elim h1 ?_ ?_ <;> clear h1 <;> intro h1)); all_goals (obtain ⟨rfl, rfl⟩ := h1; (simp only [T.cm_Rule, T.cm_WeightRule, T.cm_TurnRule, T.cm_TryRule, Option.some.injEq] at h2; subst h2; simp)))) (by (intro c C m d D h1 h2 h3; replace h1 := lk_mem h1; simp only [List.mem_cons, Prod.mk.injEq, List.not_mem_nil, or_false] at h1; (repeat' (refine Or.elim h1 ?_ ?_ <;> clear h1 <;> intro h1)); all_goals (obtain ⟨rfl, rfl⟩ := h1; (simp only [T.cm_Rule, T.cm_WeightRule, T.cm_TurnRule, T.cm_TryRule, Option.some.injEq] at h2; subst h2; first | exact T.nf_TurnRule _ _ h3 | exact T.nf_TryRule _ _ h3)))) | with_reducible exact simU_own1D (by first | exact hl3 | exact hl2 | exact hl | exact link0 (by first | exact hW | rfl)) (by (intro c m C h1 h2; replace h1 := lk_mem h1; simp only [List.mem_cons, Prod.mk.injEq, List.not_mem_nil, or_false] at h1; (repeat' (refine Or.elim h1 ?_ ?_ <;> clear h1 <;> intro h1)); all_goals (obtain ⟨rfl, rfl⟩ := h1; (simp only [T.cm_Rule, T.cm_WeightRule, T.cm_TurnRule, T.cm_TryRule, Option.some.injEq] at h2; subst h2; simp)))) (fun _ _ _ => isB_of) | with_reducible exact simU_own1D (by first | exact hl3 | exact hl2 | exact hl | exact link0 (by first | exact hW | rfl)) (by (intro c m C h1 h2; replace h1 := lk_mem h1; simp only [List.mem_cons, Prod.mk.injEq, List.not_mem_nil, or_false] at h1; (repeat' (refine Or.elim h1 ?_ ?_ <;> clear h1 <;> intro h1)); all_goals (obtain ⟨rfl, rfl⟩ := h1; (simp only [T.cm_Rule, T.cm_WeightRule, T.cm_TurnRule, T.cm_TryRule, Option.some.injEq] at h2; subst h2; simp)))) (fun _ _ _ => isS_of) | with_reducible refine sim_methD (by first | exact hl3 | exact hl2 | exact hl | exact link0 (by first | exact hW | rfl)) (by (intro c m C h1 h2; replace h1 := lk_mem h1; simp only [List.mem_cons, Prod.mk.injEq, List.not_mem_nil, or_false] at h1; (repeat' (refine Or.elim h1 ?_ ?_ <;> clear h1 <;> intro h1)); all_goals (obtain ⟨rfl, rfl⟩ := h1; (simp only [T.cm_Rule, T.cm_WeightRule, T.cm_TurnRule, T.cm_TryRule, Option.some.injEq] at h2; subst h2; simp)))) (fun _ => .nil) ?_ ?_  | with_reducible exact simR_ownC (by first | exact hl3 | exact hl2 | exact hl | exact link0 (by first | exact hW | rfl)) T.cm_TurnRule T.nf_TurnRule | with_reducible exact simR_ownC (by first | exact hl3 | exact hl2 | exact hl | exact link0 (by first | exact hW | rfl)) T.cm_TryRule T.nf_TryRule))))
namespace K29
open PySem L2 Pu
theorem sc_TurnRule_init : Ev.ScS ["self", "times", "plus", "turn", "turn_plus"] ["self", "times", "plus", "turn", "turn_plus"] (C8.fnScope (inClass (top 18) 0)) := ⟨by decide +kernel, by decide +kernel, by decide +kernel, by decide +kernel, by decide +kernel, by decide +kernel, by decide +kernel, by decide +kernel, by decide +kernel, by decide +kernel⟩
def b1_TurnRule_init : MS := (mSeq (mDrop (mStatO ["TurnRule"] "need_numbers" 2 m_WeightRule_need_numbers 0 (mCons (mVar 1) (mCons (mVar 2) mNil))))
  (mSeq (mIfS (mNot (mB (mCall 2 m_is_times [] (mCons (mVar 3) (mCons (mC (.int 8)) mNil)))))
  (mRai1 "BadRule" "part" (mCons (mC (.str "turn")) mNil))
  mNext)
  (mDrop (mCall 2 m_need_plus [] (mCons (mVar 4) (mCons (mC (.str "turn_plus")) mNil))))))
def ba_TurnRule_init : PEnv → M (List PV) := (mCons (mVar 1) (mCons (mVar 2) mNil))
def b2_TurnRule_init : MS := (mSeq (mStore 0 "turn" (mVar 3))
  (mStore 0 "turn_plus" (mVar 4)))
def b_TurnRule_init : MS := mSeq b1_TurnRule_init (mSeq (mSup "TurnRule" 3 m_WeightRule_init ba_TurnRule_init) b2_TurnRule_init)
def m_TurnRule_init : Str → List (Str × PV) → List PV → M (List (Str × PV)) := mInitX 5 b_TurnRule_init
theorem run_TurnRule_init {c : Str} {fs : List (Str × PV)} {a1 a2 a3 a4 : PV} {W : XP} {n : SN} {Q : List (Str × PV) → SN → Prop} (h : b_TurnRule_init (fun _ => W) { nx := initEnd Q, rt := fun _ _ => False } [.obj c fs, .val a1, .val a2, .val a3, .val a4] n) : m_TurnRule_init c fs [a1, a2, a3, a4] W n Q := h
section
variable {P : Program} {w : World} {K : PySem.W.Frag} {mg : Str → Option Value} {base : Heap} {cm : Pu.Md} {C_Rule : Addr} {C_WeightRule : Addr} {C_TurnRule : Addr} {C_TryRule : Addr} {X_BadRule : Addr} {X_NoHalves : Addr} {X_BadNumber : Addr} {X_BadText : Addr} {X_FairError : Addr}
theorem ok_TurnRule_init {f cc f2 : Addr} {fd fd2 : FuncData} {ps2 : List Str} (F : Ev.FnS P K "__init__" "TurnRule.__init__" (inClass (top 18) 0) f cc C_TurnRule fd) (SP : Ev.Sup P K mg C_TurnRule "__init__" f2) (F2 : Ev.GOk P w K mg base (L2.CX P w) 5 f2 fd2 ps2 (spI K cm 3 m_WeightRule_init)) (hb2 : Binds K fd2 ps2 []) (T : Tx K mg cm C_Rule C_WeightRule C_TurnRule C_TryRule X_BadRule X_NoHalves X_BadNumber X_BadText X_FairError) (c_sneed_numbers_TurnRule : ∀ C, (C = C_TurnRule) → Ev.GS P w K mg base 4 C "need_numbers" (spP K cm 2 m_WeightRule_need_numbers) []) (c_is_times : Ev.GC P w K mg base 3 "is_times" (spP K cm 2 m_is_times) []) (xc_BadRule : Ev.XC P w K mg base "BadRule" X_BadRule (Ev.spX1 K "part") 1) (c_need_plus : Ev.GC P w K mg base 3 "need_plus" (spP K cm 2 m_need_plus) []) : Ev.GOk P w K mg base (L2.CX P w) 6 f fd ["self", "times", "plus", "turn", "turn_plus"] (spI K cm 5 m_TurnRule_init) := by
  refine qinitSX (N := ["self", "times", "plus", "turn", "turn_plus"]) (ps := ["self", "times", "plus", "turn", "turn_plus"]) (b1 := b1_TurnRule_init) (b2 := b2_TurnRule_init) (ma := ba_TurnRule_init) (pre := (C8.fnBody (inClass (top 18) 0)).take 3) (post := (C8.fnBody (inClass (top 18) 0)).drop 4) (by decide) F sc_TurnRule_init SP T.cm_TurnRule rfl rfl (by decide +kernel) rfl F2 (by decide) hb2 (fun cda A outer s H E hgd hr => ?_) (fun _ => rfl) (fun _ => rfl) _ (fun _ => rfl)
  have hu : _ + 64 < cLine := hr.units
  obtain ⟨_, hk_MOST_TURN⟩ := T.k_MOST_TURN
  refine ⟨_, _, _, (pss_cons (ps_expr (Ev.pe_sD (D := fun C => C = C_TurnRule) c_sneed_numbers_TurnRule hgd hr (by decide) (Ev.passE (takes_of rfl rfl rfl rfl)) (pv 0) (pa_cons (pv 1) (pa_cons (pv 2) pa_nil))))
      (pss_cons (ps_if (pt_not (pt_val (Ev.pe_cE c_is_times hgd hr (by decide) (Ev.passE (takes_of rfl rfl rfl rfl)) (by rfl) (pa_cons (pv 3) (pa_cons (pe_glob (by rfl) hk_MOST_TURN Ev.rel_int) pa_nil)))))
      (pss_one (Ev.ps_rai xc_BadRule rfl (takes_of rfl rfl rfl rfl) (hr.mono (by decide)) (by rfl) (pa_cons pe_str pa_nil)))
      pss_nil)
      (pss_one (ps_expr (Ev.pe_cE c_need_plus hgd hr (by decide) (Ev.passE (takes_of rfl rfl rfl rfl)) (by rfl) (pa_cons (pv 4) (pa_cons pe_str pa_nil))))))),
    (pa_cons (pv 1) (pa_cons (pv 2) pa_nil)),
    (pss_cons (ps_fld (pv 0) (pv 3) rfl)
      (pss_one (ps_fld (pv 0) (pv 4) rfl))), fun z hK hcm hW hl => ?_⟩
  subst hK hcm
  refine ⟨?_, ?_, ?_⟩
  · unfold b1_TurnRule_init
    walk_at "ev s0"
    with_reducible exact (sim_seq (sim_drop (sim_statO (by first | exact hl3 | exact hl2 | exact hl | exact link0 (by first | exact hW | rfl)) (by (intro c C h1 h2; simp only [List.contains_cons, List.contains_nil, Bool.or_false, Bool.or_eq_true, beq_iff_eq] at h1; (repeat' (refine Or.elim h1 ?_ ?_ <;> clear h1 <;> intro h1)); all_goals (subst h1; simp only [T.cm_Rule, T.cm_WeightRule, T.cm_TurnRule, T.cm_TryRule, Option.some.injEq] at h2; subst h2; simp))) (sim_cons sim_var (sim_cons sim_var sim_nil)))) (sim_seq (sim_ifS (sim_not (by (first | with_reducible refine sim_b ?_ | with_reducible refine sim_test ?_); exact (by first | with_reducible exact (sim_callS hl2 (sim_cons sim_var (sim_cons (by first | with_reducible exact (sim_c fun _ => .int _) | with_reducible exact sim_cval T.cv_WeightRule_MOST fun _ => .int _) sim_nil))) | with_reducible exact (sim_call (by first | exact hl3 | exact hl2 | exact hl | exact link0 (by first | exact hW | rfl)) (fun _ => .nil) (sim_cons sim_var (sim_cons (by first | with_reducible exact (sim_c fun _ => .int _) | with_reducible exact sim_cval T.cv_WeightRule_MOST fun _ => .int _) sim_nil)))))) (sim_rai1 (by first | exact hl3 | exact hl2 | exact hl | exact link0 (by first | exact hW | rfl)) T.cx_BadRule T.oe_BadRule (T.xn_part _ _ T.cx_BadRule) (sim_cons (by first | with_reducible exact (sim_c fun _ => .str _) | with_reducible exact sim_cval T.cv_WeightRule_MOST fun _ => .int _) sim_nil)) sim_next) (sim_drop (by first | with_reducible exact (sim_callS hl2 (sim_cons sim_var (sim_cons (by first | with_reducible exact (sim_c fun _ => .str _) | with_reducible exact sim_cval T.cv_WeightRule_MOST fun _ => .int _) sim_nil))) | with_reducible exact (sim_call (by first | exact hl3 | exact hl2 | exact hl | exact link0 (by first | exact hW | rfl)) (fun _ => .nil) (sim_cons sim_var (sim_cons (by first | with_reducible exact (sim_c fun _ => .str _) | with_reducible exact sim_cval T.cv_WeightRule_MOST fun _ => .int _) sim_nil)))))))
  · unfold ba_TurnRule_init
    walk_at "ev sim"
  · unfold b2_TurnRule_init
    walk_at "ev s0"
    with_reducible exact (sim_seq (sim_store T.na_turn sim_var) (sim_store T.na_turn_plus sim_var))
end
end K29
set_option hygiene false
set_option hygiene false
namespace K29
open PySem L2 Pu
theorem sc_TryRule_init : Ev.ScS ["self", "times", "plus"] ["self", "times", "plus"] (C8.fnScope (inClass (top 19) 0)) := ⟨by decide +kernel, by decide +kernel, by decide +kernel, by decide +kernel, by decide +kernel, by decide +kernel, by decide +kernel, by decide +kernel, by decide +kernel, by decide +kernel⟩
def b1_TryRule_init : MS := mNext
def ba_TryRule_init : PEnv → M (List PV) := (mCons (mVar 1) (mCons (mVar 2) mNil))
def b2_TryRule_init : MS := mNext
def b_TryRule_init : MS := mSeq b1_TryRule_init (mSeq (mSup "TryRule" 3 m_WeightRule_init ba_TryRule_init) b2_TryRule_init)
def m_TryRule_init : Str → List (Str × PV) → List PV → M (List (Str × PV)) := mInitX 3 b_TryRule_init
theorem run_TryRule_init {c : Str} {fs : List (Str × PV)} {a1 a2 : PV} {W : XP} {n : SN} {Q : List (Str × PV) → SN → Prop} (h : b_TryRule_init (fun _ => W) { nx := initEnd Q, rt := fun _ _ => False } [.obj c fs, .val a1, .val a2] n) : m_TryRule_init c fs [a1, a2] W n Q := h
section
variable {P : Program} {w : World} {K : PySem.W.Frag} {mg : Str → Option Value} {base : Heap} {cm : Pu.Md} {C_Rule : Addr} {C_WeightRule : Addr} {C_TurnRule : Addr} {C_TryRule : Addr} {X_BadRule : Addr} {X_NoHalves : Addr} {X_BadNumber : Addr} {X_BadText : Addr} {X_FairError : Addr}
theorem ok_TryRule_init {f cc f2 : Addr} {fd fd2 : FuncData} {ps2 : List Str} (F : Ev.FnS P K "__init__" "TryRule.__init__" (inClass (top 19) 0) f cc C_TryRule fd) (SP : Ev.Sup P K mg C_TryRule "__init__" f2) (F2 : Ev.GOk P w K mg base (L2.CX P w) 5 f2 fd2 ps2 (spI K cm 3 m_WeightRule_init)) (hb2 : Binds K fd2 ps2 []) (T : Tx K mg cm C_Rule C_WeightRule C_TurnRule C_TryRule X_BadRule X_NoHalves X_BadNumber X_BadText X_FairError) : Ev.GOk P w K mg base (L2.CX P w) 6 f fd ["self", "times", "plus"] (spI K cm 3 m_TryRule_init) := by
  refine qinitSX (N := ["self", "times", "plus"]) (ps := ["self", "times", "plus"]) (b1 := b1_TryRule_init) (b2 := b2_TryRule_init) (ma := ba_TryRule_init) (pre := (C8.fnBody (inClass (top 19) 0)).take 0) (post := (C8.fnBody (inClass (top 19) 0)).drop 1) (by decide) F sc_TryRule_init SP T.cm_TryRule rfl rfl (by decide +kernel) rfl F2 (by decide) hb2 (fun cda A outer s H E hgd hr => ?_) (fun _ => rfl) (fun _ => rfl) _ (fun _ => rfl)
  have hu : _ + 64 < cLine := hr.units
  refine ⟨_, _, _, pss_nil,
    (pa_cons (pv 1) (pa_cons (pv 2) pa_nil)),
    pss_nil, fun z hK hcm hW hl => ?_⟩
  subst hK hcm
  refine ⟨?_, ?_, ?_⟩
  · unfold b1_TryRule_init
    walk_at "ev s0"
    with_reducible exact sim_next
  · unfold ba_TryRule_init
    walk_at "ev sim"
  · unfold b2_TryRule_init
    walk_at "ev s0"
    with_reducible exact sim_next
end
end K29
set_option hygiene false
namespace K29
open PySem L2 Pu
theorem sc_law_rule : FnScope ["_law_some", "_law_is_turn", "_law_p", "_law_q", "_law_k", "_law_t", "_law_s", "_law_r"] ["_law_some", "_law_is_turn"] (C8.fnScope (top 41)) := C8.fnScope_by (by decide +kernel)
def b_law_rule : MS := (mSeq (mAsg (mVar 0) (mgT 6 (mgCons (mgN 2) (mgCons (mgN 3) (mgCons (mgN 4) (mgCons (mgN 5) (mgCons (mgN 6) (mgCons (mgN 7) mgNil))))))))
  (mRet (mIf (mB (mVar 1)) (mMake "TurnRule" 2 2 5 (pkP [.int 0] [] [(0, 0), (0, 1), (3, 0), (3, 1)]) m_TurnRule_init (mCons (mTup (mCons (mVar 2) (mCons (mVar 3) mNil))) (mCons (mVar 4) mNil)) (mCons (mTup (mCons (mVar 5) (mCons (mVar 6) mNil))) (mCons (mCB pMax2 (mCons (mUn pNeg (mC (.int 6))) (mCons (mCB pInt1 (mCons (mVar 7) mNil)) mNil))) mNil))) (mMake "TryRule" 2 0 3 (pkP [.int 0] [] [(0, 0), (0, 1)]) m_TryRule_init (mCons (mTup (mCons (mVar 2) (mCons (mVar 3) mNil))) (mCons (mVar 4) mNil)) mNil))))
def m_law_rule : List PV → M PV := mFnX 8 b_law_rule
theorem run_law_rule {a0 a1 : PV} {W : XP} {n : SN} {Q : PV → SN → Prop} (h : b_law_rule (fun _ => W) { nx := fun _ n' => Q .non n', rt := Q } [.val a0, .val a1, .no, .no, .no, .no, .no, .no] n) : m_law_rule [a0, a1] W n Q := h
section
variable {P : Program} {w : World} {K : PySem.W.Frag} {mg : Str → Option Value} {base : Heap} {cm : Pu.Md} {C_Rule : Addr} {C_WeightRule : Addr} {C_TurnRule : Addr} {C_TryRule : Addr} {X_BadRule : Addr} {X_NoHalves : Addr} {X_BadNumber : Addr} {X_BadText : Addr} {X_FairError : Addr}
theorem ok_law_rule {f : Addr} {fd : FuncData} (F : Ev.Fn K "_law_rule" "_law_rule" (top 41) f fd) (T : Tx K mg cm C_Rule C_WeightRule C_TurnRule C_TryRule X_BadRule X_NoHalves X_BadNumber X_BadText X_FairError) (c_mk_TurnRule_2_turn_turn_plus : Ev.GN P w K mg base 6 "TurnRule" C_TurnRule (spI K cm 5 m_TurnRule_init) 2 ["turn", "turn_plus"] (pkS [.int 0] [] [(0, 0), (0, 1), (3, 0), (3, 1)])) (c_mk_TryRule_2_ : Ev.GN P w K mg base 6 "TryRule" C_TryRule (spI K cm 3 m_TryRule_init) 2 [] (pkS [.int 0] [] [(0, 0), (0, 1)])) : Ev.GOk P w K mg base (L2.CX P w) 8 f fd ["_law_some", "_law_is_turn"] (spP K cm 2 m_law_rule) := by
  refine qfnX (by decide) F sc_law_rule fun cdv A outer s H E hcode hgd hr => ?_
  have hu : _ + 64 < cLine := hr.units
  refine ⟨_, (pss_cons (ps_asg (pv 0) (by exact (pg_tup (n := 6) rfl (pgs_cons (pg_name (i := 2) sc_law_rule.nd rfl (.inl rfl)) (pgs_cons (pg_name (i := 3) sc_law_rule.nd rfl (.inl rfl)) (pgs_cons (pg_name (i := 4) sc_law_rule.nd rfl (.inl rfl)) (pgs_cons (pg_name (i := 5) sc_law_rule.nd rfl (.inl rfl)) (pgs_cons (pg_name (i := 6) sc_law_rule.nd rfl (.inl rfl)) (pgs_cons (pg_name (i := 7) sc_law_rule.nd rfl (.inl rfl)) pgs_nil)))))))))
    (pss_one (ps_ret (pe_ifExp (pt_val (pv 1)) (Ev.pe_nE c_mk_TurnRule_2_turn_turn_plus hgd hr (by decide) (Ev.passE (takes_of rfl rfl rfl rfl)) (by rfl) (pa_cons (pe_tup (pa_cons (pv 2) (pa_cons (pv 3) pa_nil))) (pa_cons (pv 4) pa_nil)) (pk_cons (pe_tup (pa_cons (pv 5) (pa_cons (pv 6) pa_nil))) (pk_cons (pe_callB (call_max2 rfl) (by rfl) T.m_max (by decide +kernel) (pa_cons (pe_un un_neg pe_int) (pa_cons (pe_callTy call_int1 (by rfl) T.m_int (by decide +kernel) (pa_cons (pv 7) pa_nil)) pa_nil))) pk_nil))) (Ev.pe_nE c_mk_TryRule_2_ hgd hr (by decide) (Ev.passE (takes_of rfl rfl rfl rfl)) (by rfl) (pa_cons (pe_tup (pa_cons (pv 2) (pa_cons (pv 3) pa_nil))) (pa_cons (pv 4) pa_nil)) pk_nil))))), fun z hK hcm hW hl => ?_⟩
  subst hK hcm
  unfold b_law_rule
  walk_at "ev s0"
  with_reducible exact (sim_seq (sim_asg sim_var (sim_gT (sim_gCons sim_gN (sim_gCons sim_gN (sim_gCons sim_gN (sim_gCons sim_gN (sim_gCons sim_gN (sim_gCons sim_gN sim_gNil)))))))) (sim_ret (sim_if (by (first | with_reducible refine sim_b ?_ | with_reducible refine sim_test ?_); exact sim_var) (sim_make (by first | exact hl3 | exact hl2 | exact hl | exact link0 (by first | exact hW | rfl)) (by first | exact T.cm_Rule | exact T.cm_WeightRule | exact T.cm_TurnRule | exact T.cm_TryRule) (pkS_rep (fun _ => by repeat (first | exact .nil | refine .cons (by first | exact .int _ | exact .non | exact .bl _ | exact .str _) ?_)) (fun _ => by repeat (first | exact .nil | refine .cons (by first | exact .int _ | exact .non | exact .bl _ | exact .str _) ?_))) (sim_cons (sim_tup (sim_cons sim_var (sim_cons sim_var sim_nil))) (sim_cons sim_var sim_nil)) (sim_cons (sim_tup (sim_cons sim_var (sim_cons sim_var sim_nil))) (sim_cons (sim_cb simC_max2 (sim_cons (sim_un simU_neg (by first | with_reducible exact (sim_c fun _ => .int _) | with_reducible exact sim_cval T.cv_WeightRule_MOST fun _ => .int _)) (sim_cons (sim_cb simC_int1 (sim_cons sim_var sim_nil)) sim_nil))) sim_nil))) (sim_make (by first | exact hl3 | exact hl2 | exact hl | exact link0 (by first | exact hW | rfl)) (by first | exact T.cm_Rule | exact T.cm_WeightRule | exact T.cm_TurnRule | exact T.cm_TryRule) (pkS_rep (fun _ => by repeat (first | exact .nil | refine .cons (by first | exact .int _ | exact .non | exact .bl _ | exact .str _) ?_)) (fun _ => by repeat (first | exact .nil | refine .cons (by first | exact .int _ | exact .non | exact .bl _ | exact .str _) ?_))) (sim_cons (sim_tup (sim_cons sim_var (sim_cons sim_var sim_nil))) (sim_cons sim_var sim_nil)) sim_nil))))
end
end K29
set_option hygiene false
namespace K29
open PySem L2 Pu
theorem sc_law_top : FnScope ["_law_some", "_law_x"] ["_law_some", "_law_x"] (C8.fnScope (top 42)) := C8.fnScope_by (by decide +kernel)
def b_law_top : MS := (mRet (mOp pDiv (mOp pAdd (mOp pMul (mOp pIxT (mVar 0) (mC (.int 0))) (mVar 1)) (mOp pIxT (mVar 0) (mC (.int 2)))) (mOp pIxT (mVar 0) (mC (.int 1)))))
def m_law_top : List PV → M PV := mFnX 2 b_law_top
theorem run_law_top {a0 a1 : PV} {W : XP} {n : SN} {Q : PV → SN → Prop} (h : b_law_top (fun _ => W) { nx := fun _ n' => Q .non n', rt := Q } [.val a0, .val a1] n) : m_law_top [a0, a1] W n Q := h
section
variable {P : Program} {w : World} {K : PySem.W.Frag} {mg : Str → Option Value} {base : Heap} {cm : Pu.Md} {C_Rule : Addr} {C_WeightRule : Addr} {C_TurnRule : Addr} {C_TryRule : Addr} {X_BadRule : Addr} {X_NoHalves : Addr} {X_BadNumber : Addr} {X_BadText : Addr} {X_FairError : Addr}
theorem ok_law_top {f : Addr} {fd : FuncData} (F : Ev.Fn K "_law_top" "_law_top" (top 42) f fd) (T : Tx K mg cm C_Rule C_WeightRule C_TurnRule C_TryRule X_BadRule X_NoHalves X_BadNumber X_BadText X_FairError) : Ev.GOk P w K mg base (L2.CX P w) 1 f fd ["_law_some", "_law_x"] (spP K cm 2 m_law_top) := by
  refine qfnX (by decide) F sc_law_top fun cdv A outer s H E hcode hgd hr => ?_
  have hu : _ + 64 < cLine := hr.units
  refine ⟨_, (pss_one (ps_ret (pe_op op_fdivW (pe_op op_add (pe_op op_mulW (pe_ix ix_tup (pv 0) pe_int (fun _ _ => rfl)) (pv 1)) (pe_ix ix_tup (pv 0) pe_int (fun _ _ => rfl))) (pe_ix ix_tup (pv 0) pe_int (fun _ _ => rfl))))), fun z hK hcm hW hl => ?_⟩
  subst hK hcm
  unfold b_law_top
  walk_at "ev s0"
  with_reducible exact (sim_ret (sim_op simR_div (sim_op simR_add (sim_op simR_mul (sim_op simR_ixT sim_var (by first | with_reducible exact (sim_c fun _ => .int _) | with_reducible exact sim_cval T.cv_WeightRule_MOST fun _ => .int _)) sim_var) (sim_op simR_ixT sim_var (by first | with_reducible exact (sim_c fun _ => .int _) | with_reducible exact sim_cval T.cv_WeightRule_MOST fun _ => .int _))) (sim_op simR_ixT sim_var (by first | with_reducible exact (sim_c fun _ => .int _) | with_reducible exact sim_cval T.cv_WeightRule_MOST fun _ => .int _))))
end
end K29
set_option hygiene false
namespace K29
open PySem L2 Pu
theorem sc_law_is_even : FnScope ["_law_some", "_law_x", "_law_y"] ["_law_some", "_law_x", "_law_y"] (C8.fnScope (top 43)) := C8.fnScope_by (by decide +kernel)
def b_law_is_even : MS := (mRet (mAndV (mOp pLe (mVar 2) (mCall 2 m_law_top [] (mCons (mVar 0) (mCons (mVar 1) mNil)))) (mOp pLe (mVar 1) (mCall 2 m_law_top [] (mCons (mVar 0) (mCons (mVar 2) mNil))))))
def m_law_is_even : List PV → M PV := mFnX 3 b_law_is_even
theorem run_law_is_even {a0 a1 a2 : PV} {W : XP} {n : SN} {Q : PV → SN → Prop} (h : b_law_is_even (fun _ => W) { nx := fun _ n' => Q .non n', rt := Q } [.val a0, .val a1, .val a2] n) : m_law_is_even [a0, a1, a2] W n Q := h
section
variable {P : Program} {w : World} {K : PySem.W.Frag} {mg : Str → Option Value} {base : Heap} {cm : Pu.Md} {C_Rule : Addr} {C_WeightRule : Addr} {C_TurnRule : Addr} {C_TryRule : Addr} {X_BadRule : Addr} {X_NoHalves : Addr} {X_BadNumber : Addr} {X_BadText : Addr} {X_FairError : Addr}
theorem ok_law_is_even {f : Addr} {fd : FuncData} (F : Ev.Fn K "_law_is_even" "_law_is_even" (top 43) f fd) (T : Tx K mg cm C_Rule C_WeightRule C_TurnRule C_TryRule X_BadRule X_NoHalves X_BadNumber X_BadText X_FairError) (c_law_top : Ev.GC P w K mg base 1 "_law_top" (spP K cm 2 m_law_top) []) : Ev.GOk P w K mg base (L2.CX P w) 2 f fd ["_law_some", "_law_x", "_law_y"] (spP K cm 3 m_law_is_even) := by
  refine qfnX (by decide) F sc_law_is_even fun cdv A outer s H E hcode hgd hr => ?_
  have hu : _ + 64 < cLine := hr.units
  refine ⟨_, (pss_one (ps_ret (pe_and (pe_cmpR op_le (pv 2) (Ev.pe_cE c_law_top hgd hr (by decide) (Ev.passE (takes_of rfl rfl rfl rfl)) (by rfl) (pa_cons (pv 0) (pa_cons (pv 1) pa_nil))) (nomark _)) (pe_one (pe_cmpR op_le (pv 1) (Ev.pe_cE c_law_top hgd hr (by decide) (Ev.passE (takes_of rfl rfl rfl rfl)) (by rfl) (pa_cons (pv 0) (pa_cons (pv 2) pa_nil))) (nomark _)))))), fun z hK hcm hW hl => ?_⟩
  subst hK hcm
  unfold b_law_is_even
  walk_at "ev s0"
  with_reducible exact (sim_ret (sim_andV (sim_op simR_le sim_var (by first | with_reducible exact (sim_callS hl2 (sim_cons sim_var (sim_cons sim_var sim_nil))) | with_reducible exact (sim_call (by first | exact hl3 | exact hl2 | exact hl | exact link0 (by first | exact hW | rfl)) (fun _ => .nil) (sim_cons sim_var (sim_cons sim_var sim_nil))))) (sim_op simR_le sim_var (by first | with_reducible exact (sim_callS hl2 (sim_cons sim_var (sim_cons sim_var sim_nil))) | with_reducible exact (sim_call (by first | exact hl3 | exact hl2 | exact hl | exact link0 (by first | exact hW | rfl)) (fun _ => .nil) (sim_cons sim_var (sim_cons sim_var sim_nil)))))))
end
end K29
set_option hygiene false
namespace K29
open PySem L2 Pu
theorem sc_law_seen : FnScope ["_law_some", "_law_most", "_law_found", "_law_weight", "_law_told", "_law_left", "_law_one", "_law_other", "_law_height"] ["_law_some", "_law_most"] (C8.fnScope (top 44)) := C8.fnScope_by (by decide +kernel)
def b_law_seen : MS := (mSeq (mSetOwn 2 (mCons (mLst mNil) (mCons (mLst (mCons (mC (.int 0)) mNil)) mNil)))
  (mSeq (mFor (mRng2 (mCons (mC (.int 2)) (mCons (mOp pAdd (mVar 1) (mC (.int 1))) mNil))) (mgN 3)
  (mSeq (mSetOwnD 4)
  (mSeq (mFor (mRng2 (mCons (mC (.int 1)) (mCons (mVar 3) mNil))) (mgN 5)
  (mIfS (mB (mCall 3 m_law_is_even [] (mCons (mVar 0) (mCons (mVar 5) (mCons (mOp pSub (mVar 3) (mVar 5)) mNil)))))
  (mFor (mList (mIxO 2 (mVar 5))) (mgN 6)
  (mFor (mList (mIxO 2 (mOp pSub (mVar 3) (mVar 5)))) (mgN 7)
  (mPutD 4 (mOp pAdd (mC (.int 1)) (mCB pMax2 (mCons (mCB pInt1 (mCons (mVar 6) mNil)) (mCons (mCB pInt1 (mCons (mVar 7) mNil)) mNil)))) (mC (.bl true)))))
  mNext))
  (mFreezeD 4 (mApp 2 (mCB pSorted (mCons (mKeysI 4 8) mNil)))))))
  (mFreeze 2 (mRet (mVar 2)))))
def m_law_seen : List PV → M PV := mFnX 9 b_law_seen
theorem run_law_seen {a0 a1 : PV} {W : XP} {n : SN} {Q : PV → SN → Prop} (h : b_law_seen (fun _ => W) { nx := fun _ n' => Q .non n', rt := Q } [.val a0, .val a1, .no, .no, .no, .no, .no, .no, .no] n) : m_law_seen [a0, a1] W n Q := h
section
variable {P : Program} {w : World} {K : PySem.W.Frag} {mg : Str → Option Value} {base : Heap} {cm : Pu.Md} {C_Rule : Addr} {C_WeightRule : Addr} {C_TurnRule : Addr} {C_TryRule : Addr} {X_BadRule : Addr} {X_NoHalves : Addr} {X_BadNumber : Addr} {X_BadText : Addr} {X_FairError : Addr}
theorem ok_law_seen {f : Addr} {fd : FuncData} (F : Ev.Fn K "_law_seen" "_law_seen" (top 44) f fd) (T : Tx K mg cm C_Rule C_WeightRule C_TurnRule C_TryRule X_BadRule X_NoHalves X_BadNumber X_BadText X_FairError) (c_law_is_even : Ev.GC P w K mg base 2 "_law_is_even" (spP K cm 3 m_law_is_even) []) : Ev.GOk P w K mg base (L2.CX P w) 3 f fd ["_law_some", "_law_most"] (spP K cm 2 m_law_seen) := by
  refine qfnX (by decide) F sc_law_seen fun cdv A outer s H E hcode hgd hr => ?_
  have hu : _ + 64 < cLine := hr.units
  refine ⟨_, (pss_cons (ps_set (i := 2) sc_law_seen.nd rfl (.inl rfl) (pe_lst (pa_cons (pe_lst pa_nil) (pa_cons (pe_lst (pa_cons pe_int pa_nil)) pa_nil))))
    (pss_cons (ps_for (passes_of rfl) rfl (pi_range2 (by rfl) T.m_range (pa_cons pe_int (pa_cons (pe_op op_add (pv 1) pe_int) pa_nil))) (pg_name (i := 3) sc_law_seen.nd rfl (.inl rfl))
    (pss_cons (ps_set (i := 4) sc_law_seen.nd rfl (.inl rfl) pe_dnewK)
    (pss_cons (ps_for (passes_of rfl) rfl (pi_range2 (by rfl) T.m_range (pa_cons pe_int (pa_cons (pv 3) pa_nil))) (pg_name (i := 5) sc_law_seen.nd rfl (.inl rfl))
    (pss_one (ps_if (pt_val (Ev.pe_cE c_law_is_even hgd hr (by decide) (Ev.passE (takes_of rfl rfl rfl rfl)) (by rfl) (pa_cons (pv 0) (pa_cons (pv 5) (pa_cons (pe_op op_sub (pv 3) (pv 5)) pa_nil)))))
    (pss_one (ps_for (passes_of rfl) rfl (pi_list (pe_ix ix_list (pv 2) (pv 5) (fun _ _ => rfl))) (pg_name (i := 6) sc_law_seen.nd rfl (.inl rfl))
    (pss_one (ps_for (passes_of rfl) rfl (pi_list (pe_ix ix_list (pv 2) (pe_op op_sub (pv 3) (pv 5)) (fun _ _ => rfl))) (pg_name (i := 7) sc_law_seen.nd rfl (.inl rfl))
    (pss_one (ps_asg pe_bl (pg_sub (pv 4) (pe_op op_add pe_int (pe_callB (call_max2 rfl) (by rfl) T.m_max (by decide +kernel) (pa_cons (pe_callTy call_int1 (by rfl) T.m_int (by decide +kernel) (pa_cons (pv 6) pa_nil)) (pa_cons (pe_callTy call_int1 (by rfl) T.m_int (by decide +kernel) (pa_cons (pv 7) pa_nil)) pa_nil)))) (set_dict (Ev.u1 hu)))))))))
    pss_nil)))
    (pss_one (ps_expr (pe_bm PySem.F.plainAttrs_list PySem.F.slot_list_append PySem.F.type_list_append mt_append (pv 2) (pa_cons (pe_callB cr_sortedI (by rfl) T.m_sorted (by decide +kernel) (pa_cons (pe_lock (pe_lc (own := [("_law_height", 8)]) (g := gName 8) rfl sc_law_seen.nd (pi_keys (pv 4)) (blkOk_by (N := ["_law_some", "_law_most", "_law_found", "_law_weight", "_law_told", "_law_left", "_law_one", "_law_other", "_law_height"]) (sc := (C8.fnScope (top 44))) (by decide +kernel)) (fun _ _ _ _ _ => pg_name (i := 8) sc_law_seen.nd rfl (.inl rfl)) (fun _ _ _ _ _ => pts_nil) (fun _ _ _ _ _ => pe_callTy call_int1 (by rfl) T.m_int (by decide +kernel) (pa_cons (pv 8) pa_nil)))) pa_nil)) pa_nil)))))))
    (pss_one (ps_ret (pv 2))))), fun z hK hcm hW hl => ?_⟩
  subst hK hcm
  unfold b_law_seen
  walk_at "ev s0"
  with_reducible exact (sim_seq (sim_setOwn (sim_cons (sim_lst sim_nil) (sim_cons (sim_lst (sim_cons (by first | with_reducible exact (sim_c fun _ => .int _) | with_reducible exact sim_cval T.cv_WeightRule_MOST fun _ => .int _) sim_nil)) sim_nil))) (sim_seq (sim_for (sim_iRng2 (sim_cons (by first | with_reducible exact (sim_c fun _ => .int _) | with_reducible exact sim_cval T.cv_WeightRule_MOST fun _ => .int _) (sim_cons (sim_op simR_add sim_var (by first | with_reducible exact (sim_c fun _ => .int _) | with_reducible exact sim_cval T.cv_WeightRule_MOST fun _ => .int _)) sim_nil))) sim_gN (sim_seq sim_setOwnD (sim_seq (sim_for (sim_iRng2 (sim_cons (by first | with_reducible exact (sim_c fun _ => .int _) | with_reducible exact sim_cval T.cv_WeightRule_MOST fun _ => .int _) (sim_cons sim_var sim_nil))) sim_gN (sim_ifS (by (first | with_reducible refine sim_b ?_ | with_reducible refine sim_test ?_); exact (by first | with_reducible exact (sim_callS hl2 (sim_cons sim_var (sim_cons sim_var (sim_cons (sim_op simR_sub sim_var sim_var) sim_nil)))) | with_reducible exact (sim_call (by first | exact hl3 | exact hl2 | exact hl | exact link0 (by first | exact hW | rfl)) (fun _ => .nil) (sim_cons sim_var (sim_cons sim_var (sim_cons (sim_op simR_sub sim_var sim_var) sim_nil)))))) (sim_for (sim_iList (sim_ixO sim_var)) sim_gN (sim_for (sim_iList (sim_ixO (sim_op simR_sub sim_var sim_var))) sim_gN (sim_putD (sim_op simR_add (by first | with_reducible exact (sim_c fun _ => .int _) | with_reducible exact sim_cval T.cv_WeightRule_MOST fun _ => .int _) (sim_cb simC_max2 (sim_cons (sim_cb simC_int1 (sim_cons sim_var sim_nil)) (sim_cons (sim_cb simC_int1 (sim_cons sim_var sim_nil)) sim_nil)))) (sim_c fun _ => .bl _)))) sim_next)) (sim_freezeD (sim_app (sim_cb simC_sorted (sim_cons (sim_keysI (by decide)) sim_nil))))))) (sim_freeze (sim_ret sim_var))))
end
end K29
namespace K29
open PySem L2 Pu
theorem sc_BadNumber_init : FnScope ["self", "value"] ["self", "value"] (C8.fnScope (inClass (top 4) 0)) := C8.fnScope_by (by decide +kernel)
section
variable {P : Program} {w : World} {K : PySem.W.Frag} {mg : Str → Option Value} {base : Heap} {cm : Pu.Md} {C_Rule : Addr} {C_WeightRule : Addr} {C_TurnRule : Addr} {C_TryRule : Addr} {X_BadRule : Addr} {X_NoHalves : Addr} {X_BadNumber : Addr} {X_BadText : Addr} {X_FairError : Addr}
theorem ok_BadNumber_init {f : Addr} {fd : FuncData} (F : Ev.Fn K "__init__" "BadNumber.__init__" (inClass (top 4) 0) f fd) : FnOk P w K mg base (L2.CX P w) 1 f fd ["self", "value"] (Ev.spX1 K "value") := by
  obtain ⟨oc, od, dV, kV, doc, pm, an, cdv, ct, osl, rfl, lk, hcd⟩ := F.ex
  refine fn_of (N := ["self", "value"]) lk hcd sc_BadNumber_init (fun vs H Q E h => by obtain ⟨a, C, y, rfl, _⟩ := h; rfl) fun A outer s H vs Q E hr h => ?_
  obtain ⟨a, C, y, rfl, T, h1, ha, k⟩ := h
  refine ⟨_, pss_one (ps_ost (pv 0) (pv 1)), ?_⟩
  exact ⟨y, rfl, .ref a, rfl, a, C, rfl, T, h1, .inl ⟨ha, fun dx n1 n2 => k dx n1 n2⟩⟩
end
end K29
set_option hygiene false
namespace K29
open PySem L2 Pu
theorem sc_need_number : FnScope ["value", "most"] ["value", "most"] (C8.fnScope (top 29)) := C8.fnScope_by (by decide +kernel)
def b_need_number : MS := (mIfS (mNot (mB (mCall 3 m_is_within [] (mCons (mVar 0) (mCons (mC (.int 0)) (mCons (mVar 1) mNil))))))
  (mRai1 "BadNumber" "value" (mCons (mVar 0) mNil))
  mNext)
def m_need_number : List PV → M PV := mFnX 2 b_need_number
theorem run_need_number {a0 a1 : PV} {W : XP} {n : SN} {Q : PV → SN → Prop} (h : b_need_number (fun _ => W) { nx := fun _ n' => Q .non n', rt := Q } [.val a0, .val a1] n) : m_need_number [a0, a1] W n Q := h
section
variable {P : Program} {w : World} {K : PySem.W.Frag} {mg : Str → Option Value} {base : Heap} {cm : Pu.Md} {C_Rule : Addr} {C_WeightRule : Addr} {C_TurnRule : Addr} {C_TryRule : Addr} {X_BadRule : Addr} {X_NoHalves : Addr} {X_BadNumber : Addr} {X_BadText : Addr} {X_FairError : Addr}
theorem ok_need_number {f : Addr} {fd : FuncData} (F : Ev.Fn K "need_number" "need_number" (top 29) f fd) (T : Tx K mg cm C_Rule C_WeightRule C_TurnRule C_TryRule X_BadRule X_NoHalves X_BadNumber X_BadText X_FairError) (c_is_within : Ev.GC P w K mg base 2 "is_within" (spP K cm 3 m_is_within) []) (xc_BadNumber : Ev.XC P w K mg base "BadNumber" X_BadNumber (Ev.spX1 K "value") 1) : Ev.GOk P w K mg base (L2.CX P w) 3 f fd ["value", "most"] (spP K cm 2 m_need_number) := by
  refine qfnX (by decide) F sc_need_number fun cdv A outer s H E hcode hgd hr => ?_
  have hu : _ + 64 < cLine := hr.units
  refine ⟨_, (pss_one (ps_if (pt_not (pt_val (Ev.pe_cE c_is_within hgd hr (by decide) (Ev.passE (takes_of rfl rfl rfl rfl)) (by rfl) (pa_cons (pv 0) (pa_cons pe_int (pa_cons (pv 1) pa_nil))))))
    (pss_one (Ev.ps_rai xc_BadNumber rfl (takes_of rfl rfl rfl rfl) (hr.mono (by decide)) (by rfl) (pa_cons (pv 0) pa_nil)))
    pss_nil)), fun z hK hcm hW hl => ?_⟩
  subst hK hcm
  unfold b_need_number
  walk_at "ev s0"
  with_reducible exact (sim_ifS (sim_not (by (first | with_reducible refine sim_b ?_ | with_reducible refine sim_test ?_); exact (by first | with_reducible exact (sim_callS hl2 (sim_cons sim_var (sim_cons (by first | with_reducible exact (sim_c fun _ => .int _) | with_reducible exact sim_cval T.cv_WeightRule_MOST fun _ => .int _) (sim_cons sim_var sim_nil)))) | with_reducible exact (sim_call (by first | exact hl3 | exact hl2 | exact hl | exact link0 (by first | exact hW | rfl)) (fun _ => .nil) (sim_cons sim_var (sim_cons (by first | with_reducible exact (sim_c fun _ => .int _) | with_reducible exact sim_cval T.cv_WeightRule_MOST fun _ => .int _) (sim_cons sim_var sim_nil))))))) (sim_rai1 (by first | exact hl3 | exact hl2 | exact hl | exact link0 (by first | exact hW | rfl)) T.cx_BadNumber T.oe_BadNumber (T.xn_value _ _ T.cx_BadNumber) (sim_cons sim_var sim_nil)) sim_next)
end
end K29
set_option hygiene false
namespace K29
open PySem L2 Pu
theorem sc_least_height : FnScope ["keys", "height", "power"] ["keys"] (C8.fnScope (top 35)) := C8.fnScope_by (by decide +kernel)
def b_least_height : MS := (mSeq (mDrop (mCall 2 m_need_number [] (mCons (mVar 0) (mCons (mC (.int 1000000000000000000000000000000)) mNil))))
  (mSeq (mAsg (mTup (mCons (mC (.int 0)) (mCons (mC (.int 1)) mNil))) (mgT 2 (mgCons (mgN 1) (mgCons (mgN 2) mgNil))))
  (mSeq (mWhile (mB (mOp pLe (mVar 2) (mVar 0)))
  (mPar 1 2 (mCons (mOp pAdd (mVar 1) (mC (.int 1))) (mCons (mOp pMul (mC (.int 2)) (mVar 2)) mNil))))
  (mRet (mVar 1)))))
def m_least_height : List PV → M PV := mFnX 3 b_least_height
theorem run_least_height {a0 : PV} {W : XP} {n : SN} {Q : PV → SN → Prop} (h : b_least_height (fun _ => W) { nx := fun _ n' => Q .non n', rt := Q } [.val a0, .no, .no] n) : m_least_height [a0] W n Q := h
section
variable {P : Program} {w : World} {K : PySem.W.Frag} {mg : Str → Option Value} {base : Heap} {cm : Pu.Md} {C_Rule : Addr} {C_WeightRule : Addr} {C_TurnRule : Addr} {C_TryRule : Addr} {X_BadRule : Addr} {X_NoHalves : Addr} {X_BadNumber : Addr} {X_BadText : Addr} {X_FairError : Addr}
theorem ok_least_height {f : Addr} {fd : FuncData} (F : Ev.Fn K "least_height" "least_height" (top 35) f fd) (T : Tx K mg cm C_Rule C_WeightRule C_TurnRule C_TryRule X_BadRule X_NoHalves X_BadNumber X_BadText X_FairError) (c_need_number : Ev.GC P w K mg base 3 "need_number" (spP K cm 2 m_need_number) []) : Ev.GOk P w K mg base (L2.CX P w) 4 f fd ["keys"] (spP K cm 1 m_least_height) := by
  refine qfnX (by decide) F sc_least_height fun cdv A outer s H E hcode hgd hr => ?_
  have hu : _ + 64 < cLine := hr.units
  obtain ⟨_, hk_MOST_KEYS⟩ := T.k_MOST_KEYS
  refine ⟨_, (pss_cons (ps_expr (Ev.pe_cE c_need_number hgd hr (by decide) (Ev.passE (takes_of rfl rfl rfl rfl)) (by rfl) (pa_cons (pv 0) (pa_cons (pe_glob (by rfl) hk_MOST_KEYS Ev.rel_int) pa_nil))))
    (pss_cons (ps_asg (pe_tup (pa_cons pe_int (pa_cons pe_int pa_nil))) (by exact (pg_tup (n := 2) rfl (pgs_cons (pg_name (i := 1) sc_least_height.nd rfl (.inl rfl)) (pgs_cons (pg_name (i := 2) sc_least_height.nd rfl (.inl rfl)) pgs_nil)))))
    (pss_cons (ps_while (passes_of rfl) (pt_cmpR op_le (pv 2) (pv 0) (nomark _))
    (pss_one (ps_par (i := 1) (j := 2) rfl sc_least_height.nd rfl rfl (by decide) rfl rfl (pa_cons (pe_op op_add (pv 1) pe_int) (pa_cons (pe_op op_mulW pe_int (pv 2)) pa_nil)) (by rfl))))
    (pss_one (ps_ret (pv 1)))))), fun z hK hcm hW hl => ?_⟩
  subst hK hcm
  unfold b_least_height
  walk_at "ev s0"
  with_reducible exact (sim_seq (sim_drop (by first | with_reducible exact (sim_callS hl2 (sim_cons sim_var (sim_cons (by first | with_reducible exact (sim_c fun _ => .int _) | with_reducible exact sim_cval T.cv_WeightRule_MOST fun _ => .int _) sim_nil))) | with_reducible exact (sim_call (by first | exact hl3 | exact hl2 | exact hl | exact link0 (by first | exact hW | rfl)) (fun _ => .nil) (sim_cons sim_var (sim_cons (by first | with_reducible exact (sim_c fun _ => .int _) | with_reducible exact sim_cval T.cv_WeightRule_MOST fun _ => .int _) sim_nil))))) (sim_seq (sim_asg (sim_tup (sim_cons (by first | with_reducible exact (sim_c fun _ => .int _) | with_reducible exact sim_cval T.cv_WeightRule_MOST fun _ => .int _) (sim_cons (by first | with_reducible exact (sim_c fun _ => .int _) | with_reducible exact sim_cval T.cv_WeightRule_MOST fun _ => .int _) sim_nil))) (sim_gT (sim_gCons sim_gN (sim_gCons sim_gN sim_gNil)))) (sim_seq (sim_while (by (first | with_reducible refine sim_b ?_ | with_reducible refine sim_test ?_); exact (sim_op simR_le sim_var sim_var)) (sim_par (sim_cons (sim_op simR_add sim_var (by first | with_reducible exact (sim_c fun _ => .int _) | with_reducible exact sim_cval T.cv_WeightRule_MOST fun _ => .int _)) (sim_cons (sim_op simR_mul (by first | with_reducible exact (sim_c fun _ => .int _) | with_reducible exact sim_cval T.cv_WeightRule_MOST fun _ => .int _) sim_var) sim_nil)))) (sim_ret sim_var))))
end
end K29
set_option hygiene false
namespace K29
open PySem L2 Pu
theorem sc_need_weight_rule : FnScope ["rule"] ["rule"] (C8.fnScope (top 25)) := C8.fnScope_by (by decide +kernel)
def b_need_weight_rule : MS := (mIfS (mNot (mB (mIsiC subs "WeightRule" (mVar 0))))
  (mRai1 "BadRule" "part" (mCons (mC (.str "rule")) mNil))
  mNext)
def m_need_weight_rule : List PV → M PV := mFnX 1 b_need_weight_rule
theorem run_need_weight_rule {a0 : PV} {W : XP} {n : SN} {Q : PV → SN → Prop} (h : b_need_weight_rule (fun _ => W) { nx := fun _ n' => Q .non n', rt := Q } [.val a0] n) : m_need_weight_rule [a0] W n Q := h
section
variable {P : Program} {w : World} {K : PySem.W.Frag} {mg : Str → Option Value} {base : Heap} {cm : Pu.Md} {C_Rule : Addr} {C_WeightRule : Addr} {C_TurnRule : Addr} {C_TryRule : Addr} {X_BadRule : Addr} {X_NoHalves : Addr} {X_BadNumber : Addr} {X_BadText : Addr} {X_FairError : Addr}
theorem ok_need_weight_rule {f : Addr} {fd : FuncData} (F : Ev.Fn K "need_weight_rule" "need_weight_rule" (top 25) f fd) (T : Tx K mg cm C_Rule C_WeightRule C_TurnRule C_TryRule X_BadRule X_NoHalves X_BadNumber X_BadText X_FairError) (xc_BadRule : Ev.XC P w K mg base "BadRule" X_BadRule (Ev.spX1 K "part") 1) : Ev.GOk P w K mg base (L2.CX P w) 3 f fd ["rule"] (spP K cm 1 m_need_weight_rule) := by
  refine qfnX (by decide) F sc_need_weight_rule fun cdv A outer s H E hcode hgd hr => ?_
  have hu : _ + 64 < cLine := hr.units
  refine ⟨_, (pss_one (ps_if (pt_not (pt_val (pe_callB call_isi (by rfl) T.m_isinstance (by decide +kernel) (pa_cons (pv 0) (pa_cons (pe_glob (by rfl) T.g_WeightRule Ev.rel_ref) pa_nil)))))
    (pss_one (Ev.ps_rai xc_BadRule rfl (takes_of rfl rfl rfl rfl) (hr.mono (by decide)) (by rfl) (pa_cons pe_str pa_nil)))
    pss_nil)), fun z hK hcm hW hl => ?_⟩
  subst hK hcm
  unfold b_need_weight_rule
  walk_at "ev s0"
  with_reducible exact (sim_ifS (sim_not (by (first | with_reducible refine sim_b ?_ | with_reducible refine sim_test ?_); exact (sim_isiC T.cm_WeightRule T.ks_WeightRule sim_var))) (sim_rai1 (by first | exact hl3 | exact hl2 | exact hl | exact link0 (by first | exact hW | rfl)) T.cx_BadRule T.oe_BadRule (T.xn_part _ _ T.cx_BadRule) (sim_cons (by first | with_reducible exact (sim_c fun _ => .str _) | with_reducible exact sim_cval T.cv_WeightRule_MOST fun _ => .int _) sim_nil)) sim_next)
end
end K29
set_option hygiene false
namespace K29
open PySem L2 Pu
theorem sc_higher : FnScope ["rule", "weight", "p", "q"] ["rule", "weight"] (C8.fnScope (top 30)) := C8.fnScope_by (by decide +kernel)
def b_higher : MS := (mSeq (mAsg (mFld "times" (mVar 0)) (mgT 2 (mgCons (mgN 2) (mgCons (mgN 3) mgNil))))
  (mRet (mOp pAdd (mVar 1) (mCB pMax2 (mCons (mC (.int 1)) (mCons (mUn pNeg (mCB pInt1 (mCons (mOp pDiv (mOp pSub (mFld "plus" (mVar 0)) (mOp pMul (mVar 3) (mVar 1))) (mVar 2)) mNil))) mNil))))))
def m_higher : List PV → M PV := mFnX 4 b_higher
theorem run_higher {a0 a1 : PV} {W : XP} {n : SN} {Q : PV → SN → Prop} (h : b_higher (fun _ => W) { nx := fun _ n' => Q .non n', rt := Q } [.val a0, .val a1, .no, .no] n) : m_higher [a0, a1] W n Q := h
section
variable {P : Program} {w : World} {K : PySem.W.Frag} {mg : Str → Option Value} {base : Heap} {cm : Pu.Md} {C_Rule : Addr} {C_WeightRule : Addr} {C_TurnRule : Addr} {C_TryRule : Addr} {X_BadRule : Addr} {X_NoHalves : Addr} {X_BadNumber : Addr} {X_BadText : Addr} {X_FairError : Addr}
theorem ok_higher {f : Addr} {fd : FuncData} (F : Ev.Fn K "higher" "higher" (top 30) f fd) (T : Tx K mg cm C_Rule C_WeightRule C_TurnRule C_TryRule X_BadRule X_NoHalves X_BadNumber X_BadText X_FairError) : Ev.GOk P w K mg base (L2.CX P w) 1 f fd ["rule", "weight"] (spP K cm 2 m_higher) := by
  refine qfnX (by decide) F sc_higher fun cdv A outer s H E hcode hgd hr => ?_
  have hu : _ + 64 < cLine := hr.units
  refine ⟨_, (pss_cons (ps_asg (pe_fld (pv 0) rfl) (by exact (pg_tup (n := 2) rfl (pgs_cons (pg_name (i := 2) sc_higher.nd rfl (.inl rfl)) (pgs_cons (pg_name (i := 3) sc_higher.nd rfl (.inl rfl)) pgs_nil)))))
    (pss_one (ps_ret (pe_op op_add (pv 1) (pe_callB (call_max2 rfl) (by rfl) T.m_max (by decide +kernel) (pa_cons pe_int (pa_cons (pe_un un_neg (pe_callTy call_int1 (by rfl) T.m_int (by decide +kernel) (pa_cons (pe_op op_fdivW (pe_op op_sub (pe_fld (pv 0) rfl) (pe_op op_mulW (pv 3) (pv 1))) (pv 2)) pa_nil))) pa_nil))))))), fun z hK hcm hW hl => ?_⟩
  subst hK hcm
  unfold b_higher
  walk_at "ev s0"
  with_reducible exact (sim_seq (sim_asg (sim_fld T.na_times sim_var) (sim_gT (sim_gCons sim_gN (sim_gCons sim_gN sim_gNil)))) (sim_ret (sim_op simR_add sim_var (sim_cb simC_max2 (sim_cons (by first | with_reducible exact (sim_c fun _ => .int _) | with_reducible exact sim_cval T.cv_WeightRule_MOST fun _ => .int _) (sim_cons (sim_un simU_neg (sim_cb simC_int1 (sim_cons (sim_op simR_div (sim_op simR_sub (sim_fld T.na_plus sim_var) (sim_op simR_mul sim_var sim_var)) sim_var) sim_nil))) sim_nil))))))
end
end K29
set_option hygiene false
namespace K29
open PySem L2 Pu
theorem sc_highest : FnScope ["rule", "weight", "height", "below", "found"] ["rule", "weight"] (C8.fnScope (top 33)) := C8.fnScope_by (by decide +kernel)
def b_highest : MS := (mSeq (mAsg (mTup (mCons (mC (.int 0)) (mCons (mC (.int 1)) (mCons (mC (.int 1)) mNil)))) (mgT 3 (mgCons (mgN 2) (mgCons (mgN 3) (mgCons (mgN 4) mgNil)))))
  (mSeq (mWhile (mB (mOp pLe (mCall 2 m_higher [] (mCons (mVar 0) (mCons (mVar 4) mNil))) (mVar 1)))
  (mPar3 2 3 4 (mCons (mOp pAdd (mVar 2) (mC (.int 1))) (mCons (mVar 4) (mCons (mCall 2 m_higher [] (mCons (mVar 0) (mCons (mVar 4) mNil))) mNil)))))
  (mRet (mTup (mCons (mVar 2) (mCons (mVar 3) mNil))))))
def m_highest : List PV → M PV := mFnX 5 b_highest
theorem run_highest {a0 a1 : PV} {W : XP} {n : SN} {Q : PV → SN → Prop} (h : b_highest (fun _ => W) { nx := fun _ n' => Q .non n', rt := Q } [.val a0, .val a1, .no, .no, .no] n) : m_highest [a0, a1] W n Q := h
section
variable {P : Program} {w : World} {K : PySem.W.Frag} {mg : Str → Option Value} {base : Heap} {cm : Pu.Md} {C_Rule : Addr} {C_WeightRule : Addr} {C_TurnRule : Addr} {C_TryRule : Addr} {X_BadRule : Addr} {X_NoHalves : Addr} {X_BadNumber : Addr} {X_BadText : Addr} {X_FairError : Addr}
theorem ok_highest {f : Addr} {fd : FuncData} (F : Ev.Fn K "highest" "highest" (top 33) f fd) (T : Tx K mg cm C_Rule C_WeightRule C_TurnRule C_TryRule X_BadRule X_NoHalves X_BadNumber X_BadText X_FairError) (c_higher : Ev.GC P w K mg base 1 "higher" (spP K cm 2 m_higher) []) : Ev.GOk P w K mg base (L2.CX P w) 2 f fd ["rule", "weight"] (spP K cm 2 m_highest) := by
  refine qfnX (by decide) F sc_highest fun cdv A outer s H E hcode hgd hr => ?_
  have hu : _ + 64 < cLine := hr.units
  refine ⟨_, (pss_cons (ps_asg (pe_tup (pa_cons pe_int (pa_cons pe_int (pa_cons pe_int pa_nil)))) (by exact (pg_tup (n := 3) rfl (pgs_cons (pg_name (i := 2) sc_highest.nd rfl (.inl rfl)) (pgs_cons (pg_name (i := 3) sc_highest.nd rfl (.inl rfl)) (pgs_cons (pg_name (i := 4) sc_highest.nd rfl (.inl rfl)) pgs_nil))))))
    (pss_cons (ps_while (passes_of rfl) (pt_cmpR op_le (Ev.pe_cE c_higher hgd hr (by decide) (Ev.passE (takes_of rfl rfl rfl rfl)) (by rfl) (pa_cons (pv 0) (pa_cons (pv 4) pa_nil))) (pv 1) (nomark _))
    (pss_one (ps_par3 (i := 2) (j := 3) (l := 4) rfl sc_highest.nd rfl rfl rfl (by decide) (by decide) (by decide) rfl rfl rfl (pa_cons (pe_op op_add (pv 2) pe_int) (pa_cons (pv 4) (pa_cons (Ev.pe_cE c_higher hgd hr (by decide) (Ev.passE (takes_of rfl rfl rfl rfl)) (by rfl) (pa_cons (pv 0) (pa_cons (pv 4) pa_nil))) pa_nil))) (by rfl))))
    (pss_one (ps_ret (pe_tup (pa_cons (pv 2) (pa_cons (pv 3) pa_nil))))))), fun z hK hcm hW hl => ?_⟩
  subst hK hcm
  unfold b_highest
  walk_at "ev s0"
  with_reducible exact (sim_seq (sim_asg (sim_tup (sim_cons (by first | with_reducible exact (sim_c fun _ => .int _) | with_reducible exact sim_cval T.cv_WeightRule_MOST fun _ => .int _) (sim_cons (by first | with_reducible exact (sim_c fun _ => .int _) | with_reducible exact sim_cval T.cv_WeightRule_MOST fun _ => .int _) (sim_cons (by first | with_reducible exact (sim_c fun _ => .int _) | with_reducible exact sim_cval T.cv_WeightRule_MOST fun _ => .int _) sim_nil)))) (sim_gT (sim_gCons sim_gN (sim_gCons sim_gN (sim_gCons sim_gN sim_gNil))))) (sim_seq (sim_while (by (first | with_reducible refine sim_b ?_ | with_reducible refine sim_test ?_); exact (sim_op simR_le (by first | with_reducible exact (sim_callS hl2 (sim_cons sim_var (sim_cons sim_var sim_nil))) | with_reducible exact (sim_call (by first | exact hl3 | exact hl2 | exact hl | exact link0 (by first | exact hW | rfl)) (fun _ => .nil) (sim_cons sim_var (sim_cons sim_var sim_nil)))) sim_var)) (sim_par3 (sim_cons (sim_op simR_add sim_var (by first | with_reducible exact (sim_c fun _ => .int _) | with_reducible exact sim_cval T.cv_WeightRule_MOST fun _ => .int _)) (sim_cons sim_var (sim_cons (by first | with_reducible exact (sim_callS hl2 (sim_cons sim_var (sim_cons sim_var sim_nil))) | with_reducible exact (sim_call (by first | exact hl3 | exact hl2 | exact hl | exact link0 (by first | exact hW | rfl)) (fun _ => .nil) (sim_cons sim_var (sim_cons sim_var sim_nil)))) sim_nil))))) (sim_ret (sim_tup (sim_cons sim_var (sim_cons sim_var sim_nil))))))
end
end K29
set_option hygiene false
namespace K29
open PySem L2 Pu
theorem sc_greatest_height : FnScope ["rule", "keys"] ["rule", "keys"] (C8.fnScope (top 34)) := C8.fnScope_by (by decide +kernel)
def b_greatest_height : MS := (mSeq (mDrop (mCall 1 m_need_weight_rule [] (mCons (mVar 0) mNil)))
  (mSeq (mDrop (mCall 2 m_need_number [] (mCons (mVar 1) (mCons (mC (.int 1000000000000000000000000000000)) mNil))))
  (mRet (mOp pIxT (mCall 2 m_highest [] (mCons (mVar 0) (mCons (mOp pAdd (mVar 1) (mC (.int 1))) mNil))) (mC (.int 0))))))
def m_greatest_height : List PV → M PV := mFnX 2 b_greatest_height
theorem run_greatest_height {a0 a1 : PV} {W : XP} {n : SN} {Q : PV → SN → Prop} (h : b_greatest_height (fun _ => W) { nx := fun _ n' => Q .non n', rt := Q } [.val a0, .val a1] n) : m_greatest_height [a0, a1] W n Q := h
section
variable {P : Program} {w : World} {K : PySem.W.Frag} {mg : Str → Option Value} {base : Heap} {cm : Pu.Md} {C_Rule : Addr} {C_WeightRule : Addr} {C_TurnRule : Addr} {C_TryRule : Addr} {X_BadRule : Addr} {X_NoHalves : Addr} {X_BadNumber : Addr} {X_BadText : Addr} {X_FairError : Addr}
theorem ok_greatest_height {f : Addr} {fd : FuncData} (F : Ev.Fn K "greatest_height" "greatest_height" (top 34) f fd) (T : Tx K mg cm C_Rule C_WeightRule C_TurnRule C_TryRule X_BadRule X_NoHalves X_BadNumber X_BadText X_FairError) (c_need_weight_rule : Ev.GC P w K mg base 3 "need_weight_rule" (spP K cm 1 m_need_weight_rule) []) (c_need_number : Ev.GC P w K mg base 3 "need_number" (spP K cm 2 m_need_number) []) (c_highest : Ev.GC P w K mg base 2 "highest" (spP K cm 2 m_highest) []) : Ev.GOk P w K mg base (L2.CX P w) 4 f fd ["rule", "keys"] (spP K cm 2 m_greatest_height) := by
  refine qfnX (by decide) F sc_greatest_height fun cdv A outer s H E hcode hgd hr => ?_
  have hu : _ + 64 < cLine := hr.units
  obtain ⟨_, hk_MOST_KEYS⟩ := T.k_MOST_KEYS
  refine ⟨_, (pss_cons (ps_expr (Ev.pe_cE c_need_weight_rule hgd hr (by decide) (Ev.passE (takes_of rfl rfl rfl rfl)) (by rfl) (pa_cons (pv 0) pa_nil)))
    (pss_cons (ps_expr (Ev.pe_cE c_need_number hgd hr (by decide) (Ev.passE (takes_of rfl rfl rfl rfl)) (by rfl) (pa_cons (pv 1) (pa_cons (pe_glob (by rfl) hk_MOST_KEYS Ev.rel_int) pa_nil))))
    (pss_one (ps_ret (pe_ix ix_tup (Ev.pe_cE c_highest hgd hr (by decide) (Ev.passE (takes_of rfl rfl rfl rfl)) (by rfl) (pa_cons (pv 0) (pa_cons (pe_op op_add (pv 1) pe_int) pa_nil))) pe_int (fun _ _ => rfl)))))), fun z hK hcm hW hl => ?_⟩
  subst hK hcm
  unfold b_greatest_height
  walk_at "ev s0"
  with_reducible exact (sim_seq (sim_drop (by first | with_reducible exact (sim_callS hl2 (sim_cons sim_var sim_nil)) | with_reducible exact (sim_call (by first | exact hl3 | exact hl2 | exact hl | exact link0 (by first | exact hW | rfl)) (fun _ => .nil) (sim_cons sim_var sim_nil)))) (sim_seq (sim_drop (by first | with_reducible exact (sim_callS hl2 (sim_cons sim_var (sim_cons (by first | with_reducible exact (sim_c fun _ => .int _) | with_reducible exact sim_cval T.cv_WeightRule_MOST fun _ => .int _) sim_nil))) | with_reducible exact (sim_call (by first | exact hl3 | exact hl2 | exact hl | exact link0 (by first | exact hW | rfl)) (fun _ => .nil) (sim_cons sim_var (sim_cons (by first | with_reducible exact (sim_c fun _ => .int _) | with_reducible exact sim_cval T.cv_WeightRule_MOST fun _ => .int _) sim_nil))))) (sim_ret (sim_op simR_ixT (by first | with_reducible exact (sim_callS hl2 (sim_cons sim_var (sim_cons (sim_op simR_add sim_var (by first | with_reducible exact (sim_c fun _ => .int _) | with_reducible exact sim_cval T.cv_WeightRule_MOST fun _ => .int _)) sim_nil))) | with_reducible exact (sim_call (by first | exact hl3 | exact hl2 | exact hl | exact link0 (by first | exact hW | rfl)) (fun _ => .nil) (sim_cons sim_var (sim_cons (sim_op simR_add sim_var (by first | with_reducible exact (sim_c fun _ => .int _) | with_reducible exact sim_cval T.cv_WeightRule_MOST fun _ => .int _)) sim_nil)))) (by first | with_reducible exact (sim_c fun _ => .int _) | with_reducible exact sim_cval T.cv_WeightRule_MOST fun _ => .int _)))))
end
end K29
set_option hygiene false
namespace K29
open PySem L2 Pu
theorem sc_heights : GScope ["rule", "weight"] ["rule"] (C8.fnScope (top 32)) ∧ ∀ y ∈ (C8.fnScope (top 32)).names, y.2 ≠ .cell := EvG.gscope_by (by decide +kernel)
def b_heights : MS := (mSeq (mDrop (mCall 1 m_need_weight_rule [] (mCons (mVar 0) mNil))) mNext)
def bl_heights : MG := (mGSeq (mGP (mAsg (mC (.int 1)) (mgN 1))) (mGSeq (mGWh (mB (mOp pGt (mVar 1) (mC (.int 0)))) (mGSeq (mGY (mOp pSub (mVar 1) (mC (.int 1)))) (mGSeq (mGP (mAsg (mCall 2 m_higher [] (mCons (mVar 0) (mCons (mVar 1) mNil))) (mgN 1))) mGNil))) mGNil))
def m_heights : MGen := mGen 2 b_heights bl_heights
theorem run_heights {a0 : PV} {W : XP} {k : Nat} {n : SN} {R : SN → Prop} {Y : PV → SN → MTr k → Prop} (h : b_heights (fun _ => W) { nx := fun env' n' => bl_heights Mend k env' n' R Y, rt := fun _ _ => False } [.val a0, .no] n) : m_heights [a0] W k n R Y := h
section
variable {P : Program} {w : World} {K : PySem.W.Frag} {mg : Str → Option Value} {base : Heap} {cm : Pu.Md} {C_Rule : Addr} {C_WeightRule : Addr} {C_TurnRule : Addr} {C_TryRule : Addr} {X_BadRule : Addr} {X_NoHalves : Addr} {X_BadNumber : Addr} {X_BadText : Addr} {X_FairError : Addr}
theorem ok_heights {f : Addr} {fd : FuncData} (F : Ev.Fn K "heights" "heights" (top 32) f fd) (T : Tx K mg cm C_Rule C_WeightRule C_TurnRule C_TryRule X_BadRule X_NoHalves X_BadNumber X_BadText X_FairError) (c_need_weight_rule : Ev.GC P w K mg base 3 "need_weight_rule" (spP K cm 1 m_need_weight_rule) []) (c_higher : Ev.GC P w K mg base 1 "higher" (spP K cm 2 m_higher) []) : EvG.GnOk P w K mg base 4 f fd ["rule"] (spG K cm 1 m_heights) := by
  refine qgen (pre := (C8.fnBody (top 32)).take 1) (loop := (C8.fnBody (top 32)).drop 1) (by decide) (List.take_append_drop 1 _).symm F sc_heights fun cdv A outer L E hcode hgd hr => ?_
  have hu : _ + 64 < cLine := hr.units
  refine' ⟨_, _, _, fun s H pn hL hg2 hr2 => (pss_cons (ps_expr (Ev.pe_cE c_need_weight_rule hg2 hr2 (by decide) (Ev.passE takes_gcx) (by rfl) (pa_cons (pv 0) pa_nil)))
      pss_nil), fun z hK hcm hW hl => ?s1, fun s0 H0 hL => (pss_cons (ps_expr (Ev.pe_cE c_need_weight_rule hgd hr (by decide) passL (by rfl) (pa_cons (pv 0) pa_nil)))
      pss_nil), fun z hK hcm hW hl => ?s2, ?gz, fun p c => ?sl⟩
  case s1 =>
    subst hK hcm
    unfold b_heights
    walk_at "ev s0"
    with_reducible exact (sim_seq (sim_drop (by first | with_reducible exact (sim_callS hl2 (sim_cons sim_var sim_nil)) | with_reducible exact (sim_call (by first | exact hl3 | exact hl2 | exact hl | exact link0 (by first | exact hW | rfl)) (fun _ => .nil) (sim_cons sim_var sim_nil)))) sim_next)
  case s2 =>
    subst hK hcm
    unfold b_heights
    walk_at "ev s0"
    with_reducible exact (sim_seq (sim_drop (by first | with_reducible exact (sim_callS hl2 (sim_cons sim_var sim_nil)) | with_reducible exact (sim_call (by first | exact hl3 | exact hl2 | exact hl | exact link0 (by first | exact hW | rfl)) (fun _ => .nil) (sim_cons sim_var sim_nil)))) sim_next)
  case gz =>
    refine' EvG.gzs_cons ?ha1 ?hb1
    case ha1 =>
      refine' EvG.gz_plain ?h2
      case h2 => exact fun _ _ _ => ((ps_set (i := 1) sc_heights.1.nd rfl (.inl rfl) pe_int))
    case hb1 =>
      refine' EvG.gzs_cons ?ha3 ?hb3
      case ha3 =>
        refine' EvG.gz_while ?hc4 ?hb4
        case hc4 => exact fun _ _ _ => ((pt_cmpR op_gt (pv 1) pe_int (nomark _)))
        case hb4 =>
          refine' EvG.gzs_cons ?ha5 ?hb5
          case ha5 =>
            refine' EvG.gz_yield ?h6
            case h6 => exact fun _ _ _ => ((pe_op op_sub (pv 1) pe_int))
          case hb5 =>
            refine' EvG.gzs_cons ?ha7 ?hb7
            case ha7 =>
              refine' EvG.gz_plain ?h8
              case h8 => exact fun _ _ _ => ((ps_set (i := 1) sc_heights.1.nd rfl (.inl rfl) (Ev.pe_cE c_higher hgd hr (by decide) passL (by rfl) (pa_cons (pv 0) (pa_cons (pv 1) pa_nil)))))
            case hb7 =>
              exact EvG.gzs_nil
      case hb3 =>
        exact EvG.gzs_nil
  case sl =>
    unfold bl_heights
    walk_at "ev s0"
    with_reducible exact (sg_seq (sg_plain (fun z hK hcm hW => by (subst hK hcm; exact (sim_asg (by first | with_reducible exact (sim_c fun _ => .int _) | with_reducible exact sim_cval T.cv_WeightRule_MOST fun _ => .int _) sim_gN)))) (sg_seq (sg_while (fun z hK hcm hW => by (subst hK hcm; exact (by (first | with_reducible refine sim_b ?_ | with_reducible refine sim_test ?_); exact (sim_op simR_gt sim_var (by first | with_reducible exact (sim_c fun _ => .int _) | with_reducible exact sim_cval T.cv_WeightRule_MOST fun _ => .int _))))) (sg_seq (sg_yield (fun z hK hcm hW => by (subst hK hcm; exact (sim_op simR_sub sim_var (by first | with_reducible exact (sim_c fun _ => .int _) | with_reducible exact sim_cval T.cv_WeightRule_MOST fun _ => .int _))))) (sg_seq (sg_plain (fun z hK hcm hW => by (subst hK hcm; exact (sim_asg (by first | with_reducible exact (sim_callS hl2 (sim_cons sim_var (sim_cons sim_var sim_nil))) | with_reducible exact (sim_call (by first | exact hl3 | exact hl2 | exact hl | exact link0 (by first | exact hW | rfl)) (fun _ => .nil) (sim_cons sim_var (sim_cons sim_var sim_nil)))) sim_gN)))) sg_nil))) sg_nil))
end
end K29
set_option hygiene false
namespace K29
open PySem L2 Pu
theorem sc_least_keys : FnScope ["rule", "height", "weight", "turn"] ["rule", "height"] (C8.fnScope (top 31)) := C8.fnScope_by (by decide +kernel)
def b_least_keys : MS := (mSeq (mDrop (mCall 1 m_need_weight_rule [] (mCons (mVar 0) mNil)))
  (mSeq (mDrop (mCall 2 m_need_number [] (mCons (mVar 1) (mCons (mC (.int 1000)) mNil))))
  (mSeq (mAsg (mC (.int 1)) (mgN 2))
  (mSeq (mFor (mRng1 (mCons (mVar 1) mNil)) (mgN 3)
  (mAsg (mCall 2 m_higher [] (mCons (mVar 0) (mCons (mVar 2) mNil))) (mgN 2)))
  (mRet (mOp pSub (mVar 2) (mC (.int 1))))))))
def m_least_keys : List PV → M PV := mFnX 4 b_least_keys
theorem run_least_keys {a0 a1 : PV} {W : XP} {n : SN} {Q : PV → SN → Prop} (h : b_least_keys (fun _ => W) { nx := fun _ n' => Q .non n', rt := Q } [.val a0, .val a1, .no, .no] n) : m_least_keys [a0, a1] W n Q := h
section
variable {P : Program} {w : World} {K : PySem.W.Frag} {mg : Str → Option Value} {base : Heap} {cm : Pu.Md} {C_Rule : Addr} {C_WeightRule : Addr} {C_TurnRule : Addr} {C_TryRule : Addr} {X_BadRule : Addr} {X_NoHalves : Addr} {X_BadNumber : Addr} {X_BadText : Addr} {X_FairError : Addr}
theorem ok_least_keys {f : Addr} {fd : FuncData} (F : Ev.Fn K "least_keys" "least_keys" (top 31) f fd) (T : Tx K mg cm C_Rule C_WeightRule C_TurnRule C_TryRule X_BadRule X_NoHalves X_BadNumber X_BadText X_FairError) (c_need_weight_rule : Ev.GC P w K mg base 3 "need_weight_rule" (spP K cm 1 m_need_weight_rule) []) (c_need_number : Ev.GC P w K mg base 3 "need_number" (spP K cm 2 m_need_number) []) (c_higher : Ev.GC P w K mg base 1 "higher" (spP K cm 2 m_higher) []) : Ev.GOk P w K mg base (L2.CX P w) 4 f fd ["rule", "height"] (spP K cm 2 m_least_keys) := by
  refine qfnX (by decide) F sc_least_keys fun cdv A outer s H E hcode hgd hr => ?_
  have hu : _ + 64 < cLine := hr.units
  obtain ⟨_, hk_MOST_HEIGHT⟩ := T.k_MOST_HEIGHT
  refine ⟨_, (pss_cons (ps_expr (Ev.pe_cE c_need_weight_rule hgd hr (by decide) (Ev.passE (takes_of rfl rfl rfl rfl)) (by rfl) (pa_cons (pv 0) pa_nil)))
    (pss_cons (ps_expr (Ev.pe_cE c_need_number hgd hr (by decide) (Ev.passE (takes_of rfl rfl rfl rfl)) (by rfl) (pa_cons (pv 1) (pa_cons (pe_glob (by rfl) hk_MOST_HEIGHT Ev.rel_int) pa_nil))))
    (pss_cons (ps_set (i := 2) sc_least_keys.nd rfl (.inl rfl) pe_int)
    (pss_cons (ps_for (passes_of rfl) rfl (pi_range1 (by rfl) T.m_range (pa_cons (pv 1) pa_nil)) (pg_name (i := 3) sc_least_keys.nd rfl (.inl rfl))
    (pss_one (ps_set (i := 2) sc_least_keys.nd rfl (.inl rfl) (Ev.pe_cE c_higher hgd hr (by decide) (Ev.passE (takes_of rfl rfl rfl rfl)) (by rfl) (pa_cons (pv 0) (pa_cons (pv 2) pa_nil))))))
    (pss_one (ps_ret (pe_op op_sub (pv 2) pe_int))))))), fun z hK hcm hW hl => ?_⟩
  subst hK hcm
  unfold b_least_keys
  walk_at "ev s0"
  with_reducible exact (sim_seq (sim_drop (by first | with_reducible exact (sim_callS hl2 (sim_cons sim_var sim_nil)) | with_reducible exact (sim_call (by first | exact hl3 | exact hl2 | exact hl | exact link0 (by first | exact hW | rfl)) (fun _ => .nil) (sim_cons sim_var sim_nil)))) (sim_seq (sim_drop (by first | with_reducible exact (sim_callS hl2 (sim_cons sim_var (sim_cons (by first | with_reducible exact (sim_c fun _ => .int _) | with_reducible exact sim_cval T.cv_WeightRule_MOST fun _ => .int _) sim_nil))) | with_reducible exact (sim_call (by first | exact hl3 | exact hl2 | exact hl | exact link0 (by first | exact hW | rfl)) (fun _ => .nil) (sim_cons sim_var (sim_cons (by first | with_reducible exact (sim_c fun _ => .int _) | with_reducible exact sim_cval T.cv_WeightRule_MOST fun _ => .int _) sim_nil))))) (sim_seq (sim_asg (by first | with_reducible exact (sim_c fun _ => .int _) | with_reducible exact sim_cval T.cv_WeightRule_MOST fun _ => .int _) sim_gN) (sim_seq (sim_for (sim_iRng1 (sim_cons sim_var sim_nil)) sim_gN (sim_asg (by first | with_reducible exact (sim_callS hl2 (sim_cons sim_var (sim_cons sim_var sim_nil))) | with_reducible exact (sim_call (by first | exact hl3 | exact hl2 | exact hl | exact link0 (by first | exact hW | rfl)) (fun _ => .nil) (sim_cons sim_var (sim_cons sim_var sim_nil)))) sim_gN)) (sim_ret (sim_op simR_sub sim_var (by first | with_reducible exact (sim_c fun _ => .int _) | with_reducible exact sim_cval T.cv_WeightRule_MOST fun _ => .int _)))))))
end
end K29
set_option hygiene false
namespace K29
open PySem L2 Pu
theorem sc_law_right : FnScope ["_law_pen_here", "_law_most", "_law_some", "_law_rule_so", "_law_rows", "_law_weight", "_law_height", "_law_few", "_law_having"] ["_law_pen_here", "_law_most"] (C8.fnScope (top 45)) := C8.fnScope_by (by decide +kernel)
def b_law_right : MS := (mSeq (mAsg (mCall 1 m_law_numbers [] (mCons (mVar 0) mNil)) (mgN 2))
  (mSeq (mAsg (mTup (mCons (mCall 2 m_law_rule [] (mCons (mVar 2) (mCons (mOp pEq (mDraw (mCons (mVar 0) (mCons (mC (.int 2)) mNil))) (mC (.int 0))) mNil))) (mCons (mCall 2 m_law_seen [] (mCons (mVar 2) (mCons (mVar 1) mNil))) mNil))) (mgT 2 (mgCons (mgN 3) (mgCons (mgN 4) mgNil))))
  (mSeq (mFor (mRng2 (mCons (mC (.int 1)) (mCons (mOp pAdd (mVar 1) (mC (.int 1))) mNil))) (mgN 5)
  (mIfS (mOr (mB (mOp pNeD (mCall 2 m_greatest_height [] (mCons (mVar 3) (mCons (mOp pSub (mVar 5) (mC (.int 1))) mNil))) (mOp pIxL (mOp pIxL (mVar 4) (mVar 5)) (mUn pNeg (mC (.int 1)))))) (mB (mOp pNeD (mCall 1 m_least_height [] (mCons (mOp pSub (mVar 5) (mC (.int 1))) mNil)) (mOp pIxL (mOp pIxL (mVar 4) (mVar 5)) (mC (.int 0))))))
  (mRet (mC (.bl false)))
  mNext))
  (mSeq (mAsg (mC (.int 0)) (mgN 6))
  (mSeq (mForG 1 m_heights (mCons (mVar 3) mNil) (mgN 7)
  (mSeq (mAsg (mLc (mRng2 (mCons (mC (.int 1)) (mCons (mOp pAdd (mVar 1) (mC (.int 1))) mNil))) (mgN 5) (mB (mOp (pIn false) (mVar 6) (mOp pIxL (mVar 4) (mVar 5)))) (mVar 5) [5]) (mgN 8))
  (mSeq (mIfS (mOr (mB (mOp pEqD (mVar 8) (mLst mNil))) (mOr (mB (mOp pNe (mVar 7) (mOp pSub (mOp pIxL (mVar 8) (mC (.int 0))) (mC (.int 1))))) (mB (mOp pNe (mCall 2 m_least_keys [] (mCons (mVar 3) (mCons (mVar 6) mNil))) (mVar 7)))))
  (mRet (mC (.bl false)))
  mNext)
  (mSeq (mIfS (mB (mOp pNeD (mLc (mRng2 (mCons (mOp pIxL (mVar 8) (mC (.int 0))) (mCons (mOp pAdd (mVar 1) (mC (.int 1))) mNil))) (mgN 5) (mB (mOp pLt (mOp pIxL (mOp pIxL (mVar 4) (mVar 5)) (mUn pNeg (mC (.int 1)))) (mVar 6))) (mC (.int 1)) [5]) (mLst mNil)))
  (mRet (mC (.bl false)))
  mNext)
  (mSeq (mIfS (mB (mOp pEqD (mVar 6) (mOp pIxL (mOp pIxL (mVar 4) (mVar 1)) (mUn pNeg (mC (.int 1))))))
  (mRet (mC (.bl true)))
  mNext)
  (mAsg (mOp pAdd (mVar 6) (mC (.int 1))) (mgN 6)))))))
  (mRet (mC (.bl false))))))))
def m_law_right : List PV → M PV := mFnX 9 b_law_right
theorem run_law_right {a0 a1 : PV} {W : XP} {n : SN} {Q : PV → SN → Prop} (h : b_law_right (fun _ => W) { nx := fun _ n' => Q .non n', rt := Q } [.val a0, .val a1, .no, .no, .no, .no, .no, .no, .no] n) : m_law_right [a0, a1] W n Q := h
section
variable {P : Program} {w : World} {K : PySem.W.Frag} {mg : Str → Option Value} {base : Heap} {cm : Pu.Md} {C_Rule : Addr} {C_WeightRule : Addr} {C_TurnRule : Addr} {C_TryRule : Addr} {X_BadRule : Addr} {X_NoHalves : Addr} {X_BadNumber : Addr} {X_BadText : Addr} {X_FairError : Addr}
theorem ok_law_right {f : Addr} {fd : FuncData} (F : Ev.Fn K "_law_right" "_law_right" (top 45) f fd) (T : Tx K mg cm C_Rule C_WeightRule C_TurnRule C_TryRule X_BadRule X_NoHalves X_BadNumber X_BadText X_FairError) (c_law_numbers : Ev.GC P w K mg base 3 "_law_numbers" (spP K cm 1 m_law_numbers) []) (c_draw : Ev.GC P w K mg base 1 "_law_draw" spDraw []) (c_law_rule : Ev.GC P w K mg base 8 "_law_rule" (spP K cm 2 m_law_rule) []) (c_law_seen : Ev.GC P w K mg base 3 "_law_seen" (spP K cm 2 m_law_seen) []) (c_least_height : Ev.GC P w K mg base 4 "least_height" (spP K cm 1 m_least_height) []) (c_greatest_height : Ev.GC P w K mg base 4 "greatest_height" (spP K cm 2 m_greatest_height) []) (c_heights : EvG.GnC P w K mg base 4 "heights" (spG K cm 1 m_heights)) (c_least_keys : Ev.GC P w K mg base 4 "least_keys" (spP K cm 2 m_least_keys) []) : Ev.GOk P w K mg base (L2.CX P w) 9 f fd ["_law_pen_here", "_law_most"] (spP K cm 2 m_law_right) := by
  refine qfnX (by decide) F sc_law_right fun cdv A outer s H E hcode hgd hr => ?_
  have hu : _ + 64 < cLine := hr.units
  refine ⟨_, (pss_cons (ps_set (i := 2) sc_law_right.nd rfl (.inl rfl) (Ev.pe_cE c_law_numbers hgd hr (by decide) (Ev.passE (takes_of rfl rfl rfl rfl)) (by rfl) (pa_cons (pv 0) pa_nil)))
    (pss_cons (ps_asg (pe_tup (pa_cons (Ev.pe_cE c_law_rule hgd hr (by decide) (Ev.passE (takes_of rfl rfl rfl rfl)) (by rfl) (pa_cons (pv 2) (pa_cons (pe_cmpR op_eq (Ev.pe_cE c_draw hgd hr (by decide) (Ev.passE (takes_of rfl rfl rfl rfl)) (by rfl) (pa_cons (pv 0) (pa_cons pe_int pa_nil))) pe_int (nomark _)) pa_nil))) (pa_cons (Ev.pe_cE c_law_seen hgd hr (by decide) (Ev.passE (takes_of rfl rfl rfl rfl)) (by rfl) (pa_cons (pv 2) (pa_cons (pv 1) pa_nil))) pa_nil))) (by exact (pg_tup (n := 2) rfl (pgs_cons (pg_name (i := 3) sc_law_right.nd rfl (.inl rfl)) (pgs_cons (pg_name (i := 4) sc_law_right.nd rfl (by first | exact .inr rfl | exact .inl rfl)) pgs_nil)))))
    (pss_cons (ps_for (passes_of rfl) rfl (pi_range2 (by rfl) T.m_range (pa_cons pe_int (pa_cons (pe_op op_add (pv 1) pe_int) pa_nil))) (pg_name (i := 5) sc_law_right.nd rfl (.inl rfl))
    (pss_one (ps_if (PW.pt (pw_or (pt_cmpR (op_neD hu) (Ev.pe_cE c_greatest_height hgd hr (by decide) (Ev.passE (takes_of rfl rfl rfl rfl)) (by rfl) (pa_cons (pv 3) (pa_cons (pe_op op_sub (pv 5) pe_int) pa_nil))) (pe_ix ix_list (pe_ix ix_list (pv 4) (pv 5) (fun _ _ => rfl)) (pe_un un_neg pe_int) (fun _ _ => rfl)) (nomark _)) (pw_or1 (pt_cmpR (op_neD hu) (Ev.pe_cE c_least_height hgd hr (by decide) (Ev.passE (takes_of rfl rfl rfl rfl)) (by rfl) (pa_cons (pe_op op_sub (pv 5) pe_int) pa_nil)) (pe_ix ix_list (pe_ix ix_list (pv 4) (pv 5) (fun _ _ => rfl)) pe_int (fun _ _ => rfl)) (nomark _)))))
    (pss_one (ps_ret pe_bl))
    pss_nil)))
    (pss_cons (ps_set (i := 6) sc_law_right.nd rfl (.inr rfl) pe_int)
    (pss_cons (EvG.ps_forG (kk := 4) (passes_of rfl) EvG.xes_cx hgd (hr.mono (by decide)) (EvG.pass_xns (Ev.passE (takes_of rfl rfl rfl rfl))) EvG.ns_xns (EvG.pgn_c c_heights hgd (hr.mono (by decide)) (Nat.le_refl _) (by rfl) (pa_cons (pv 3) pa_nil)) (pg_name (i := 7) sc_law_right.nd rfl (.inl rfl))
    (pss_cons (ps_setLc (i := 8) (own := [("_law_weight", 5)]) (g := gName 5) rfl sc_law_right.nd rfl rfl (sw_true rfl rfl rfl (by decide +kernel)) (pi_range2 (by rfl) T.m_range (pa_cons pe_int (pa_cons (pe_op op_add (pv 1) pe_int) pa_nil))) (blkOk_by (N := ["_law_pen_here", "_law_most", "_law_some", "_law_rule_so", "_law_rows", "_law_weight", "_law_height", "_law_few", "_law_having"]) (sc := (C8.fnScope (top 45))) (by decide +kernel)) (fun _ _ _ _ _ => (pg_name (i := 5) sc_law_right.nd rfl (.inl rfl))) (fun _ _ _ _ _ => (pts_one (pt_cmpR (Ev.op_inK (K := K)) (pv 6) (pe_ix (Ev.ix_listK (K := K)) (pv 4) (pv 5) (fun _ _ => rfl)) (by rfl)))) (fun _ _ _ _ _ => (pv 5)))
    (pss_cons (ps_if (PW.pt (pw_or (pt_cmpR (op_eqD hu) (pv 8) (pe_lst pa_nil) (nomark _)) (pw_or (pt_cmpR op_ne (pv 7) (pe_op op_sub (pe_ix ix_list (pv 8) pe_int (fun _ _ => rfl)) pe_int) (nomark _)) (pw_or1 (pt_cmpR op_ne (Ev.pe_cE c_least_keys hgd hr (by decide) (Ev.passE (takes_of rfl rfl rfl rfl)) (by rfl) (pa_cons (pv 3) (pa_cons (pv 6) pa_nil))) (pv 7) (nomark _))))))
    (pss_one (ps_ret pe_bl))
    pss_nil)
    (pss_cons (ps_if (pt_cmpR (op_neD hu) (pe_lc (own := [("_law_weight", 5)]) (g := gName 5) rfl sc_law_right.nd (pi_range2 (by rfl) T.m_range (pa_cons (pe_ix ix_list (pv 8) pe_int (fun _ _ => rfl)) (pa_cons (pe_op op_add (pv 1) pe_int) pa_nil))) (blkOk_by (N := ["_law_pen_here", "_law_most", "_law_some", "_law_rule_so", "_law_rows", "_law_weight", "_law_height", "_law_few", "_law_having"]) (sc := (C8.fnScope (top 45))) (by decide +kernel)) (fun _ _ _ _ _ => (pg_name (i := 5) sc_law_right.nd rfl (.inl rfl))) (fun _ _ _ _ _ => (pts_one (pt_cmpR op_lt (pe_ix (Ev.ix_listK (K := K)) (pe_ix (Ev.ix_listK (K := K)) (pv 4) (pv 5) (fun _ _ => rfl)) (pe_un un_neg pe_int) (fun _ _ => rfl)) (pv 6) (nomark _)))) (fun _ _ _ _ _ => pe_int)) (pe_lst pa_nil) (nomark _))
    (pss_one (ps_ret pe_bl))
    pss_nil)
    (pss_cons (ps_if (pt_cmpR (op_eqD hu) (pv 6) (pe_ix ix_list (pe_ix ix_list (pv 4) (pv 1) (fun _ _ => rfl)) (pe_un un_neg pe_int) (fun _ _ => rfl)) (nomark _))
    (pss_one (ps_ret pe_bl))
    pss_nil)
    (pss_one (ps_set (i := 6) sc_law_right.nd rfl (.inr rfl) (pe_op op_add (pv 6) pe_int))))))))
    (pss_one (ps_ret pe_bl))))))), fun z hK hcm hW hl => ?_⟩
  subst hK hcm
  unfold b_law_right
  walk_at "ev s0"
  with_reducible exact (sim_seq (sim_asg (by first | with_reducible exact (sim_callS hl2 (sim_cons sim_var sim_nil)) | with_reducible exact (sim_call (by first | exact hl3 | exact hl2 | exact hl | exact link0 (by first | exact hW | rfl)) (fun _ => .nil) (sim_cons sim_var sim_nil))) sim_gN) (sim_seq (sim_asg (sim_tup (sim_cons (by first | with_reducible exact (sim_callS hl2 (sim_cons sim_var (sim_cons (sim_op simR_eq (sim_draw draw_sp (sim_cons sim_var (sim_cons (by first | with_reducible exact (sim_c fun _ => .int _) | with_reducible exact sim_cval T.cv_WeightRule_MOST fun _ => .int _) sim_nil))) (by first | with_reducible exact (sim_c fun _ => .int _) | with_reducible exact sim_cval T.cv_WeightRule_MOST fun _ => .int _)) sim_nil))) | with_reducible exact (sim_call (by first | exact hl3 | exact hl2 | exact hl | exact link0 (by first | exact hW | rfl)) (fun _ => .nil) (sim_cons sim_var (sim_cons (sim_op simR_eq (sim_draw draw_sp (sim_cons sim_var (sim_cons (by first | with_reducible exact (sim_c fun _ => .int _) | with_reducible exact sim_cval T.cv_WeightRule_MOST fun _ => .int _) sim_nil))) (by first | with_reducible exact (sim_c fun _ => .int _) | with_reducible exact sim_cval T.cv_WeightRule_MOST fun _ => .int _)) sim_nil)))) (sim_cons (by first | with_reducible exact (sim_callS hl2 (sim_cons sim_var (sim_cons sim_var sim_nil))) | with_reducible exact (sim_call (by first | exact hl3 | exact hl2 | exact hl | exact link0 (by first | exact hW | rfl)) (fun _ => .nil) (sim_cons sim_var (sim_cons sim_var sim_nil)))) sim_nil))) (sim_gT (sim_gCons sim_gN (sim_gCons sim_gN sim_gNil)))) (sim_seq (sim_for (sim_iRng2 (sim_cons (by first | with_reducible exact (sim_c fun _ => .int _) | with_reducible exact sim_cval T.cv_WeightRule_MOST fun _ => .int _) (sim_cons (sim_op simR_add sim_var (by first | with_reducible exact (sim_c fun _ => .int _) | with_reducible exact sim_cval T.cv_WeightRule_MOST fun _ => .int _)) sim_nil))) sim_gN (sim_ifS (sim_or (by (first | with_reducible refine sim_b ?_ | with_reducible refine sim_test ?_); exact (sim_op simR_neD (by first | with_reducible exact (sim_callS hl2 (sim_cons sim_var (sim_cons (sim_op simR_sub sim_var (by first | with_reducible exact (sim_c fun _ => .int _) | with_reducible exact sim_cval T.cv_WeightRule_MOST fun _ => .int _)) sim_nil))) | with_reducible exact (sim_call (by first | exact hl3 | exact hl2 | exact hl | exact link0 (by first | exact hW | rfl)) (fun _ => .nil) (sim_cons sim_var (sim_cons (sim_op simR_sub sim_var (by first | with_reducible exact (sim_c fun _ => .int _) | with_reducible exact sim_cval T.cv_WeightRule_MOST fun _ => .int _)) sim_nil)))) (sim_op simR_ixL (sim_op simR_ixL sim_var sim_var) (sim_un simU_neg (by first | with_reducible exact (sim_c fun _ => .int _) | with_reducible exact sim_cval T.cv_WeightRule_MOST fun _ => .int _))))) (by (first | with_reducible refine sim_b ?_ | with_reducible refine sim_test ?_); exact (sim_op simR_neD (by first | with_reducible exact (sim_callS hl2 (sim_cons (sim_op simR_sub sim_var (by first | with_reducible exact (sim_c fun _ => .int _) | with_reducible exact sim_cval T.cv_WeightRule_MOST fun _ => .int _)) sim_nil)) | with_reducible exact (sim_call (by first | exact hl3 | exact hl2 | exact hl | exact link0 (by first | exact hW | rfl)) (fun _ => .nil) (sim_cons (sim_op simR_sub sim_var (by first | with_reducible exact (sim_c fun _ => .int _) | with_reducible exact sim_cval T.cv_WeightRule_MOST fun _ => .int _)) sim_nil))) (sim_op simR_ixL (sim_op simR_ixL sim_var sim_var) (by first | with_reducible exact (sim_c fun _ => .int _) | with_reducible exact sim_cval T.cv_WeightRule_MOST fun _ => .int _))))) (sim_ret (sim_c fun _ => .bl _)) sim_next)) (sim_seq (sim_asg (by first | with_reducible exact (sim_c fun _ => .int _) | with_reducible exact sim_cval T.cv_WeightRule_MOST fun _ => .int _) sim_gN) (sim_seq (sim_forG (by first | exact EvG.link_xns T.xs hl3 | exact EvG.link_xns T.xs hl2 | exact EvG.link_xns T.xs hl | exact link0 (by first | exact hW | rfl)) (sim_cons sim_var sim_nil) sim_gN (sim_seq (sim_asg (sim_lc (sim_iRng2 (sim_cons (by first | with_reducible exact (sim_c fun _ => .int _) | with_reducible exact sim_cval T.cv_WeightRule_MOST fun _ => .int _) (sim_cons (sim_op simR_add sim_var (by first | with_reducible exact (sim_c fun _ => .int _) | with_reducible exact sim_cval T.cv_WeightRule_MOST fun _ => .int _)) sim_nil))) sim_gN (gw_name (by decide)) (by (first | with_reducible refine sim_b ?_ | with_reducible refine sim_test ?_); exact (sim_op simR_in sim_var (sim_op simR_ixL sim_var sim_var))) sim_var) sim_gN) (sim_seq (sim_ifS (sim_or (by (first | with_reducible refine sim_b ?_ | with_reducible refine sim_test ?_); exact (sim_op simR_eqD sim_var (sim_lst sim_nil))) (sim_or (by (first | with_reducible refine sim_b ?_ | with_reducible refine sim_test ?_); exact (sim_op simR_ne sim_var (sim_op simR_sub (sim_op simR_ixL sim_var (by first | with_reducible exact (sim_c fun _ => .int _) | with_reducible exact sim_cval T.cv_WeightRule_MOST fun _ => .int _)) (by first | with_reducible exact (sim_c fun _ => .int _) | with_reducible exact sim_cval T.cv_WeightRule_MOST fun _ => .int _)))) (by (first | with_reducible refine sim_b ?_ | with_reducible refine sim_test ?_); exact (sim_op simR_ne (by first | with_reducible exact (sim_callS hl2 (sim_cons sim_var (sim_cons sim_var sim_nil))) | with_reducible exact (sim_call (by first | exact hl3 | exact hl2 | exact hl | exact link0 (by first | exact hW | rfl)) (fun _ => .nil) (sim_cons sim_var (sim_cons sim_var sim_nil)))) sim_var)))) (sim_ret (sim_c fun _ => .bl _)) sim_next) (sim_seq (sim_ifS (by (first | with_reducible refine sim_b ?_ | with_reducible refine sim_test ?_); exact (sim_op simR_neD (sim_lc (sim_iRng2 (sim_cons (sim_op simR_ixL sim_var (by first | with_reducible exact (sim_c fun _ => .int _) | with_reducible exact sim_cval T.cv_WeightRule_MOST fun _ => .int _)) (sim_cons (sim_op simR_add sim_var (by first | with_reducible exact (sim_c fun _ => .int _) | with_reducible exact sim_cval T.cv_WeightRule_MOST fun _ => .int _)) sim_nil))) sim_gN (gw_name (by decide)) (by (first | with_reducible refine sim_b ?_ | with_reducible refine sim_test ?_); exact (sim_op simR_lt (sim_op simR_ixL (sim_op simR_ixL sim_var sim_var) (sim_un simU_neg (by first | with_reducible exact (sim_c fun _ => .int _) | with_reducible exact sim_cval T.cv_WeightRule_MOST fun _ => .int _))) sim_var)) (by first | with_reducible exact (sim_c fun _ => .int _) | with_reducible exact sim_cval T.cv_WeightRule_MOST fun _ => .int _)) (sim_lst sim_nil))) (sim_ret (sim_c fun _ => .bl _)) sim_next) (sim_seq (sim_ifS (by (first | with_reducible refine sim_b ?_ | with_reducible refine sim_test ?_); exact (sim_op simR_eqD sim_var (sim_op simR_ixL (sim_op simR_ixL sim_var sim_var) (sim_un simU_neg (by first | with_reducible exact (sim_c fun _ => .int _) | with_reducible exact sim_cval T.cv_WeightRule_MOST fun _ => .int _))))) (sim_ret (sim_c fun _ => .bl _)) sim_next) (sim_asg (sim_op simR_add sim_var (by first | with_reducible exact (sim_c fun _ => .int _) | with_reducible exact sim_cval T.cv_WeightRule_MOST fun _ => .int _)) sim_gN)))))) (sim_ret (sim_c fun _ => .bl _)))))))
end
end K29
set_option hygiene false
namespace K29
open PySem L2 Pu
theorem sc_law : FnScope ["_law_script", "_law_pen_here", "_law_turn"] ["_law_script"] (C8.fnScope (top 46)) := C8.fnScope_by (by decide +kernel)
def b_law : MS := (mSeq (mFor (mRng1 (mCons (mC (.int 3)) mNil)) (mgN 2)
  (mIfS (mNot (mB (mCall 2 m_law_right [] (mCons (mVar 1) (mCons (mOp pAdd (mC (.int 20)) (mDraw (mCons (mVar 1) (mCons (mC (.int 26)) mNil)))) mNil)))))
  (mRet (mC (.bl false)))
  mNext))
  (mRet (mC (.bl true))))
def spLaw (K : PySem.W.Frag) (T : List (Addr × Str)) : Sp := fun vs H Q _ => ∃ (a : Addr) (ns : List Int), vs = [.ref a] ∧ SqL K H a (ns.map V.int) ∧ ns.length ≤ 63 ∧ LamX.Tabs T H ∧ ∀ H', Q (.bl true) H'
def LawPure : Prop := b_law (fun _ => W0) { nx := fun _ _ => False, rt := fun q _ => q = .bl true } (.no :: .val .pen :: List.replicate 1 .no) ⟨90000, fun _ => none, false⟩
section
variable {P : Program} {w : World} {K : PySem.W.Frag} {mg : Str → Option Value} {base : Heap} {cm : Pu.Md} {C_Rule : Addr} {C_WeightRule : Addr} {C_TurnRule : Addr} {C_TryRule : Addr} {X_BadRule : Addr} {X_NoHalves : Addr} {X_BadNumber : Addr} {X_BadText : Addr} {X_FairError : Addr}
theorem ok_law {f : Addr} {fd : FuncData} (F : Ev.Fn K "law" "law" (top 46) f fd) (T : Tx K mg cm C_Rule C_WeightRule C_TurnRule C_TryRule X_BadRule X_NoHalves X_BadNumber X_BadText X_FairError) (pure : LawPure) (c_draw : Ev.GC P w K mg base 1 "_law_draw" spDraw []) (c_law_right : Ev.GC P w K mg base 9 "_law_right" (spP K cm 2 m_law_right) []) (c_pen : Ev.GC P w K mg base 1 "_law_pen" (spPen K) []) : Ev.GOk P w K mg base (L2.CX P w) 10 f fd ["_law_script"] (spLaw K cm.T) := by
  refine Ev.gfn0c F sc_law (fun vs H Q E h => ?_) (fun cdv A outer s H vs Q E hcode hgd hr h => ?_)
  · obtain ⟨a, ns, rfl, _⟩ := h
    rfl
  · obtain ⟨a, ns, rfl, hS, hl, htb, k⟩ := h
    have hu : _ + 64 < cLine := hr.units
    refine ⟨_, (pss_cons (ps_set (i := 1) sc_law.nd rfl (.inl rfl) (Ev.pe_c c_pen hgd hr (by decide) (by rfl) (pa_cons (pv 0) pa_nil)))
      (pss_cons (ps_for PassesOwn.never rfl (pi_range1 (by rfl) T.m_range (pa_cons pe_int pa_nil)) (pg_name (i := 2) sc_law.nd rfl (.inl rfl))
      (pss_one (ps_if (pt_not (pt_val (Ev.pe_cE c_law_right hgd hr (by decide) passL (by rfl) (pa_cons (pv 1) (pa_cons (pe_op op_add pe_int (Ev.pe_cE c_draw hgd hr (by decide) passL (by rfl) (pa_cons (pv 1) (pa_cons pe_int pa_nil)))) pa_nil)))))
      (pss_one (ps_ret pe_bl))
      pss_nil)))
      (pss_one (ps_ret pe_bl)))), ?_⟩
    refine ⟨_, rfl, a, ns, rfl, hS, hl, fun p c H1 s1 np pen1 => ?_⟩
    dsimp only
    refine law_first (K := K) (cm := cm) (b := b_law) (a := a) (x := "_law_script") (y := "_law_pen_here") (N := ["_law_turn"]) (p := p) (Q := Q) (fun z hK hcm hW => ?_) pen1 (LamX.Tabs.ext htb s1) pure k
    subst hK hcm
    unfold b_law
    walk_at "ev s0"
    with_reducible exact (sim_seq (sim_for (sim_iRng1 (sim_cons (by first | with_reducible exact (sim_c fun _ => .int _) | with_reducible exact sim_cval T.cv_WeightRule_MOST fun _ => .int _) sim_nil)) sim_gN (sim_ifS (sim_not (by (first | with_reducible refine sim_b ?_ | with_reducible refine sim_test ?_); exact (by first | with_reducible exact (sim_callS hl2 (sim_cons sim_var (sim_cons (sim_op simR_add (by first | with_reducible exact (sim_c fun _ => .int _) | with_reducible exact sim_cval T.cv_WeightRule_MOST fun _ => .int _) (sim_draw draw_sp (sim_cons sim_var (sim_cons (by first | with_reducible exact (sim_c fun _ => .int _) | with_reducible exact sim_cval T.cv_WeightRule_MOST fun _ => .int _) sim_nil)))) sim_nil))) | with_reducible exact (sim_call (by first | exact hl3 | exact hl2 | exact hl | exact link0 (by first | exact hW | rfl)) (fun _ => .nil) (sim_cons sim_var (sim_cons (sim_op simR_add (by first | with_reducible exact (sim_c fun _ => .int _) | with_reducible exact sim_cval T.cv_WeightRule_MOST fun _ => .int _) (sim_draw draw_sp (sim_cons sim_var (sim_cons (by first | with_reducible exact (sim_c fun _ => .int _) | with_reducible exact sim_cval T.cv_WeightRule_MOST fun _ => .int _) sim_nil)))) sim_nil)))))) (sim_ret (sim_c fun _ => .bl _)) sim_next)) (sim_ret (sim_c fun _ => .bl _)))
end
end K29
namespace K29
open PySem L2 Pu
theorem gp_0 {a0 a1 b0 b1 : PV} : pkP [.int 0] [] [(0, 0), (0, 1), (3, 0), (3, 1)] [a0, a1] [b0, b1] = [a0, a1, b0, b1] := rfl
theorem gp_1 {a0 a1 : PV} : pkP [.int 0] [] [(0, 0), (0, 1)] [a0, a1] [] = [a0, a1] := rfl
end K29
namespace K29
open PySem
theorem se_0_1 : (Str.ofString "times" = Str.ofString "plus") = False := eq_false (by decide +kernel)
theorem sb_0_1 : (Str.ofString "times" == Str.ofString "plus") = false := by decide +kernel
theorem se_0_2 : (Str.ofString "times" = Str.ofString "turn") = False := eq_false (by decide +kernel)
theorem sb_0_2 : (Str.ofString "times" == Str.ofString "turn") = false := by decide +kernel
theorem se_0_3 : (Str.ofString "times" = Str.ofString "turn_plus") = False := eq_false (by decide +kernel)
theorem sb_0_3 : (Str.ofString "times" == Str.ofString "turn_plus") = false := by decide +kernel
theorem se_0_4 : (Str.ofString "times" = Str.ofString "beside") = False := eq_false (by decide +kernel)
theorem sb_0_4 : (Str.ofString "times" == Str.ofString "beside") = false := by decide +kernel
theorem se_0_5 : (Str.ofString "times" = Str.ofString "TryRule") = False := eq_false (by decide +kernel)
theorem sb_0_5 : (Str.ofString "times" == Str.ofString "TryRule") = false := by decide +kernel
theorem se_0_6 : (Str.ofString "times" = Str.ofString "TurnRule") = False := eq_false (by decide +kernel)
theorem sb_0_6 : (Str.ofString "times" == Str.ofString "TurnRule") = false := by decide +kernel
theorem se_0_7 : (Str.ofString "times" = Str.ofString "WeightRule") = False := eq_false (by decide +kernel)
theorem sb_0_7 : (Str.ofString "times" == Str.ofString "WeightRule") = false := by decide +kernel
theorem se_0_8 : (Str.ofString "times" = Str.ofString "need_numbers") = False := eq_false (by decide +kernel)
theorem sb_0_8 : (Str.ofString "times" == Str.ofString "need_numbers") = false := by decide +kernel
theorem se_0_9 : (Str.ofString "times" = Str.ofString "is_fair") = False := eq_false (by decide +kernel)
theorem sb_0_9 : (Str.ofString "times" == Str.ofString "is_fair") = false := by decide +kernel
theorem se_0_10 : (Str.ofString "times" = Str.ofString "greatest") = False := eq_false (by decide +kernel)
theorem sb_0_10 : (Str.ofString "times" == Str.ofString "greatest") = false := by decide +kernel
theorem se_0_11 : (Str.ofString "times" = Str.ofString "turns") = False := eq_false (by decide +kernel)
theorem sb_0_11 : (Str.ofString "times" == Str.ofString "turns") = false := by decide +kernel
theorem se_1_0 : (Str.ofString "plus" = Str.ofString "times") = False := eq_false (by decide +kernel)
theorem sb_1_0 : (Str.ofString "plus" == Str.ofString "times") = false := by decide +kernel
theorem se_1_2 : (Str.ofString "plus" = Str.ofString "turn") = False := eq_false (by decide +kernel)
theorem sb_1_2 : (Str.ofString "plus" == Str.ofString "turn") = false := by decide +kernel
theorem se_1_3 : (Str.ofString "plus" = Str.ofString "turn_plus") = False := eq_false (by decide +kernel)
theorem sb_1_3 : (Str.ofString "plus" == Str.ofString "turn_plus") = false := by decide +kernel
theorem se_1_4 : (Str.ofString "plus" = Str.ofString "beside") = False := eq_false (by decide +kernel)
theorem sb_1_4 : (Str.ofString "plus" == Str.ofString "beside") = false := by decide +kernel
theorem se_1_5 : (Str.ofString "plus" = Str.ofString "TryRule") = False := eq_false (by decide +kernel)
theorem sb_1_5 : (Str.ofString "plus" == Str.ofString "TryRule") = false := by decide +kernel
theorem se_1_6 : (Str.ofString "plus" = Str.ofString "TurnRule") = False := eq_false (by decide +kernel)
theorem sb_1_6 : (Str.ofString "plus" == Str.ofString "TurnRule") = false := by decide +kernel
theorem se_1_7 : (Str.ofString "plus" = Str.ofString "WeightRule") = False := eq_false (by decide +kernel)
theorem sb_1_7 : (Str.ofString "plus" == Str.ofString "WeightRule") = false := by decide +kernel
theorem se_1_8 : (Str.ofString "plus" = Str.ofString "need_numbers") = False := eq_false (by decide +kernel)
theorem sb_1_8 : (Str.ofString "plus" == Str.ofString "need_numbers") = false := by decide +kernel
theorem se_1_9 : (Str.ofString "plus" = Str.ofString "is_fair") = False := eq_false (by decide +kernel)
theorem sb_1_9 : (Str.ofString "plus" == Str.ofString "is_fair") = false := by decide +kernel
theorem se_1_10 : (Str.ofString "plus" = Str.ofString "greatest") = False := eq_false (by decide +kernel)
theorem sb_1_10 : (Str.ofString "plus" == Str.ofString "greatest") = false := by decide +kernel
theorem se_1_11 : (Str.ofString "plus" = Str.ofString "turns") = False := eq_false (by decide +kernel)
theorem sb_1_11 : (Str.ofString "plus" == Str.ofString "turns") = false := by decide +kernel
theorem se_2_0 : (Str.ofString "turn" = Str.ofString "times") = False := eq_false (by decide +kernel)
theorem sb_2_0 : (Str.ofString "turn" == Str.ofString "times") = false := by decide +kernel
theorem se_2_1 : (Str.ofString "turn" = Str.ofString "plus") = False := eq_false (by decide +kernel)
theorem sb_2_1 : (Str.ofString "turn" == Str.ofString "plus") = false := by decide +kernel
theorem se_2_3 : (Str.ofString "turn" = Str.ofString "turn_plus") = False := eq_false (by decide +kernel)
theorem sb_2_3 : (Str.ofString "turn" == Str.ofString "turn_plus") = false := by decide +kernel
theorem se_2_4 : (Str.ofString "turn" = Str.ofString "beside") = False := eq_false (by decide +kernel)
theorem sb_2_4 : (Str.ofString "turn" == Str.ofString "beside") = false := by decide +kernel
theorem se_2_5 : (Str.ofString "turn" = Str.ofString "TryRule") = False := eq_false (by decide +kernel)
theorem sb_2_5 : (Str.ofString "turn" == Str.ofString "TryRule") = false := by decide +kernel
theorem se_2_6 : (Str.ofString "turn" = Str.ofString "TurnRule") = False := eq_false (by decide +kernel)
theorem sb_2_6 : (Str.ofString "turn" == Str.ofString "TurnRule") = false := by decide +kernel
theorem se_2_7 : (Str.ofString "turn" = Str.ofString "WeightRule") = False := eq_false (by decide +kernel)
theorem sb_2_7 : (Str.ofString "turn" == Str.ofString "WeightRule") = false := by decide +kernel
theorem se_2_8 : (Str.ofString "turn" = Str.ofString "need_numbers") = False := eq_false (by decide +kernel)
theorem sb_2_8 : (Str.ofString "turn" == Str.ofString "need_numbers") = false := by decide +kernel
theorem se_2_9 : (Str.ofString "turn" = Str.ofString "is_fair") = False := eq_false (by decide +kernel)
theorem sb_2_9 : (Str.ofString "turn" == Str.ofString "is_fair") = false := by decide +kernel
theorem se_2_10 : (Str.ofString "turn" = Str.ofString "greatest") = False := eq_false (by decide +kernel)
theorem sb_2_10 : (Str.ofString "turn" == Str.ofString "greatest") = false := by decide +kernel
theorem se_2_11 : (Str.ofString "turn" = Str.ofString "turns") = False := eq_false (by decide +kernel)
theorem sb_2_11 : (Str.ofString "turn" == Str.ofString "turns") = false := by decide +kernel
theorem se_3_0 : (Str.ofString "turn_plus" = Str.ofString "times") = False := eq_false (by decide +kernel)
theorem sb_3_0 : (Str.ofString "turn_plus" == Str.ofString "times") = false := by decide +kernel
theorem se_3_1 : (Str.ofString "turn_plus" = Str.ofString "plus") = False := eq_false (by decide +kernel)
theorem sb_3_1 : (Str.ofString "turn_plus" == Str.ofString "plus") = false := by decide +kernel
theorem se_3_2 : (Str.ofString "turn_plus" = Str.ofString "turn") = False := eq_false (by decide +kernel)
theorem sb_3_2 : (Str.ofString "turn_plus" == Str.ofString "turn") = false := by decide +kernel
theorem se_3_4 : (Str.ofString "turn_plus" = Str.ofString "beside") = False := eq_false (by decide +kernel)
theorem sb_3_4 : (Str.ofString "turn_plus" == Str.ofString "beside") = false := by decide +kernel
theorem se_3_5 : (Str.ofString "turn_plus" = Str.ofString "TryRule") = False := eq_false (by decide +kernel)
theorem sb_3_5 : (Str.ofString "turn_plus" == Str.ofString "TryRule") = false := by decide +kernel
theorem se_3_6 : (Str.ofString "turn_plus" = Str.ofString "TurnRule") = False := eq_false (by decide +kernel)
theorem sb_3_6 : (Str.ofString "turn_plus" == Str.ofString "TurnRule") = false := by decide +kernel
theorem se_3_7 : (Str.ofString "turn_plus" = Str.ofString "WeightRule") = False := eq_false (by decide +kernel)
theorem sb_3_7 : (Str.ofString "turn_plus" == Str.ofString "WeightRule") = false := by decide +kernel
theorem se_3_8 : (Str.ofString "turn_plus" = Str.ofString "need_numbers") = False := eq_false (by decide +kernel)
theorem sb_3_8 : (Str.ofString "turn_plus" == Str.ofString "need_numbers") = false := by decide +kernel
theorem se_3_9 : (Str.ofString "turn_plus" = Str.ofString "is_fair") = False := eq_false (by decide +kernel)
theorem sb_3_9 : (Str.ofString "turn_plus" == Str.ofString "is_fair") = false := by decide +kernel
theorem se_3_10 : (Str.ofString "turn_plus" = Str.ofString "greatest") = False := eq_false (by decide +kernel)
theorem sb_3_10 : (Str.ofString "turn_plus" == Str.ofString "greatest") = false := by decide +kernel
theorem se_3_11 : (Str.ofString "turn_plus" = Str.ofString "turns") = False := eq_false (by decide +kernel)
theorem sb_3_11 : (Str.ofString "turn_plus" == Str.ofString "turns") = false := by decide +kernel
theorem se_4_0 : (Str.ofString "beside" = Str.ofString "times") = False := eq_false (by decide +kernel)
theorem sb_4_0 : (Str.ofString "beside" == Str.ofString "times") = false := by decide +kernel
theorem se_4_1 : (Str.ofString "beside" = Str.ofString "plus") = False := eq_false (by decide +kernel)
theorem sb_4_1 : (Str.ofString "beside" == Str.ofString "plus") = false := by decide +kernel
theorem se_4_2 : (Str.ofString "beside" = Str.ofString "turn") = False := eq_false (by decide +kernel)
theorem sb_4_2 : (Str.ofString "beside" == Str.ofString "turn") = false := by decide +kernel
theorem se_4_3 : (Str.ofString "beside" = Str.ofString "turn_plus") = False := eq_false (by decide +kernel)
theorem sb_4_3 : (Str.ofString "beside" == Str.ofString "turn_plus") = false := by decide +kernel
theorem se_4_5 : (Str.ofString "beside" = Str.ofString "TryRule") = False := eq_false (by decide +kernel)
theorem sb_4_5 : (Str.ofString "beside" == Str.ofString "TryRule") = false := by decide +kernel
theorem se_4_6 : (Str.ofString "beside" = Str.ofString "TurnRule") = False := eq_false (by decide +kernel)
theorem sb_4_6 : (Str.ofString "beside" == Str.ofString "TurnRule") = false := by decide +kernel
theorem se_4_7 : (Str.ofString "beside" = Str.ofString "WeightRule") = False := eq_false (by decide +kernel)
theorem sb_4_7 : (Str.ofString "beside" == Str.ofString "WeightRule") = false := by decide +kernel
theorem se_4_8 : (Str.ofString "beside" = Str.ofString "need_numbers") = False := eq_false (by decide +kernel)
theorem sb_4_8 : (Str.ofString "beside" == Str.ofString "need_numbers") = false := by decide +kernel
theorem se_4_9 : (Str.ofString "beside" = Str.ofString "is_fair") = False := eq_false (by decide +kernel)
theorem sb_4_9 : (Str.ofString "beside" == Str.ofString "is_fair") = false := by decide +kernel
theorem se_4_10 : (Str.ofString "beside" = Str.ofString "greatest") = False := eq_false (by decide +kernel)
theorem sb_4_10 : (Str.ofString "beside" == Str.ofString "greatest") = false := by decide +kernel
theorem se_4_11 : (Str.ofString "beside" = Str.ofString "turns") = False := eq_false (by decide +kernel)
theorem sb_4_11 : (Str.ofString "beside" == Str.ofString "turns") = false := by decide +kernel
theorem se_5_0 : (Str.ofString "TryRule" = Str.ofString "times") = False := eq_false (by decide +kernel)
theorem sb_5_0 : (Str.ofString "TryRule" == Str.ofString "times") = false := by decide +kernel
theorem se_5_1 : (Str.ofString "TryRule" = Str.ofString "plus") = False := eq_false (by decide +kernel)
theorem sb_5_1 : (Str.ofString "TryRule" == Str.ofString "plus") = false := by decide +kernel
theorem se_5_2 : (Str.ofString "TryRule" = Str.ofString "turn") = False := eq_false (by decide +kernel)
theorem sb_5_2 : (Str.ofString "TryRule" == Str.ofString "turn") = false := by decide +kernel
theorem se_5_3 : (Str.ofString "TryRule" = Str.ofString "turn_plus") = False := eq_false (by decide +kernel)
theorem sb_5_3 : (Str.ofString "TryRule" == Str.ofString "turn_plus") = false := by decide +kernel
theorem se_5_4 : (Str.ofString "TryRule" = Str.ofString "beside") = False := eq_false (by decide +kernel)
theorem sb_5_4 : (Str.ofString "TryRule" == Str.ofString "beside") = false := by decide +kernel
theorem se_5_6 : (Str.ofString "TryRule" = Str.ofString "TurnRule") = False := eq_false (by decide +kernel)
theorem sb_5_6 : (Str.ofString "TryRule" == Str.ofString "TurnRule") = false := by decide +kernel
theorem se_5_7 : (Str.ofString "TryRule" = Str.ofString "WeightRule") = False := eq_false (by decide +kernel)
theorem sb_5_7 : (Str.ofString "TryRule" == Str.ofString "WeightRule") = false := by decide +kernel
theorem se_5_8 : (Str.ofString "TryRule" = Str.ofString "need_numbers") = False := eq_false (by decide +kernel)
theorem sb_5_8 : (Str.ofString "TryRule" == Str.ofString "need_numbers") = false := by decide +kernel
theorem se_5_9 : (Str.ofString "TryRule" = Str.ofString "is_fair") = False := eq_false (by decide +kernel)
theorem sb_5_9 : (Str.ofString "TryRule" == Str.ofString "is_fair") = false := by decide +kernel
theorem se_5_10 : (Str.ofString "TryRule" = Str.ofString "greatest") = False := eq_false (by decide +kernel)
theorem sb_5_10 : (Str.ofString "TryRule" == Str.ofString "greatest") = false := by decide +kernel
theorem se_5_11 : (Str.ofString "TryRule" = Str.ofString "turns") = False := eq_false (by decide +kernel)
theorem sb_5_11 : (Str.ofString "TryRule" == Str.ofString "turns") = false := by decide +kernel
theorem se_6_0 : (Str.ofString "TurnRule" = Str.ofString "times") = False := eq_false (by decide +kernel)
theorem sb_6_0 : (Str.ofString "TurnRule" == Str.ofString "times") = false := by decide +kernel
theorem se_6_1 : (Str.ofString "TurnRule" = Str.ofString "plus") = False := eq_false (by decide +kernel)
theorem sb_6_1 : (Str.ofString "TurnRule" == Str.ofString "plus") = false := by decide +kernel
theorem se_6_2 : (Str.ofString "TurnRule" = Str.ofString "turn") = False := eq_false (by decide +kernel)
theorem sb_6_2 : (Str.ofString "TurnRule" == Str.ofString "turn") = false := by decide +kernel
theorem se_6_3 : (Str.ofString "TurnRule" = Str.ofString "turn_plus") = False := eq_false (by decide +kernel)
theorem sb_6_3 : (Str.ofString "TurnRule" == Str.ofString "turn_plus") = false := by decide +kernel
theorem se_6_4 : (Str.ofString "TurnRule" = Str.ofString "beside") = False := eq_false (by decide +kernel)
theorem sb_6_4 : (Str.ofString "TurnRule" == Str.ofString "beside") = false := by decide +kernel
theorem se_6_5 : (Str.ofString "TurnRule" = Str.ofString "TryRule") = False := eq_false (by decide +kernel)
theorem sb_6_5 : (Str.ofString "TurnRule" == Str.ofString "TryRule") = false := by decide +kernel
theorem se_6_7 : (Str.ofString "TurnRule" = Str.ofString "WeightRule") = False := eq_false (by decide +kernel)
theorem sb_6_7 : (Str.ofString "TurnRule" == Str.ofString "WeightRule") = false := by decide +kernel
theorem se_6_8 : (Str.ofString "TurnRule" = Str.ofString "need_numbers") = False := eq_false (by decide +kernel)
theorem sb_6_8 : (Str.ofString "TurnRule" == Str.ofString "need_numbers") = false := by decide +kernel
theorem se_6_9 : (Str.ofString "TurnRule" = Str.ofString "is_fair") = False := eq_false (by decide +kernel)
theorem sb_6_9 : (Str.ofString "TurnRule" == Str.ofString "is_fair") = false := by decide +kernel
theorem se_6_10 : (Str.ofString "TurnRule" = Str.ofString "greatest") = False := eq_false (by decide +kernel)
theorem sb_6_10 : (Str.ofString "TurnRule" == Str.ofString "greatest") = false := by decide +kernel
theorem se_6_11 : (Str.ofString "TurnRule" = Str.ofString "turns") = False := eq_false (by decide +kernel)
theorem sb_6_11 : (Str.ofString "TurnRule" == Str.ofString "turns") = false := by decide +kernel
theorem se_7_0 : (Str.ofString "WeightRule" = Str.ofString "times") = False := eq_false (by decide +kernel)
theorem sb_7_0 : (Str.ofString "WeightRule" == Str.ofString "times") = false := by decide +kernel
theorem se_7_1 : (Str.ofString "WeightRule" = Str.ofString "plus") = False := eq_false (by decide +kernel)
theorem sb_7_1 : (Str.ofString "WeightRule" == Str.ofString "plus") = false := by decide +kernel
theorem se_7_2 : (Str.ofString "WeightRule" = Str.ofString "turn") = False := eq_false (by decide +kernel)
theorem sb_7_2 : (Str.ofString "WeightRule" == Str.ofString "turn") = false := by decide +kernel
theorem se_7_3 : (Str.ofString "WeightRule" = Str.ofString "turn_plus") = False := eq_false (by decide +kernel)
theorem sb_7_3 : (Str.ofString "WeightRule" == Str.ofString "turn_plus") = false := by decide +kernel
theorem se_7_4 : (Str.ofString "WeightRule" = Str.ofString "beside") = False := eq_false (by decide +kernel)
theorem sb_7_4 : (Str.ofString "WeightRule" == Str.ofString "beside") = false := by decide +kernel
theorem se_7_5 : (Str.ofString "WeightRule" = Str.ofString "TryRule") = False := eq_false (by decide +kernel)
theorem sb_7_5 : (Str.ofString "WeightRule" == Str.ofString "TryRule") = false := by decide +kernel
theorem se_7_6 : (Str.ofString "WeightRule" = Str.ofString "TurnRule") = False := eq_false (by decide +kernel)
theorem sb_7_6 : (Str.ofString "WeightRule" == Str.ofString "TurnRule") = false := by decide +kernel
theorem se_7_8 : (Str.ofString "WeightRule" = Str.ofString "need_numbers") = False := eq_false (by decide +kernel)
theorem sb_7_8 : (Str.ofString "WeightRule" == Str.ofString "need_numbers") = false := by decide +kernel
theorem se_7_9 : (Str.ofString "WeightRule" = Str.ofString "is_fair") = False := eq_false (by decide +kernel)
theorem sb_7_9 : (Str.ofString "WeightRule" == Str.ofString "is_fair") = false := by decide +kernel
theorem se_7_10 : (Str.ofString "WeightRule" = Str.ofString "greatest") = False := eq_false (by decide +kernel)
theorem sb_7_10 : (Str.ofString "WeightRule" == Str.ofString "greatest") = false := by decide +kernel
theorem se_7_11 : (Str.ofString "WeightRule" = Str.ofString "turns") = False := eq_false (by decide +kernel)
theorem sb_7_11 : (Str.ofString "WeightRule" == Str.ofString "turns") = false := by decide +kernel
theorem se_8_0 : (Str.ofString "need_numbers" = Str.ofString "times") = False := eq_false (by decide +kernel)
theorem sb_8_0 : (Str.ofString "need_numbers" == Str.ofString "times") = false := by decide +kernel
theorem se_8_1 : (Str.ofString "need_numbers" = Str.ofString "plus") = False := eq_false (by decide +kernel)
theorem sb_8_1 : (Str.ofString "need_numbers" == Str.ofString "plus") = false := by decide +kernel
theorem se_8_2 : (Str.ofString "need_numbers" = Str.ofString "turn") = False := eq_false (by decide +kernel)
theorem sb_8_2 : (Str.ofString "need_numbers" == Str.ofString "turn") = false := by decide +kernel
theorem se_8_3 : (Str.ofString "need_numbers" = Str.ofString "turn_plus") = False := eq_false (by decide +kernel)
theorem sb_8_3 : (Str.ofString "need_numbers" == Str.ofString "turn_plus") = false := by decide +kernel
theorem se_8_4 : (Str.ofString "need_numbers" = Str.ofString "beside") = False := eq_false (by decide +kernel)
theorem sb_8_4 : (Str.ofString "need_numbers" == Str.ofString "beside") = false := by decide +kernel
theorem se_8_5 : (Str.ofString "need_numbers" = Str.ofString "TryRule") = False := eq_false (by decide +kernel)
theorem sb_8_5 : (Str.ofString "need_numbers" == Str.ofString "TryRule") = false := by decide +kernel
theorem se_8_6 : (Str.ofString "need_numbers" = Str.ofString "TurnRule") = False := eq_false (by decide +kernel)
theorem sb_8_6 : (Str.ofString "need_numbers" == Str.ofString "TurnRule") = false := by decide +kernel
theorem se_8_7 : (Str.ofString "need_numbers" = Str.ofString "WeightRule") = False := eq_false (by decide +kernel)
theorem sb_8_7 : (Str.ofString "need_numbers" == Str.ofString "WeightRule") = false := by decide +kernel
theorem se_8_9 : (Str.ofString "need_numbers" = Str.ofString "is_fair") = False := eq_false (by decide +kernel)
theorem sb_8_9 : (Str.ofString "need_numbers" == Str.ofString "is_fair") = false := by decide +kernel
theorem se_8_10 : (Str.ofString "need_numbers" = Str.ofString "greatest") = False := eq_false (by decide +kernel)
theorem sb_8_10 : (Str.ofString "need_numbers" == Str.ofString "greatest") = false := by decide +kernel
theorem se_8_11 : (Str.ofString "need_numbers" = Str.ofString "turns") = False := eq_false (by decide +kernel)
theorem sb_8_11 : (Str.ofString "need_numbers" == Str.ofString "turns") = false := by decide +kernel
theorem se_9_0 : (Str.ofString "is_fair" = Str.ofString "times") = False := eq_false (by decide +kernel)
theorem sb_9_0 : (Str.ofString "is_fair" == Str.ofString "times") = false := by decide +kernel
theorem se_9_1 : (Str.ofString "is_fair" = Str.ofString "plus") = False := eq_false (by decide +kernel)
theorem sb_9_1 : (Str.ofString "is_fair" == Str.ofString "plus") = false := by decide +kernel
theorem se_9_2 : (Str.ofString "is_fair" = Str.ofString "turn") = False := eq_false (by decide +kernel)
theorem sb_9_2 : (Str.ofString "is_fair" == Str.ofString "turn") = false := by decide +kernel
theorem se_9_3 : (Str.ofString "is_fair" = Str.ofString "turn_plus") = False := eq_false (by decide +kernel)
theorem sb_9_3 : (Str.ofString "is_fair" == Str.ofString "turn_plus") = false := by decide +kernel
theorem se_9_4 : (Str.ofString "is_fair" = Str.ofString "beside") = False := eq_false (by decide +kernel)
theorem sb_9_4 : (Str.ofString "is_fair" == Str.ofString "beside") = false := by decide +kernel
theorem se_9_5 : (Str.ofString "is_fair" = Str.ofString "TryRule") = False := eq_false (by decide +kernel)
theorem sb_9_5 : (Str.ofString "is_fair" == Str.ofString "TryRule") = false := by decide +kernel
theorem se_9_6 : (Str.ofString "is_fair" = Str.ofString "TurnRule") = False := eq_false (by decide +kernel)
theorem sb_9_6 : (Str.ofString "is_fair" == Str.ofString "TurnRule") = false := by decide +kernel
theorem se_9_7 : (Str.ofString "is_fair" = Str.ofString "WeightRule") = False := eq_false (by decide +kernel)
theorem sb_9_7 : (Str.ofString "is_fair" == Str.ofString "WeightRule") = false := by decide +kernel
theorem se_9_8 : (Str.ofString "is_fair" = Str.ofString "need_numbers") = False := eq_false (by decide +kernel)
theorem sb_9_8 : (Str.ofString "is_fair" == Str.ofString "need_numbers") = false := by decide +kernel
theorem se_9_10 : (Str.ofString "is_fair" = Str.ofString "greatest") = False := eq_false (by decide +kernel)
theorem sb_9_10 : (Str.ofString "is_fair" == Str.ofString "greatest") = false := by decide +kernel
theorem se_9_11 : (Str.ofString "is_fair" = Str.ofString "turns") = False := eq_false (by decide +kernel)
theorem sb_9_11 : (Str.ofString "is_fair" == Str.ofString "turns") = false := by decide +kernel
theorem se_10_0 : (Str.ofString "greatest" = Str.ofString "times") = False := eq_false (by decide +kernel)
theorem sb_10_0 : (Str.ofString "greatest" == Str.ofString "times") = false := by decide +kernel
theorem se_10_1 : (Str.ofString "greatest" = Str.ofString "plus") = False := eq_false (by decide +kernel)
theorem sb_10_1 : (Str.ofString "greatest" == Str.ofString "plus") = false := by decide +kernel
theorem se_10_2 : (Str.ofString "greatest" = Str.ofString "turn") = False := eq_false (by decide +kernel)
theorem sb_10_2 : (Str.ofString "greatest" == Str.ofString "turn") = false := by decide +kernel
theorem se_10_3 : (Str.ofString "greatest" = Str.ofString "turn_plus") = False := eq_false (by decide +kernel)
theorem sb_10_3 : (Str.ofString "greatest" == Str.ofString "turn_plus") = false := by decide +kernel
theorem se_10_4 : (Str.ofString "greatest" = Str.ofString "beside") = False := eq_false (by decide +kernel)
theorem sb_10_4 : (Str.ofString "greatest" == Str.ofString "beside") = false := by decide +kernel
theorem se_10_5 : (Str.ofString "greatest" = Str.ofString "TryRule") = False := eq_false (by decide +kernel)
theorem sb_10_5 : (Str.ofString "greatest" == Str.ofString "TryRule") = false := by decide +kernel
theorem se_10_6 : (Str.ofString "greatest" = Str.ofString "TurnRule") = False := eq_false (by decide +kernel)
theorem sb_10_6 : (Str.ofString "greatest" == Str.ofString "TurnRule") = false := by decide +kernel
theorem se_10_7 : (Str.ofString "greatest" = Str.ofString "WeightRule") = False := eq_false (by decide +kernel)
theorem sb_10_7 : (Str.ofString "greatest" == Str.ofString "WeightRule") = false := by decide +kernel
theorem se_10_8 : (Str.ofString "greatest" = Str.ofString "need_numbers") = False := eq_false (by decide +kernel)
theorem sb_10_8 : (Str.ofString "greatest" == Str.ofString "need_numbers") = false := by decide +kernel
theorem se_10_9 : (Str.ofString "greatest" = Str.ofString "is_fair") = False := eq_false (by decide +kernel)
theorem sb_10_9 : (Str.ofString "greatest" == Str.ofString "is_fair") = false := by decide +kernel
theorem se_10_11 : (Str.ofString "greatest" = Str.ofString "turns") = False := eq_false (by decide +kernel)
theorem sb_10_11 : (Str.ofString "greatest" == Str.ofString "turns") = false := by decide +kernel
theorem se_11_0 : (Str.ofString "turns" = Str.ofString "times") = False := eq_false (by decide +kernel)
theorem sb_11_0 : (Str.ofString "turns" == Str.ofString "times") = false := by decide +kernel
theorem se_11_1 : (Str.ofString "turns" = Str.ofString "plus") = False := eq_false (by decide +kernel)
theorem sb_11_1 : (Str.ofString "turns" == Str.ofString "plus") = false := by decide +kernel
theorem se_11_2 : (Str.ofString "turns" = Str.ofString "turn") = False := eq_false (by decide +kernel)
theorem sb_11_2 : (Str.ofString "turns" == Str.ofString "turn") = false := by decide +kernel
theorem se_11_3 : (Str.ofString "turns" = Str.ofString "turn_plus") = False := eq_false (by decide +kernel)
theorem sb_11_3 : (Str.ofString "turns" == Str.ofString "turn_plus") = false := by decide +kernel
theorem se_11_4 : (Str.ofString "turns" = Str.ofString "beside") = False := eq_false (by decide +kernel)
theorem sb_11_4 : (Str.ofString "turns" == Str.ofString "beside") = false := by decide +kernel
theorem se_11_5 : (Str.ofString "turns" = Str.ofString "TryRule") = False := eq_false (by decide +kernel)
theorem sb_11_5 : (Str.ofString "turns" == Str.ofString "TryRule") = false := by decide +kernel
theorem se_11_6 : (Str.ofString "turns" = Str.ofString "TurnRule") = False := eq_false (by decide +kernel)
theorem sb_11_6 : (Str.ofString "turns" == Str.ofString "TurnRule") = false := by decide +kernel
theorem se_11_7 : (Str.ofString "turns" = Str.ofString "WeightRule") = False := eq_false (by decide +kernel)
theorem sb_11_7 : (Str.ofString "turns" == Str.ofString "WeightRule") = false := by decide +kernel
theorem se_11_8 : (Str.ofString "turns" = Str.ofString "need_numbers") = False := eq_false (by decide +kernel)
theorem sb_11_8 : (Str.ofString "turns" == Str.ofString "need_numbers") = false := by decide +kernel
theorem se_11_9 : (Str.ofString "turns" = Str.ofString "is_fair") = False := eq_false (by decide +kernel)
theorem sb_11_9 : (Str.ofString "turns" == Str.ofString "is_fair") = false := by decide +kernel
theorem se_11_10 : (Str.ofString "turns" = Str.ofString "greatest") = False := eq_false (by decide +kernel)
theorem sb_11_10 : (Str.ofString "turns" == Str.ofString "greatest") = false := by decide +kernel
end K29
namespace K29
open PySem
theorem sc_Rule_Rule : subs "Rule" "Rule" = true := by decide +kernel
theorem sc_Rule_WeightRule : subs "Rule" "WeightRule" = false := by decide +kernel
theorem sc_Rule_TurnRule : subs "Rule" "TurnRule" = false := by decide +kernel
theorem sc_Rule_TryRule : subs "Rule" "TryRule" = false := by decide +kernel
theorem sc_WeightRule_Rule : subs "WeightRule" "Rule" = true := by decide +kernel
theorem sc_WeightRule_WeightRule : subs "WeightRule" "WeightRule" = true := by decide +kernel
theorem sc_WeightRule_TurnRule : subs "WeightRule" "TurnRule" = false := by decide +kernel
theorem sc_WeightRule_TryRule : subs "WeightRule" "TryRule" = false := by decide +kernel
theorem sc_TurnRule_Rule : subs "TurnRule" "Rule" = true := by decide +kernel
theorem sc_TurnRule_WeightRule : subs "TurnRule" "WeightRule" = true := by decide +kernel
theorem sc_TurnRule_TurnRule : subs "TurnRule" "TurnRule" = true := by decide +kernel
theorem sc_TurnRule_TryRule : subs "TurnRule" "TryRule" = false := by decide +kernel
theorem sc_TryRule_Rule : subs "TryRule" "Rule" = true := by decide +kernel
theorem sc_TryRule_WeightRule : subs "TryRule" "WeightRule" = true := by decide +kernel
theorem sc_TryRule_TurnRule : subs "TryRule" "TurnRule" = false := by decide +kernel
theorem sc_TryRule_TryRule : subs "TryRule" "TryRule" = true := by decide +kernel
theorem xc_BadRule_BadRule : xsubs "BadRule" "BadRule" = true := by decide +kernel
theorem xc_BadRule_NoHalves : xsubs "BadRule" "NoHalves" = false := by decide +kernel
theorem xc_BadRule_BadNumber : xsubs "BadRule" "BadNumber" = false := by decide +kernel
theorem xc_BadRule_BadText : xsubs "BadRule" "BadText" = false := by decide +kernel
theorem xc_BadRule_FairError : xsubs "BadRule" "FairError" = true := by decide +kernel
theorem xc_NoHalves_BadRule : xsubs "NoHalves" "BadRule" = false := by decide +kernel
theorem xc_NoHalves_NoHalves : xsubs "NoHalves" "NoHalves" = true := by decide +kernel
theorem xc_NoHalves_BadNumber : xsubs "NoHalves" "BadNumber" = false := by decide +kernel
theorem xc_NoHalves_BadText : xsubs "NoHalves" "BadText" = false := by decide +kernel
theorem xc_NoHalves_FairError : xsubs "NoHalves" "FairError" = true := by decide +kernel
theorem xc_BadNumber_BadRule : xsubs "BadNumber" "BadRule" = false := by decide +kernel
theorem xc_BadNumber_NoHalves : xsubs "BadNumber" "NoHalves" = false := by decide +kernel
theorem xc_BadNumber_BadNumber : xsubs "BadNumber" "BadNumber" = true := by decide +kernel
theorem xc_BadNumber_BadText : xsubs "BadNumber" "BadText" = false := by decide +kernel
theorem xc_BadNumber_FairError : xsubs "BadNumber" "FairError" = true := by decide +kernel
theorem xc_BadText_BadRule : xsubs "BadText" "BadRule" = false := by decide +kernel
theorem xc_BadText_NoHalves : xsubs "BadText" "NoHalves" = false := by decide +kernel
theorem xc_BadText_BadNumber : xsubs "BadText" "BadNumber" = false := by decide +kernel
theorem xc_BadText_BadText : xsubs "BadText" "BadText" = true := by decide +kernel
theorem xc_BadText_FairError : xsubs "BadText" "FairError" = true := by decide +kernel
end K29
namespace K29
open PySem L2 Pu
theorem back_lock {n : SN} : n.back n.lock = n := rfl
theorem back_sub {n : SN} {k : Nat} : n.back (n.lock - k) = n - k := rfl
end K29
namespace K29
open PySem L2 Pu
end K29
set_option hygiene false
local macro_rules | `(tactic| walk_at "ev lk") => `(tactic| (first | exact lkSelf | (simp only [List.lookup, beq_self_eq_true, sb_0_1, sb_0_2, sb_0_3, sb_0_4, sb_0_5, sb_0_6, sb_0_7, sb_0_8, sb_0_9, sb_0_10, sb_0_11, sb_1_0, sb_1_2, sb_1_3, sb_1_4, sb_1_5, sb_1_6, sb_1_7, sb_1_8, sb_1_9, sb_1_10, sb_1_11, sb_2_0, sb_2_1, sb_2_3, sb_2_4, sb_2_5, sb_2_6, sb_2_7, sb_2_8, sb_2_9, sb_2_10, sb_2_11, sb_3_0, sb_3_1, sb_3_2, sb_3_4, sb_3_5, sb_3_6, sb_3_7, sb_3_8, sb_3_9, sb_3_10, sb_3_11, sb_4_0, sb_4_1, sb_4_2, sb_4_3, sb_4_5, sb_4_6, sb_4_7, sb_4_8, sb_4_9, sb_4_10, sb_4_11, sb_5_0, sb_5_1, sb_5_2, sb_5_3, sb_5_4, sb_5_6, sb_5_7, sb_5_8, sb_5_9, sb_5_10, sb_5_11, sb_6_0, sb_6_1, sb_6_2, sb_6_3, sb_6_4, sb_6_5, sb_6_7, sb_6_8, sb_6_9, sb_6_10, sb_6_11, sb_7_0, sb_7_1, sb_7_2, sb_7_3, sb_7_4, sb_7_5, sb_7_6, sb_7_8, sb_7_9, sb_7_10, sb_7_11, sb_8_0, sb_8_1, sb_8_2, sb_8_3, sb_8_4, sb_8_5, sb_8_6, sb_8_7, sb_8_9, sb_8_10, sb_8_11, sb_9_0, sb_9_1, sb_9_2, sb_9_3, sb_9_4, sb_9_5, sb_9_6, sb_9_7, sb_9_8, sb_9_10, sb_9_11, sb_10_0, sb_10_1, sb_10_2, sb_10_3, sb_10_4, sb_10_5, sb_10_6, sb_10_7, sb_10_8, sb_10_9, sb_10_11, sb_11_0, sb_11_1, sb_11_2, sb_11_3, sb_11_4, sb_11_5, sb_11_6, sb_11_7, sb_11_8, sb_11_9, sb_11_10]; done) | (simp only [List.lookup, beq_self_eq_true, sb_0_1, sb_0_2, sb_0_3, sb_0_4, sb_0_5, sb_0_6, sb_0_7, sb_0_8, sb_0_9, sb_0_10, sb_0_11, sb_1_0, sb_1_2, sb_1_3, sb_1_4, sb_1_5, sb_1_6, sb_1_7, sb_1_8, sb_1_9, sb_1_10, sb_1_11, sb_2_0, sb_2_1, sb_2_3, sb_2_4, sb_2_5, sb_2_6, sb_2_7, sb_2_8, sb_2_9, sb_2_10, sb_2_11, sb_3_0, sb_3_1, sb_3_2, sb_3_4, sb_3_5, sb_3_6, sb_3_7, sb_3_8, sb_3_9, sb_3_10, sb_3_11, sb_4_0, sb_4_1, sb_4_2, sb_4_3, sb_4_5, sb_4_6, sb_4_7, sb_4_8, sb_4_9, sb_4_10, sb_4_11, sb_5_0, sb_5_1, sb_5_2, sb_5_3, sb_5_4, sb_5_6, sb_5_7, sb_5_8, sb_5_9, sb_5_10, sb_5_11, sb_6_0, sb_6_1, sb_6_2, sb_6_3, sb_6_4, sb_6_5, sb_6_7, sb_6_8, sb_6_9, sb_6_10, sb_6_11, sb_7_0, sb_7_1, sb_7_2, sb_7_3, sb_7_4, sb_7_5, sb_7_6, sb_7_8, sb_7_9, sb_7_10, sb_7_11, sb_8_0, sb_8_1, sb_8_2, sb_8_3, sb_8_4, sb_8_5, sb_8_6, sb_8_7, sb_8_9, sb_8_10, sb_8_11, sb_9_0, sb_9_1, sb_9_2, sb_9_3, sb_9_4, sb_9_5, sb_9_6, sb_9_7, sb_9_8, sb_9_10, sb_9_11, sb_10_0, sb_10_1, sb_10_2, sb_10_3, sb_10_4, sb_10_5, sb_10_6, sb_10_7, sb_10_8, sb_10_9, sb_10_11, sb_11_0, sb_11_1, sb_11_2, sb_11_3, sb_11_4, sb_11_5, sb_11_6, sb_11_7, sb_11_8, sb_11_9, sb_11_10]; rfl)))
local macro_rules | `(tactic| walk_at "ev dx") => `(tactic| dsimp only [mSeq, mNext, mBreak, mCont, mNever, mDrop, mRet, mRetN, mIfS, mAsg, mgN, mgNil, mgCons, mgT, mSetOwn, mPar, mPar3, mAug, mStore, mApp, mFreeze, mFor, wipeP, mLc, mLc2, mYes, mFldM, mAt, mStoreM, mMethM, mMakeM, pOwn1M, pInM, pIxM, mSetM, mPropM, mIterM, pListM, mIsiTS, mIsiT2S, mIsiCS, PV.isTyS, PV.isClsS, mPop, pT0, pL0, mVar, mC, mOp, mUn, mB, mAnd, mOr, mNot, mAndV, mOrV, mNotV, mIf, mChain, mNil, mCons, mTup, mLst, mCB, mFld, mFldO, pI0, pI, pAdd, pSub, pLt, pLe, pGt, pGe, pMul, pDiv, pMod, pPow, pNeg, pEq, pNe, PV.isNon, pIsN, pNotN, mCall, mCallK, mMeth, mMethO, mMake, mDraw, mList, mTupI, mRng1, mRng2, pIxL, pIxT, pIxA, pIxS, pLen, pLenS, pAbs, pMax2, pMin2, pInt1, pBool1, pStr1, pSum, pMaxL, pMinL, pAll, pAny, pTuple, pList, pRepr, pEqD, pNeD, PV.data, datas, toInts, toBools, mPeek, mPeekT, PV.tyName, PV.isTy, PV.isCls, mIsiT, mIsiT2, mIsiC, pOwnC, pOwn1, pOwnCD, pOwn1D, pC1, PV.isB, PV.isS, PV.isLen, PV.isAtom, mMethD, pputF, initEnd, mSup, mStatO, mStat, mMethOD, mMethDK, mNoPart, mPart, mSl, pSlT, pSlL, pSlS, mLrg1, mLrg2, pCatL, pCatT, pCatS, pRepL, mTryK, mTryKS, mTryO, blank, mIsVC, mIsVT, mXFld, mAsk, mGive, noOwn, mRai1, mRai2, mJoined, mJs, mFmt, mInstD, mInstDK, pIsB, pNotB, pMulS, pIntS, mDct, mPairs, merge0, merge1, pReprD, PV.dataD, datasD, datasK, mZip, seqB, zipP, mEnum, enP, mStar, PV.items, pRepT, mRai0, pSumT, pIxU, pLenU, mDctP, mPair1, mParOwn2, mParOwn3, mStrI, pInSign, PV.flt, flts, pIn, inV, strsP, pJoin, pSplit, mM1, mRev, mMakeV, mFnC, mSetIx, mOwnList, mParOwn, mProp, mMakeSt, pEqTI, mAnyI, mEnumA, pListO, mIterO, pNeLX, mKeep, mIxO, mParOwnR, mXv0, mXv1, mXv1k, mXv2, mXv2r, mCatOwn, mStore2, mExt, PV.noL, noLs, noLf, List.replicate_succ, List.replicate_zero, mSetOwnD, mInD, mPutD, mLenD, mFreezeD, mIxD, mKeysI, mStoreMN, PV.key, pSorted, pNeX, List.map, List.append_nil, List.nil_append, List.cons_append, List.length, List.getElem?_cons_zero, List.getElem?_cons_succ, List.set_cons_zero, List.set_cons_succ, Option.map_some, Option.map_none, Bool.not_true, Bool.not_false, Option.isSome_some, Bool.or_false, Bool.or_true, Bool.false_or, Bool.true_or, Bool.and_true, Bool.true_and, Bool.and_false, Bool.false_and, if_true, if_false, ↓reduceIte, Nat.reduceAdd, Nat.reduceSub, Int.reduceNeg, Nat.reduceLeDiff, Nat.reduceLT, Nat.reduceEqDiff, String.reduceBEq, ati_1_0, ati_1_m1, ati_2_0, ati_2_1, ati_2_m1, ati_3_0, ati_3_1, ati_3_2, ati_3_m1, ati_4_0, ati_4_1, ati_4_2, ati_4_3, ati_4_m1, ati_5_0, ati_5_1, ati_5_2, ati_5_3, ati_5_4, ati_5_m1, ati_6_0, ati_6_1, ati_6_2, ati_6_3, ati_6_4, ati_6_5, ati_6_m1, ati_7_0, ati_7_1, ati_7_2, ati_7_3, ati_7_4, ati_7_5, ati_7_6, ati_7_m1, gp_0, gp_1])
local macro_rules | `(tactic| walk_at "ev sx") => `(tactic| simp only [SN.sub_n, SN.sub_μ, SN.sub_lk, SN.sub_sub, setμ_n, setμ_lk, setμ_at, sub_setμ, List.lookup, lkSelf, Bool.true_eq_false, Bool.false_eq_true, Bool.not_true, Bool.not_false, Bool.or_false, Bool.or_true, Bool.false_or, Bool.true_or, Bool.and_true, Bool.true_and, Bool.and_false, Bool.false_and, if_true, if_false, ↓reduceIte, eq_self, decide_true, decide_false, not_true_eq_false, not_false_eq_true, true_and, and_true, decide_eq_true_eq, Bool.not_eq_eq_eq_not, decide_eq_false_iff_not, Nat.reduceAdd, Nat.reduceSub, Nat.reduceLeDiff, Nat.reduceLT, Nat.reduceEqDiff, Int.reduceNeg, Int.cast_ofNat_Int, Int.reduceToNat, Int.reduceSub, Int.reduceAdd, Int.reduceMul, Int.reducePow, List.flatten_cons, List.flatten_nil, String.reduceBEq, beq_self_eq_true, Int.reduceEq, Int.reduceLT, Int.reduceLE, se_0_1, sb_0_1, se_0_2, sb_0_2, se_0_3, sb_0_3, se_0_4, sb_0_4, se_0_5, sb_0_5, se_0_6, sb_0_6, se_0_7, sb_0_7, se_0_8, sb_0_8, se_0_9, sb_0_9, se_0_10, sb_0_10, se_0_11, sb_0_11, se_1_0, sb_1_0, se_1_2, sb_1_2, se_1_3, sb_1_3, se_1_4, sb_1_4, se_1_5, sb_1_5, se_1_6, sb_1_6, se_1_7, sb_1_7, se_1_8, sb_1_8, se_1_9, sb_1_9, se_1_10, sb_1_10, se_1_11, sb_1_11, se_2_0, sb_2_0, se_2_1, sb_2_1, se_2_3, sb_2_3, se_2_4, sb_2_4, se_2_5, sb_2_5, se_2_6, sb_2_6, se_2_7, sb_2_7, se_2_8, sb_2_8, se_2_9, sb_2_9, se_2_10, sb_2_10, se_2_11, sb_2_11, se_3_0, sb_3_0, se_3_1, sb_3_1, se_3_2, sb_3_2, se_3_4, sb_3_4, se_3_5, sb_3_5, se_3_6, sb_3_6, se_3_7, sb_3_7, se_3_8, sb_3_8, se_3_9, sb_3_9, se_3_10, sb_3_10, se_3_11, sb_3_11, se_4_0, sb_4_0, se_4_1, sb_4_1, se_4_2, sb_4_2, se_4_3, sb_4_3, se_4_5, sb_4_5, se_4_6, sb_4_6, se_4_7, sb_4_7, se_4_8, sb_4_8, se_4_9, sb_4_9, se_4_10, sb_4_10, se_4_11, sb_4_11, se_5_0, sb_5_0, se_5_1, sb_5_1, se_5_2, sb_5_2, se_5_3, sb_5_3, se_5_4, sb_5_4, se_5_6, sb_5_6, se_5_7, sb_5_7, se_5_8, sb_5_8, se_5_9, sb_5_9, se_5_10, sb_5_10, se_5_11, sb_5_11, se_6_0, sb_6_0, se_6_1, sb_6_1, se_6_2, sb_6_2, se_6_3, sb_6_3, se_6_4, sb_6_4, se_6_5, sb_6_5, se_6_7, sb_6_7, se_6_8, sb_6_8, se_6_9, sb_6_9, se_6_10, sb_6_10, se_6_11, sb_6_11, se_7_0, sb_7_0, se_7_1, sb_7_1, se_7_2, sb_7_2, se_7_3, sb_7_3, se_7_4, sb_7_4, se_7_5, sb_7_5, se_7_6, sb_7_6, se_7_8, sb_7_8, se_7_9, sb_7_9, se_7_10, sb_7_10, se_7_11, sb_7_11, se_8_0, sb_8_0, se_8_1, sb_8_1, se_8_2, sb_8_2, se_8_3, sb_8_3, se_8_4, sb_8_4, se_8_5, sb_8_5, se_8_6, sb_8_6, se_8_7, sb_8_7, se_8_9, sb_8_9, se_8_10, sb_8_10, se_8_11, sb_8_11, se_9_0, sb_9_0, se_9_1, sb_9_1, se_9_2, sb_9_2, se_9_3, sb_9_3, se_9_4, sb_9_4, se_9_5, sb_9_5, se_9_6, sb_9_6, se_9_7, sb_9_7, se_9_8, sb_9_8, se_9_10, sb_9_10, se_9_11, sb_9_11, se_10_0, sb_10_0, se_10_1, sb_10_1, se_10_2, sb_10_2, se_10_3, sb_10_3, se_10_4, sb_10_4, se_10_5, sb_10_5, se_10_6, sb_10_6, se_10_7, sb_10_7, se_10_8, sb_10_8, se_10_9, sb_10_9, se_10_11, sb_10_11, se_11_0, sb_11_0, se_11_1, sb_11_1, se_11_2, sb_11_2, se_11_3, sb_11_3, se_11_4, sb_11_4, se_11_5, sb_11_5, se_11_6, sb_11_6, se_11_7, sb_11_7, se_11_8, sb_11_8, se_11_9, sb_11_9, se_11_10, sb_11_10, back_lock, back_sub, sc_Rule_Rule, sc_Rule_WeightRule, sc_Rule_TurnRule, sc_Rule_TryRule, sc_WeightRule_Rule, sc_WeightRule_WeightRule, sc_WeightRule_TurnRule, sc_WeightRule_TryRule, sc_TurnRule_Rule, sc_TurnRule_WeightRule, sc_TurnRule_TurnRule, sc_TurnRule_TryRule, sc_TryRule_Rule, sc_TryRule_WeightRule, sc_TryRule_TurnRule, sc_TryRule_TryRule, xc_BadRule_BadRule, xc_BadRule_NoHalves, xc_BadRule_BadNumber, xc_BadRule_BadText, xc_BadRule_FairError, xc_NoHalves_BadRule, xc_NoHalves_NoHalves, xc_NoHalves_BadNumber, xc_NoHalves_BadText, xc_NoHalves_FairError, xc_BadNumber_BadRule, xc_BadNumber_NoHalves, xc_BadNumber_BadNumber, xc_BadNumber_BadText, xc_BadNumber_FairError, xc_BadText_BadRule, xc_BadText_NoHalves, xc_BadText_BadNumber, xc_BadText_BadText, xc_BadText_FairError])
local macro_rules | `(tactic| walk_at "ev sd") => `(tactic| ((repeat' (with_reducible refine And.intro ?_ ?_)) <;> first | assumption | omega | (simp only [SN.sub_n, setμ_n]; omega) | exact big_of (by omega) (by omega) | (unfold CPow; omega) | decide +kernel))
local macro_rules | `(tactic| walk_at "ev g1") => `(tactic| with_reducible refine And.intro (by walk_at "ev sd") ?_)
local macro_rules | `(tactic| walk_at "ev g1") => `(tactic| rw [if_neg (by first | assumption | omega)])
local macro_rules | `(tactic| walk_at "ev g1") => `(tactic| rw [if_pos (by first | assumption | omega)])
local macro_rules | `(tactic| walk_at "ev g1") => `(tactic| with_reducible refine fun (d : Int) (dlo : 0 ≤ d) (dhi : d < _) => ?_)
local macro_rules | `(tactic| walk_at "ev go") => `(tactic| ((walk_at "ev px"); repeat ((walk_at "ev g1"); (walk_at "ev px"))))
local macro_rules | `(tactic| walk_at "ev run") => `(tactic| ((walk_at "ev go"); repeat' (split <;> (walk_at "ev go"))))
local macro_rules | `(tactic| walk_at "ev px") => `(tactic| ((try walk_at "ev dx"); (try simp only [mSeq, mNext, mBreak, mCont, mNever, mDrop, mRet, mRetN, mIfS, mAsg, mgN, mgNil, mgCons, mgT, mSetOwn, mPar, mPar3, mAug, mStore, mApp, mFreeze, mFor, wipeP, mLc, mLc2, mYes, mFldM, mAt, mStoreM, mMethM, mMakeM, pOwn1M, pInM, pIxM, mSetM, mPropM, mIterM, pListM, mIsiTS, mIsiT2S, mIsiCS, PV.isTyS, PV.isClsS, mPop, pT0, pL0, mVar, mC, mOp, mUn, mB, mAnd, mOr, mNot, mAndV, mOrV, mNotV, mIf, mChain, mNil, mCons, mTup, mLst, mCB, mFld, mFldO, pI0, pI, pAdd, pSub, pLt, pLe, pGt, pGe, pMul, pDiv, pMod, pPow, pNeg, pEq, pNe, PV.isNon, pIsN, pNotN, mCall, mCallK, mMeth, mMethO, mMake, mDraw, mList, mTupI, mRng1, mRng2, pIxL, pIxT, pIxA, pIxS, pLen, pLenS, pAbs, pMax2, pMin2, pInt1, pBool1, pStr1, pSum, pMaxL, pMinL, pAll, pAny, pTuple, pList, pRepr, pEqD, pNeD, PV.data, datas, toInts, toBools, mPeek, mPeekT, PV.tyName, PV.isTy, PV.isCls, mIsiT, mIsiT2, mIsiC, pOwnC, pOwn1, pOwnCD, pOwn1D, pC1, PV.isB, PV.isS, PV.isLen, PV.isAtom, mMethD, pputF, initEnd, mSup, mStatO, mStat, mMethOD, mMethDK, mNoPart, mPart, mSl, pSlT, pSlL, pSlS, mLrg1, mLrg2, pCatL, pCatT, pCatS, pRepL, mTryK, mTryKS, mTryO, blank, mIsVC, mIsVT, mXFld, mAsk, mGive, noOwn, mRai1, mRai2, mJoined, mJs, mFmt, mInstD, mInstDK, pIsB, pNotB, pMulS, pIntS, mDct, mPairs, merge0, merge1, pReprD, PV.dataD, datasD, datasK, mZip, seqB, zipP, mEnum, enP, mStar, PV.items, pRepT, mRai0, pSumT, pIxU, pLenU, mDctP, mPair1, mParOwn2, mParOwn3, mStrI, pInSign, PV.flt, flts, pIn, inV, strsP, pJoin, pSplit, mM1, mRev, mMakeV, mFnC, mSetIx, mOwnList, mParOwn, mProp, mMakeSt, pEqTI, mAnyI, mEnumA, pListO, mIterO, pNeLX, mKeep, mIxO, mParOwnR, mXv0, mXv1, mXv1k, mXv2, mXv2r, mCatOwn, mStore2, mExt, PV.noL, noLs, noLf, List.replicate_succ, List.replicate_zero, mSetOwnD, mInD, mPutD, mLenD, mFreezeD, mIxD, mKeysI, mStoreMN, PV.key, pSorted, pNeX, List.map, List.append_nil, List.nil_append, List.cons_append, List.length, List.getElem?_cons_zero, List.getElem?_cons_succ, List.set_cons_zero, List.set_cons_succ, Option.map_some, Option.map_none, Bool.not_true, Bool.not_false, Option.isSome_some, Bool.or_false, Bool.or_true, Bool.false_or, Bool.true_or, Bool.and_true, Bool.true_and, Bool.and_false, Bool.false_and, if_true, if_false, ↓reduceIte, Nat.reduceAdd, Nat.reduceSub, Int.reduceNeg, Nat.reduceLeDiff, Nat.reduceLT, Nat.reduceEqDiff, String.reduceBEq, SN.sub_n, SN.sub_μ, SN.sub_lk, SN.sub_sub, setμ_n, setμ_lk, setμ_at, sub_setμ, List.lookup, lkSelf, Bool.true_eq_false, Bool.false_eq_true, Bool.not_true, Bool.not_false, Bool.or_false, Bool.or_true, Bool.false_or, Bool.true_or, Bool.and_true, Bool.true_and, Bool.and_false, Bool.false_and, if_true, if_false, ↓reduceIte, eq_self, decide_true, decide_false, not_true_eq_false, not_false_eq_true, true_and, and_true, decide_eq_true_eq, Bool.not_eq_eq_eq_not, decide_eq_false_iff_not, Nat.reduceAdd, Nat.reduceSub, Nat.reduceLeDiff, Nat.reduceLT, Nat.reduceEqDiff, Int.reduceNeg, Int.cast_ofNat_Int, Int.reduceToNat, Int.reduceSub, Int.reduceAdd, Int.reduceMul, Int.reducePow, List.flatten_cons, List.flatten_nil, String.reduceBEq, beq_self_eq_true, Int.reduceEq, Int.reduceLT, Int.reduceLE, at0, at1, at2, at3, at4, at5, se_0_1, sb_0_1, se_0_2, sb_0_2, se_0_3, sb_0_3, se_0_4, sb_0_4, se_0_5, sb_0_5, se_0_6, sb_0_6, se_0_7, sb_0_7, se_0_8, sb_0_8, se_0_9, sb_0_9, se_0_10, sb_0_10, se_0_11, sb_0_11, se_1_0, sb_1_0, se_1_2, sb_1_2, se_1_3, sb_1_3, se_1_4, sb_1_4, se_1_5, sb_1_5, se_1_6, sb_1_6, se_1_7, sb_1_7, se_1_8, sb_1_8, se_1_9, sb_1_9, se_1_10, sb_1_10, se_1_11, sb_1_11, se_2_0, sb_2_0, se_2_1, sb_2_1, se_2_3, sb_2_3, se_2_4, sb_2_4, se_2_5, sb_2_5, se_2_6, sb_2_6, se_2_7, sb_2_7, se_2_8, sb_2_8, se_2_9, sb_2_9, se_2_10, sb_2_10, se_2_11, sb_2_11, se_3_0, sb_3_0, se_3_1, sb_3_1, se_3_2, sb_3_2, se_3_4, sb_3_4, se_3_5, sb_3_5, se_3_6, sb_3_6, se_3_7, sb_3_7, se_3_8, sb_3_8, se_3_9, sb_3_9, se_3_10, sb_3_10, se_3_11, sb_3_11, se_4_0, sb_4_0, se_4_1, sb_4_1, se_4_2, sb_4_2, se_4_3, sb_4_3, se_4_5, sb_4_5, se_4_6, sb_4_6, se_4_7, sb_4_7, se_4_8, sb_4_8, se_4_9, sb_4_9, se_4_10, sb_4_10, se_4_11, sb_4_11, se_5_0, sb_5_0, se_5_1, sb_5_1, se_5_2, sb_5_2, se_5_3, sb_5_3, se_5_4, sb_5_4, se_5_6, sb_5_6, se_5_7, sb_5_7, se_5_8, sb_5_8, se_5_9, sb_5_9, se_5_10, sb_5_10, se_5_11, sb_5_11, se_6_0, sb_6_0, se_6_1, sb_6_1, se_6_2, sb_6_2, se_6_3, sb_6_3, se_6_4, sb_6_4, se_6_5, sb_6_5, se_6_7, sb_6_7, se_6_8, sb_6_8, se_6_9, sb_6_9, se_6_10, sb_6_10, se_6_11, sb_6_11, se_7_0, sb_7_0, se_7_1, sb_7_1, se_7_2, sb_7_2, se_7_3, sb_7_3, se_7_4, sb_7_4, se_7_5, sb_7_5, se_7_6, sb_7_6, se_7_8, sb_7_8, se_7_9, sb_7_9, se_7_10, sb_7_10, se_7_11, sb_7_11, se_8_0, sb_8_0, se_8_1, sb_8_1, se_8_2, sb_8_2, se_8_3, sb_8_3, se_8_4, sb_8_4, se_8_5, sb_8_5, se_8_6, sb_8_6, se_8_7, sb_8_7, se_8_9, sb_8_9, se_8_10, sb_8_10, se_8_11, sb_8_11, se_9_0, sb_9_0, se_9_1, sb_9_1, se_9_2, sb_9_2, se_9_3, sb_9_3, se_9_4, sb_9_4, se_9_5, sb_9_5, se_9_6, sb_9_6, se_9_7, sb_9_7, se_9_8, sb_9_8, se_9_10, sb_9_10, se_9_11, sb_9_11, se_10_0, sb_10_0, se_10_1, sb_10_1, se_10_2, sb_10_2, se_10_3, sb_10_3, se_10_4, sb_10_4, se_10_5, sb_10_5, se_10_6, sb_10_6, se_10_7, sb_10_7, se_10_8, sb_10_8, se_10_9, sb_10_9, se_10_11, sb_10_11, se_11_0, sb_11_0, se_11_1, sb_11_1, se_11_2, sb_11_2, se_11_3, sb_11_3, se_11_4, sb_11_4, se_11_5, sb_11_5, se_11_6, sb_11_6, se_11_7, sb_11_7, se_11_8, sb_11_8, se_11_9, sb_11_9, se_11_10, sb_11_10, back_lock, back_sub, sc_Rule_Rule, sc_Rule_WeightRule, sc_Rule_TurnRule, sc_Rule_TryRule, sc_WeightRule_Rule, sc_WeightRule_WeightRule, sc_WeightRule_TurnRule, sc_WeightRule_TryRule, sc_TurnRule_Rule, sc_TurnRule_WeightRule, sc_TurnRule_TurnRule, sc_TurnRule_TryRule, sc_TryRule_Rule, sc_TryRule_WeightRule, sc_TryRule_TurnRule, sc_TryRule_TryRule, xc_BadRule_BadRule, xc_BadRule_NoHalves, xc_BadRule_BadNumber, xc_BadRule_BadText, xc_BadRule_FairError, xc_NoHalves_BadRule, xc_NoHalves_NoHalves, xc_NoHalves_BadNumber, xc_NoHalves_BadText, xc_NoHalves_FairError, xc_BadNumber_BadRule, xc_BadNumber_NoHalves, xc_BadNumber_BadNumber, xc_BadNumber_BadText, xc_BadNumber_FairError, xc_BadText_BadRule, xc_BadText_NoHalves, xc_BadText_BadNumber, xc_BadText_BadText, xc_BadText_FairError, gp_0, gp_1])))
namespace K29
open PySem L2 Pu
theorem at_nat {α : Type} {xs : List α} {M : Int} {v : α} (h0 : 0 ≤ M) (h : xs[M.toNat]? = some v) : atI xs M = some v := by
  have hl : M.toNat < xs.length := (List.getElem?_eq_some_iff.mp h).1
  unfold atI ixN
  rw [if_pos h0, if_pos (by omega)]
  exact h
theorem pick_run {xs : List PV} {W : XP} {n : SN} {Q : PV → SN → Prop} (hn : 1 ≤ n.n) (h0 : 0 < xs.length) (h1 : xs.length ≤ 100000) (k : ∀ x ∈ xs, Q x (n - 1)) : m_law_pick [.pen, .lst xs] W n Q := by
  refine run_law_pick ?_
  unfold b_law_pick
  walk_at "ev px"
  refine ⟨hn, by omega, by omega, fun d d0 d1 => ?_⟩
  have hl : d.toNat < xs.length := by omega
  rw [at_nat d0 (List.getElem?_eq_getElem hl)]
  walk_at "ev px"
  exact k _ (List.getElem_mem hl)
theorem all_nil {P : Int → Prop} : ∀ x ∈ ([] : List PV), ∃ i, x = .int i ∧ P i := fun _ h => by cases h
theorem all_cons {P : Int → Prop} {x : Int} {xs : List PV} (h : P x) (t : ∀ y ∈ xs, ∃ i, y = .int i ∧ P i) : ∀ y ∈ PV.int x :: xs, ∃ i, y = .int i ∧ P i := fun y hy => by
  rcases List.mem_cons.mp hy with rfl | hy
  · exact ⟨_, rfl, h⟩
  · exact t y hy
theorem pick_int (P : Int → Prop) {xs : List PV} {W : XP} {n : SN} {Q : PV → SN → Prop} (hn : 1 ≤ n.n) (h0 : 0 < xs.length) (h1 : xs.length ≤ 100000) (hx : ∀ x ∈ xs, ∃ i, x = .int i ∧ P i) (k : ∀ i, P i → Q (.int i) (n - 1)) : m_law_pick [.pen, .lst xs] W n Q := by
  refine pick_run hn h0 h1 fun x h => ?_
  obtain ⟨i, rfl, hi⟩ := hx x h
  exact k i hi
theorem isint_run {i : Int} {W : XP} {n : SN} {Q : PV → SN → Prop} (k : Q (.bl true) n) : m_is_integer [.int i] W n Q := by
  refine run_is_integer ?_
  unfold b_is_integer
  walk_at "ev px"
  exact k
theorem within_run {i a b : Int} {W : XP} {n : SN} {Q : PV → SN → Prop} (k : Q (.bl (decide (a ≤ i) && decide (i ≤ b))) n) : m_is_within [.int i, .int a, .int b] W n Q := by
  refine run_is_within ?_
  unfold b_is_within
  walk_at "ev px"
  refine isint_run ?_
  walk_at "ev px"
  split
  · rename_i h
    rw [decide_eq_true h] at k
    exact k
  · rename_i h
    rw [decide_eq_false h] at k
    exact k
theorem istimes_run {a b m : Int} {W : XP} {n : SN} {Q : PV → SN → Prop} (h1 : 1 ≤ a ∧ a ≤ m) (h2 : 1 ≤ b ∧ b ≤ m) (k : Q (.bl true) n) : m_is_times [.tup [.int a, .int b], .int m] W n Q := by
  refine run_is_times ?_
  unfold b_is_times
  walk_at "ev px"
  unfold lcL lcL lcL
  walk_at "ev px"
  refine within_run ?_
  rw [decide_eq_true h1.1, decide_eq_true h1.2]
  refine within_run ?_
  rw [decide_eq_true h2.1, decide_eq_true h2.2]
  walk_at "ev px"
  exact k
theorem needplus_run {a : Int} {x : PV} {W : XP} {n : SN} {Q : PV → SN → Prop} (h : -6 ≤ a ∧ a ≤ 6) (k : Q .non n) : m_need_plus [.int a, x] W n Q := by
  refine run_need_plus ?_
  unfold b_need_plus
  walk_at "ev px"
  refine within_run ?_
  rw [decide_eq_true h.1, decide_eq_true h.2]
  walk_at "ev px"
  exact k
structure Ru (p q k : Int) : Prop where
  q1 : 1 ≤ q
  p1 : q ≤ p ∧ p ≤ 6
  k1 : -6 ≤ k ∧ k ≤ 6
  h1 : 2 * q ≤ p + k
theorem neednumbers_run {p q k : Int} {W : XP} {n : SN} {Q : PV → SN → Prop} (h : Ru p q k) (kk : Q .non n) : m_WeightRule_need_numbers [.tup [.int p, .int q], .int k] W n Q := by
  have hq := h.q1
  have hp := h.p1
  refine run_WeightRule_need_numbers ?_
  unfold b_WeightRule_need_numbers
  walk_at "ev px"
  refine istimes_run ⟨by omega, by omega⟩ ⟨by omega, by omega⟩ ?_
  walk_at "ev px"
  rw [if_neg (by omega)]
  refine needplus_run h.k1 ?_
  walk_at "ev px"
  exact kk
def bs (p q k x : Int) : Int := (p * x + k) / q
theorem beside_run {p q k x : Int} {c : Str} {fs : List (Str × PV)} {W : XP} {n : SN} {Q : PV → SN → Prop} (h : 1 ≤ q ∧ q ≤ p ∧ p ≤ 6) (hx : 0 ≤ x ∧ x ≤ 1000000000000000000000000000000000000000000000000000000000000000) (hT : fs.lookup ("times" : Str) = some (.tup [.int p, .int q])) (hP : fs.lookup ("plus" : Str) = some (.int k))
    (kk : Q (.int (bs p q k x)) n) : m_WeightRule_beside [.ins c fs, .int x] W n Q := by
  refine run_WeightRule_beside ?_
  unfold b_WeightRule_beside
  (try walk_at "ev dx")
  rw [hT]
  (try walk_at "ev dx")
  rw [hP]
  (try walk_at "ev dx")
  refine ⟨⟨big_of (by omega) (by omega), big_of (by omega) (by omega)⟩, ⟨by omega, big_of (by omega) (by omega)⟩, kk⟩
def wfl (p q k : Int) : List (Str × PV) := [("times", .tup [.int p, .int q]), ("plus", .int k)]
theorem bs1 {p q k : Int} (h : Ru p q k) : 2 ≤ bs p q k 1 := by
  have hq := h.q1
  have := h.h1
  unfold bs
  rw [Int.le_ediv_iff_mul_le (by omega)]
  omega
theorem winit_run {p q k : Int} {c : Str} {W : XP} {n : SN} {Q : List (Str × PV) → SN → Prop} (hc : c = "TurnRule" ∨ c = "TryRule") (h : Ru p q k) (kk : Q (wfl p q k) n) : m_WeightRule_init c [] [.tup [.int p, .int q], .int k] W n Q := by
  have hq := h.q1
  have hp := h.p1
  have h1 := bs1 h
  refine run_WeightRule_init ?_
  unfold b_WeightRule_init
  rcases hc with rfl | rfl
  all_goals
    (try walk_at "ev dx")
    refine ⟨by decide +kernel, rfl, rfl, neednumbers_run h ?_⟩
    walk_at "ev px"
    refine beside_run ⟨hq, hp.1, hp.2⟩ ⟨by decide, by decide⟩ (by walk_at "ev lk") (by walk_at "ev lk") ?_
    walk_at "ev px"
    rw [if_neg (by omega)]
    refine beside_run ⟨hq, hp.1, hp.2⟩ ⟨by decide, by decide⟩ (by walk_at "ev lk") (by walk_at "ev lk") ?_
    walk_at "ev px"
    rw [if_neg (by omega)]
    exact kk
def ufl (p q k t s r : Int) : List (Str × PV) := [("times", .tup [.int p, .int q]), ("plus", .int k), ("turn", .tup [.int t, .int s]), ("turn_plus", .int r)]
theorem tinit_run {p q k : Int} {W : XP} {n : SN} {Q : List (Str × PV) → SN → Prop} (h : Ru p q k) (kk : Q (wfl p q k) n) : m_TryRule_init "TryRule" [] [.tup [.int p, .int q], .int k] W n Q := by
  refine run_TryRule_init ?_
  unfold b_TryRule_init b1_TryRule_init ba_TryRule_init b2_TryRule_init mSup
  (try walk_at "ev dx")
  exact ⟨rfl, rfl, winit_run (.inr rfl) h kk⟩
theorem uinit_run {p q k t s r : Int} {W : XP} {n : SN} {Q : List (Str × PV) → SN → Prop} (h : Ru p q k) (ht : 1 ≤ t ∧ t ≤ 8) (hs : 1 ≤ s ∧ s ≤ 8) (hr : -6 ≤ r ∧ r ≤ 6) (kk : Q (ufl p q k t s r) n) : m_TurnRule_init "TurnRule" [] [.tup [.int p, .int q], .int k, .tup [.int t, .int s], .int r] W n Q := by
  refine run_TurnRule_init ?_
  unfold b_TurnRule_init b1_TurnRule_init ba_TurnRule_init b2_TurnRule_init mSup
  (try walk_at "ev dx")
  refine ⟨by decide +kernel, rfl, rfl, neednumbers_run h ?_⟩
  (try walk_at "ev dx")
  refine ⟨rfl, istimes_run ht hs ?_⟩
  walk_at "ev px"
  refine needplus_run hr ?_
  walk_at "ev px"
  refine winit_run (.inl rfl) h ?_
  unfold wfl
  walk_at "ev px"
  exact kk
abbrev six (p q k t s r : Int) : PV := .tup [.int p, .int q, .int k, .int t, .int s, .int r]
local macro_rules | `(tactic| walk_at "ev g1") => `(tactic| with_reducible refine isint_run ?_)
local macro_rules | `(tactic| walk_at "ev g1") => `(tactic| with_reducible refine neednumbers_run (by assumption) ?_)
theorem within_ok {i a b : Int} {W : XP} {n : SN} {Q : PV → SN → Prop} (h : a ≤ i ∧ i ≤ b) (k : Q (.bl true) n) : m_is_within [.int i, .int a, .int b] W n Q := by
  refine within_run ?_
  rw [decide_eq_true h.1, decide_eq_true h.2]
  exact k
local macro_rules | `(tactic| walk_at "ev g1") => `(tactic| with_reducible refine within_ok (by walk_at "ev sd") ?_)
structure Rv (c : Str) (fs : List (Str × PV)) (p q k : Int) : Prop where
  cc : c = "TurnRule" ∨ c = "TryRule"
  tm : fs.lookup ("times" : Str) = some (.tup [.int p, .int q])
  pl : fs.lookup ("plus" : Str) = some (.int k)
  nb : fs.lookup ("beside" : Str) = none
  nf : fs.lookup ("is_fair" : Str) = none
  ng : fs.lookup ("greatest" : Str) = none
  nt : fs.lookup ("turns" : Str) = none
theorem rv_try {p q k : Int} : Rv "TryRule" (wfl p q k) p q k := by
  refine ⟨.inr rfl, ?_, ?_, ?_, ?_, ?_, ?_⟩ <;> unfold wfl <;> walk_at "ev lk"
theorem rv_turn {p q k t s r : Int} : Rv "TurnRule" (ufl p q k t s r) p q k := by
  refine ⟨.inl rfl, ?_, ?_, ?_, ?_, ?_, ?_⟩ <;> unfold ufl <;> walk_at "ev lk"
def lst (p q k x : Int) : Int := if -((k - q * x) / p) > 1 then -((k - q * x) / p) else 1
section
variable {p q k : Int}
theorem lst_pos {x : Int} : 1 ≤ lst p q k x := by
  unfold lst
  split <;> omega
theorem lst_up {x : Int} (hp : 1 ≤ p) : q * x ≤ p * lst p q k x + k := by
  have e := Int.mul_ediv_self_le (x := k - q * x) (k := p) (by omega)
  have h1 : -((k - q * x) / p) ≤ lst p q k x := by
    unfold lst
    split <;> omega
  have h2 : p * (-((k - q * x) / p)) ≤ p * lst p q k x := Int.mul_le_mul_of_nonneg_left h1 (by omega)
  rw [Int.mul_neg] at h2
  omega
theorem lst_least {x y : Int} (hp : 1 ≤ p) (hy : 1 ≤ y) (h : q * x ≤ p * y + k) : lst p q k x ≤ y := by
  have h1 : -y ≤ (k - q * x) / p := by
    rw [Int.le_ediv_iff_mul_le (by omega), Int.neg_mul, Int.mul_comm y p]
    omega
  unfold lst
  split <;> omega
theorem lst_one (h : Ru p q k) : lst p q k 1 = 1 := by
  have hq := h.q1
  have hp := h.p1
  have h1 := h.h1
  have := lst_least (p := p) (q := q) (k := k) (x := 1) (y := 1) (by omega) (by omega) (by omega)
  have := lst_pos (p := p) (q := q) (k := k) (x := 1)
  omega
theorem lst_less {x : Int} (h : Ru p q k) (hx : 2 ≤ x) : lst p q k x ≤ x - 1 := by
  have hq := h.q1
  have hp := h.p1
  have h1 := h.h1
  refine lst_least (by omega) (by omega) ?_
  have e : (p - q) * 1 ≤ (p - q) * (x - 1) := Int.mul_le_mul_of_nonneg_left (by omega) (by omega)
  rw [Int.sub_mul, Int.sub_mul, Int.mul_sub, Int.mul_sub] at e
  rw [Int.mul_sub]
  omega
theorem lst_le {x : Int} (h : Ru p q k) (hx : 1 ≤ x) : lst p q k x ≤ x := by
  by_cases e : x = 1
  · subst e
    rw [lst_one h]
    omega
  · have := lst_less h (x := x) (by omega)
    omega
end
inductive NoInt : PV → Prop
  | non : NoInt .non
  | bl (b : Bool) : NoInt (.bl b)
  | str (s : Str) : NoInt (.str s)
  | lst (xs : List PV) : NoInt (.lst xs)
  | tup (xs : List PV) : NoInt (.tup xs)
  | dct (xs : List (Key × PV)) : NoInt (.dct xs)
structure Nm (p q k t s r : Int) : Prop where
  ru : Ru p q k
  t : 1 ≤ t ∧ t ≤ 8
  s : 1 ≤ s ∧ s ≤ 8
  r : -6 ≤ r ∧ r ≤ 6
theorem numbers_run {W : XP} {n : SN} {Q : PV → SN → Prop} (hn : 12 ≤ n.n) (kk : ∀ (p q k t s r : Int) (n' : SN), n.n - 10 ≤ n'.n → n'.μ = n.μ → n'.lk = n.lk → Nm p q k t s r → Q (six p q k t s r) n') : m_law_numbers [.pen] W n Q := by
  refine run_law_numbers ?_
  unfold b_law_numbers
  walk_at "ev go"
  refine pick_int (fun i => 0 ≤ i ∧ i ≤ 5) (by first | omega | (simp only [SN.sub_n]; omega)) (by simp) (by simp) (by repeat (first | exact all_nil | refine all_cons (by first | omega | (dsimp only; omega)) ?_)) fun k hk => ?_
  walk_at "ev go"
  refine pick_int (fun i => -6 ≤ i ∧ i ≤ 6) (by first | omega | (simp only [SN.sub_n]; omega)) (by simp) (by simp) (by repeat (first | exact all_nil | refine all_cons (by first | omega | (dsimp only; omega)) ?_)) fun k hk => ?_
  walk_at "ev run"
  all_goals
    refine pick_int (fun i => -6 ≤ i ∧ i ≤ 6) (by first | omega | (simp only [SN.sub_n]; omega)) (by simp) (by simp) (by repeat (first | exact all_nil | refine all_cons (by first | omega | (dsimp only; omega)) ?_)) fun r hr => ?_
    exact kk _ _ _ _ _ _ _ (by first | omega | (simp only [SN.sub_n]; omega)) (by rfl) (by rfl) ⟨⟨by omega, by omega, by omega, by omega⟩, by omega, by omega, by omega⟩
theorem rule6b_run {p q k t s r : Int} {b : Bool} {W : XP} {n : SN} {Q : PV → SN → Prop} (h : Nm p q k t s r) (kk : ∀ c fs, Rv c fs p q k → Q (.ins c fs) n) : m_law_rule [six p q k t s r, .bl b] W n Q := by
  refine run_law_rule ?_
  unfold b_law_rule
  have hr := h.r
  cases b
  · walk_at "ev go"
    exact tinit_run h.ru (kk _ _ rv_try)
  · walk_at "ev go"
    refine uinit_run h.ru h.t h.s ?_ (kk _ _ rv_turn)
    split <;> omega
end K29
set_option hygiene false
local macro_rules | `(tactic| walk_at "ev g1") => `(tactic| with_reducible refine isint_run ?_)
local macro_rules | `(tactic| walk_at "ev g1") => `(tactic| with_reducible refine neednumbers_run (by assumption) ?_)
local macro_rules | `(tactic| walk_at "ev g1") => `(tactic| with_reducible refine within_ok (by walk_at "ev sd") ?_)
namespace K29
open PySem L2 Pu
def Wt (p q k : Int) : Nat → Int
  | 0 => 1
  | n + 1 => Wt p q k n + lst p q k (Wt p q k n)
section
variable {p q k : Int}
theorem wt_ge : ∀ n : Nat, (n : Int) + 1 ≤ Wt p q k n
  | 0 => by simp [Wt]
  | n + 1 => by
    have := wt_ge n
    have := lst_pos (p := p) (q := q) (k := k) (x := Wt p q k n)
    show ((n + 1 : Nat) : Int) + 1 ≤ Wt p q k n + lst p q k (Wt p q k n)
    omega
theorem wt_lt (n : Nat) : Wt p q k n < Wt p q k (n + 1) := by
  have := lst_pos (p := p) (q := q) (k := k) (x := Wt p q k n)
  show _ < Wt p q k n + lst p q k (Wt p q k n)
  omega
theorem wt_mono {a b : Nat} (h : a ≤ b) : Wt p q k a ≤ Wt p q k b := by
  induction h with
  | refl => exact Int.le_refl _
  | step _ ih =>
    rename_i m _
    have := wt_lt (p := p) (q := q) (k := k) m
    show _ ≤ Wt p q k (m + 1)
    omega
def Hg (p q k v : Int) (h : Nat) : Prop := Wt p q k h ≤ v ∧ v < Wt p q k (h + 1)
theorem hg_mono {v v' : Int} {a b : Nat} (ha : Hg p q k v a) (hb : Hg p q k v' b) (h : v ≤ v') : a ≤ b := by
  by_cases e : a ≤ b
  · exact e
  · have := wt_mono (p := p) (q := q) (k := k) (show b + 1 ≤ a by omega)
    have := ha.1
    have := hb.2
    omega
theorem hg_uniq {v : Int} {a b : Nat} (ha : Hg p q k v a) (hb : Hg p q k v b) : a = b := Nat.le_antisymm (hg_mono ha hb (Int.le_refl _)) (hg_mono hb ha (Int.le_refl _))
end
def Lo (v : Int) (h : Nat) : Prop := v < 2 ^ h ∧ (h = 0 ∨ (2 : Int) ^ (h - 1) ≤ v)
theorem pow2_mono {a b : Nat} (h : a ≤ b) : (2 : Int) ^ a ≤ 2 ^ b := by
  induction h with
  | refl => exact Int.le_refl _
  | step _ ih =>
    rw [Int.pow_succ]
    have : (0 : Int) < 2 ^ a := Int.pow_pos (by decide)
    omega
theorem lo_mono {v v' : Int} {a b : Nat} (ha : Lo v a) (hb : Lo v' b) (h : v ≤ v') : a ≤ b := by
  by_cases e : a ≤ b
  · exact e
  · rcases ha.2 with h1 | h1
    · omega
    · have := pow2_mono (show b ≤ a - 1 by omega)
      have := hb.1
      omega
theorem lo_uniq {v : Int} {a b : Nat} (ha : Lo v a) (hb : Lo v b) : a = b := Nat.le_antisymm (lo_mono ha hb (Int.le_refl _)) (lo_mono hb ha (Int.le_refl _))
end K29
set_option hygiene false
namespace K29
open PySem L2 Pu
def ir (lo : Int) (k : Nat) : List Int := (List.range k).map fun i : Nat => lo + i
theorem rngP_ir (lo : Int) (k : Nat) : rngP lo k = (ir lo k).map PV.int := by
  unfold rngP ir
  rw [List.map_map]
  rfl
theorem mem_ir {lo x : Int} {k : Nat} : x ∈ ir lo k ↔ (lo ≤ x ∧ x < lo + k) := by
  unfold ir
  rw [List.mem_map]
  constructor
  · rintro ⟨i, hi, rfl⟩
    have := List.mem_range.1 hi
    omega
  · rintro ⟨h1, h2⟩
    exact ⟨(x - lo).toNat, List.mem_range.2 (by omega), by omega⟩
theorem ints_data : ∀ xs : List Int, datas (xs.map PV.int) = some (xs.map PyData.int)
  | [] => rfl
  | x :: xs => by
    simp only [List.map_cons, datas, PV.data, ints_data xs]
theorem ints_can : ∀ xs : List Int, PyData.canLayAll0 (xs.map PyData.int) = true
  | [] => rfl
  | x :: xs => by simp [PyData.canLayAll0, PyData.canLay0, ints_can xs]
theorem ints_depth : ∀ xs : List Int, PyData.depthAll (xs.map PyData.int) = 0
  | [] => rfl
  | x :: xs => by simp [PyData.depthAll, PyData.depth, ints_depth xs]
theorem ints_shaped {xs : List Int} : SeqAt.shaped (.list (xs.map PyData.int)) = true := by
  unfold SeqAt.shaped
  rw [show (PyData.list (xs.map PyData.int)).canLay0 = true from ints_can xs, Bool.true_and]
  refine decide_eq_true ?_
  show PyData.depthAll _ + 1 ≤ 64
  rw [ints_depth]
  omega
end K29
set_option hygiene false
namespace K29
open PySem L2 Pu
inductive Has (p q k : Int) : Int → Nat → Prop
  | leaf : Has p q k 1 0
  | node {a b : Int} {x y : Nat} : Has p q k a x → Has p q k b y → q * a ≤ p * b + k → q * b ≤ p * a + k → Has p q k (a + b) (1 + max x y)
section
variable {p q k : Int}
theorem has_pos {w : Int} {h : Nat} (H : Has p q k w h) : 1 ≤ w := by
  induction H with
  | leaf => decide
  | node _ _ _ _ i j => omega
theorem wt_join (hr : Ru p q k) {a b : Int} {x : Nat} (ha : Wt p q k x ≤ a) (h1 : 1 ≤ b) (hf : q * a ≤ p * b + k) : Wt p q k (x + 1) ≤ a + b := by
  have hq := hr.q1
  have hp := hr.p1
  have h2 : q * Wt p q k x ≤ q * a := Int.mul_le_mul_of_nonneg_left ha (by omega)
  have h3 := lst_least (p := p) (q := q) (k := k) (x := Wt p q k x) (y := b) (by omega) h1 (by omega)
  show Wt p q k x + lst p q k (Wt p q k x) ≤ a + b
  omega
theorem has_wt (hr : Ru p q k) {w : Int} {h : Nat} (H : Has p q k w h) : Wt p q k h ≤ w := by
  induction H with
  | leaf => exact Int.le_refl _
  | @node a b x y A B f g i j =>
    have pa := has_pos A
    have pb := has_pos B
    by_cases e : y ≤ x
    · have := wt_join hr i pb f
      rw [Nat.max_eq_left e, Nat.add_comm]
      exact this
    · have := wt_join hr j pa g
      rw [Nat.max_eq_right (by omega), Nat.add_comm, Int.add_comm]
      exact this
theorem has_small {w : Int} {h : Nat} (H : Has p q k w h) : (h : Int) ≤ w - 1 := by
  induction H with
  | leaf => decide
  | @node a b x y A B f g i j =>
    have pa := has_pos A
    have pb := has_pos B
    have : max x y ≤ x + y := by
      rw [Nat.max_def]
      split <;> omega
    rw [Nat.max_def]
    split <;> omega
theorem pow2_ge : ∀ j : Nat, (j : Int) < 2 ^ j
  | 0 => by decide
  | j + 1 => by
    have := pow2_ge j
    rw [Int.pow_succ]
    omega
theorem has_pow {w : Int} {h : Nat} (H : Has p q k w h) : w ≤ 2 ^ h := by
  induction H with
  | leaf => decide
  | @node a b x y A B f g i j =>
    have h1 := pow2_mono (show x ≤ max x y from Nat.le_max_left ..)
    have h2 := pow2_mono (show y ≤ max x y from Nat.le_max_right ..)
    rw [Nat.add_comm 1, Int.pow_succ]
    omega
theorem hg_ex (w : Int) (hw : 1 ≤ w) : ∃ g, Hg p q k w g := by
  have key : ∀ n : Nat, w < Wt p q k (n + 1) → ∃ g, Hg p q k w g := by
    intro n
    induction n with
    | zero => exact fun h => ⟨0, hw, h⟩
    | succ n ih =>
      intro h
      by_cases e : w < Wt p q k (n + 1)
      · exact ih e
      · exact ⟨n + 1, by omega, h⟩
  refine key w.toNat ?_
  have := wt_ge (p := p) (q := q) (k := k) (w.toNat + 1)
  omega
theorem lo_ex (v : Int) (hv : 0 ≤ v) : ∃ g, Lo v g := by
  have key : ∀ n : Nat, v < 2 ^ n → ∃ g, Lo v g := by
    intro n
    induction n with
    | zero => exact fun h => ⟨0, h, .inl rfl⟩
    | succ n ih =>
      intro h
      by_cases e : v < 2 ^ n
      · exact ih e
      · exact ⟨n + 1, h, .inr (by rw [Nat.add_sub_cancel]; omega)⟩
  refine key v.toNat ?_
  have := pow2_ge v.toNat
  omega
theorem half_fair (hr : Ru p q k) {a b : Int} (h1 : a ≤ b + 1) (hb : 1 ≤ b) : q * a ≤ p * b + k := by
  have hq := hr.q1
  have hp := hr.p1
  have hh := hr.h1
  have e1 : q * a ≤ q * (b + 1) := Int.mul_le_mul_of_nonneg_left h1 (by omega)
  have e2 : (p - q) * 1 ≤ (p - q) * b := Int.mul_le_mul_of_nonneg_left hb (by omega)
  rw [Int.mul_add] at e1
  rw [Int.sub_mul, Int.sub_mul] at e2
  omega
theorem has_lo (hr : Ru p q k) : ∀ (n : Nat) (w : Int) (l : Nat), w.toNat ≤ n → 1 ≤ w → Lo (w - 1) l → Has p q k w l
  | 0, w, l, hn, hw, _ => by omega
  | n + 1, w, l, hn, hw, hl => by
    by_cases e : w = 1
    · subst e
      have : l = 0 := by
        rcases hl.2 with h | h
        · exact h
        · have : (0:Int) < 2 ^ (l-1) := Int.pow_pos (by decide)
          omega
      subst this
      exact .leaf
    · obtain ⟨la, ha⟩ := lo_ex ((w + 1) / 2 - 1) (by omega)
      obtain ⟨lb, hb⟩ := lo_ex (w / 2 - 1) (by omega)
      have A := has_lo hr n ((w + 1) / 2) la (by omega) (by omega) ha
      have B := has_lo hr n (w / 2) lb (by omega) (by omega) hb
      have hab := lo_mono hb ha (by omega)
      have N := Has.node A B (half_fair hr (by omega) (by omega)) (half_fair hr (by omega) (by omega))
      have e1 : (w + 1) / 2 + w / 2 = w := by omega
      have e2 : 1 + max la lb = l := by
        rw [Nat.max_eq_left hab]
        refine lo_uniq (v := w - 1) ⟨?_, .inr ?_⟩ hl
        · rw [Nat.add_comm 1, Int.pow_succ]
          have := ha.1
          omega
        · rw [Nat.add_sub_cancel_left]
          rcases ha.2 with h | h
          · subst h
            omega
          · cases la with
            | zero => omega
            | succ m =>
              rw [Nat.add_sub_cancel] at h
              rw [Int.pow_succ]
              omega
      rw [e1, e2] at N
      exact N
theorem has_hg (hr : Ru p q k) : ∀ (n : Nat) (w : Int) (g : Nat), w.toNat ≤ n → Hg p q k w g → Has p q k w g
  | 0, w, g, hn, hg => by
    have := wt_ge (p := p) (q := q) (k := k) g
    have := hg.1
    omega
  | n + 1, w, 0, hn, hg => by
    have h1 : Wt p q k 0 ≤ w := hg.1
    have h2 : w < Wt p q k 0 + lst p q k (Wt p q k 0) := hg.2
    have e0 : Wt p q k 0 = 1 := rfl
    rw [e0] at h1 h2
    rw [lst_one hr] at h2
    obtain rfl : w = 1 := by omega
    exact .leaf
  | n + 1, w, g + 1, hn, hg => by
    have hq := hr.q1
    have hp := hr.p1
    have w0 := wt_ge (p := p) (q := q) (k := k) g
    have w1 := wt_ge (p := p) (q := q) (k := k) (g + 1)
    have l0 := lst_pos (p := p) (q := q) (k := k) (x := Wt p q k g)
    have lu := lst_up (p := p) (q := q) (k := k) (x := Wt p q k g) (by omega)
    have h1 : Wt p q k g + lst p q k (Wt p q k g) ≤ w := hg.1
    have h2 : w < Wt p q k (g + 1) + lst p q k (Wt p q k (g + 1)) := hg.2
    have h3 := lst_less hr (x := Wt p q k (g + 1)) (by omega)
    have eg : Wt p q k (g + 1) = Wt p q k g + lst p q k (Wt p q k g) := rfl
    have join : ∀ a b : Int, Hg p q k a g → 1 ≤ b → b ≤ a → a + b = w → a < w → q * a ≤ p * b + k → Has p q k w (g + 1) := by
      intro a b ha hb hba e hlt hf
      obtain ⟨gl, hgl⟩ := hg_ex (p := p) (q := q) (k := k) b hb
      have hle := hg_mono hgl ha hba
      have A := has_hg hr n a g (by omega) ha
      have B := has_hg hr n b gl (by omega) hgl
      have f2 : q * b ≤ p * a + k := by
        have h4 : q * b ≤ q * a := Int.mul_le_mul_of_nonneg_left hba (by omega)
        have h5 : p * b ≤ p * a := Int.mul_le_mul_of_nonneg_left hba (by omega)
        omega
      have N := Has.node A B hf f2
      rw [e, Nat.max_eq_left hle, Nat.add_comm] at N
      exact N
    by_cases e : Wt p q k g ≤ (w + 1) / 2
    · exact join ((w + 1) / 2) (w / 2) ⟨e, by omega⟩ (by omega) (by omega) (by omega) (by omega) (half_fair hr (by omega) (by omega))
    · have hb : lst p q k (Wt p q k g) ≤ w - Wt p q k g := by omega
      have h6 : p * lst p q k (Wt p q k g) ≤ p * (w - Wt p q k g) := Int.mul_le_mul_of_nonneg_left hb (by omega)
      exact join (Wt p q k g) (w - Wt p q k g) ⟨Int.le_refl _, by omega⟩ (by omega) (by omega) (by omega) (by omega) (by omega)
def IsRow (p q k w : Int) (l : List Int) : Prop := l.Pairwise (· < ·) ∧ ∀ h : Int, h ∈ l ↔ ∃ j : Nat, h = j ∧ Has p q k w j
theorem last_of : ∀ {l : List Int} {m : Int}, l.Pairwise (· < ·) → m ∈ l → (∀ x ∈ l, x ≤ m) → ∃ r, l = r ++ [m]
  | [], m, _, h, _ => by cases h
  | x :: r, m, hs, hm, hb => by
    by_cases e : m ∈ r
    · obtain ⟨s, rfl⟩ := last_of (List.pairwise_cons.mp hs).2 e fun y hy => hb y (List.mem_cons_of_mem _ hy)
      exact ⟨x :: s, rfl⟩
    · rcases List.mem_cons.mp hm with rfl | h
      · cases r with
        | nil => exact ⟨[], rfl⟩
        | cons y r =>
          have h1 := (List.pairwise_cons.mp hs).1 y List.mem_cons_self
          have h2 := hb y (List.mem_cons_of_mem _ List.mem_cons_self)
          omega
      · exact absurd h e
theorem first_of {l : List Int} {m : Int} (hs : l.Pairwise (· < ·)) (hm : m ∈ l) (hb : ∀ x ∈ l, m ≤ x) : ∃ r, l = m :: r := by
  cases l with
  | nil => cases hm
  | cons x r =>
    rcases List.mem_cons.mp hm with rfl | h
    · exact ⟨r, rfl⟩
    · have h1 := (List.pairwise_cons.mp hs).1 m h
      have h2 := hb x List.mem_cons_self
      omega
theorem row_last (hr : Ru p q k) {w : Int} {l : List Int} {g : Nat} (h : IsRow p q k w l) (hg : Hg p q k w g) : ∃ r, l = r ++ [(g : Int)] := by
  refine last_of h.1 ((h.2 _).mpr ⟨g, rfl, has_hg hr w.toNat w g (Nat.le_refl _) hg⟩) fun x hx => ?_
  obtain ⟨j, rfl, hj⟩ := (h.2 x).mp hx
  have h1 := has_wt hr hj
  have h2 := hg.2
  by_cases e : j ≤ g
  · omega
  · have := wt_mono (p := p) (q := q) (k := k) (show g + 1 ≤ j by omega)
    omega
theorem row_first (hr : Ru p q k) {w : Int} {l : List Int} {g : Nat} (h : IsRow p q k w l) (hw : 1 ≤ w) (hg : Lo (w - 1) g) : ∃ r, l = (g : Int) :: r := by
  refine first_of h.1 ((h.2 _).mpr ⟨g, rfl, has_lo hr w.toNat w g (Nat.le_refl _) hw hg⟩) fun x hx => ?_
  obtain ⟨j, rfl, hj⟩ := (h.2 x).mp hx
  have h1 := has_pow hj
  by_cases e : g ≤ j
  · omega
  · rcases hg.2 with h2 | h2
    · omega
    · have := pow2_mono (show j ≤ g - 1 by omega)
      omega
end
end K29
set_option hygiene false
namespace K29
open PySem L2 Pu
theorem higher_run {p q k x : Int} {c : Str} {fs : List (Str × PV)} {W : XP} {n : SN} {Q : PV → SN → Prop} (h : Ru p q k) (v : Rv c fs p q k) (hx : 1 ≤ x ∧ x ≤ 100000000000000000000000000000000)
    (kk : Q (.int (x + lst p q k x)) n) : m_higher [.ins c fs, .int x] W n Q := by
  have hq := h.q1
  have hp := h.p1
  refine run_higher ?_
  unfold b_higher
  (try walk_at "ev dx")
  rw [v.tm]
  (try walk_at "ev dx")
  rw [v.pl]
  walk_at "ev go"
  exact kk
local macro_rules | `(tactic| walk_at "ev g1") => `(tactic| with_reducible refine higher_run h v (by walk_at "ev sd") ?_)
theorem highest_run {p q k x : Int} {c : Str} {fs : List (Str × PV)} {W : XP} {n : SN} {Q : PV → SN → Prop} (h : Ru p q k) (v : Rv c fs p q k) (hx : 1 ≤ x ∧ x ≤ 10000000000000000000000000000000)
    (kk : ∀ (g : Nat) (b : Int), Hg p q k x g → Q (.tup [.int g, .int b]) n) : m_highest [.ins c fs, .int x] W n Q := by
  refine run_highest ?_
  unfold b_highest
  walk_at "ev go"
  refine while_by (fun env n' => n' = n ∧ ∃ (j : Nat) (b : Int), Wt p q k j ≤ x ∧ env = [.val (.ins c fs), .val (.int x), .val (.int j), .val (.int b), .val (.int (Wt p q k j))]) (fun env => match env with | [_, _, _, _, .val (.int y)] => (x - y).toNat | _ => 0) ⟨rfl, 0, 1, hx.1, rfl⟩ (fun env n' hI N hN => ?_)
  obtain ⟨rfl, j, b, hj, rfl⟩ := hI
  have hw := wt_ge (p := p) (q := q) (k := k) j
  have hl := lst_le h (x := Wt p q k j) (by omega)
  have hl2 := lst_pos (p := p) (q := q) (k := k) (x := Wt p q k j)
  walk_at "ev run"
  · refine hN _ _ ⟨rfl, j + 1, Wt p q k j, ?_, rfl⟩ ?_
    · assumption
    · dsimp only
      omega
  · refine kk _ _ ⟨hj, ?_⟩
    show x < Wt p q k j + lst p q k (Wt p q k j)
    omega
theorem wr_run {c : Str} {fs : List (Str × PV)} {W : XP} {n : SN} {Q : PV → SN → Prop} (hc : c = "TurnRule" ∨ c = "TryRule") (kk : Q .non n) : m_need_weight_rule [.ins c fs] W n Q := by
  refine run_need_weight_rule ?_
  unfold b_need_weight_rule
  rcases hc with rfl | rfl
  all_goals
    walk_at "ev go"
    exact kk
theorem neednumber_run {x m : Int} {W : XP} {n : SN} {Q : PV → SN → Prop} (h : 0 ≤ x ∧ x ≤ m) (k : Q .non n) : m_need_number [.int x, .int m] W n Q := by
  refine run_need_number ?_
  unfold b_need_number
  walk_at "ev go"
  exact k
local macro_rules | `(tactic| walk_at "ev g1") => `(tactic| with_reducible refine neednumber_run (by walk_at "ev sd") ?_)
local macro_rules | `(tactic| walk_at "ev g1") => `(tactic| with_reducible refine wr_run v.cc ?_)
theorem greath_run {p q k x : Int} {g : Nat} {c : Str} {fs : List (Str × PV)} {W : XP} {n : SN} {Q : PV → SN → Prop} (h : Ru p q k) (v : Rv c fs p q k) (hx : 0 ≤ x ∧ x ≤ 1000000000000000000000000000000) (hg : Hg p q k (x + 1) g)
    (kk : Q (.int g) n) : m_greatest_height [.ins c fs, .int x] W n Q := by
  refine run_greatest_height ?_
  unfold b_greatest_height
  walk_at "ev go"
  refine highest_run h v (by omega) fun g1 b hg1 => ?_
  walk_at "ev go"
  rw [hg_uniq hg1 hg]
  exact kk
theorem leasth_run {x : Int} {l : Nat} {W : XP} {n : SN} {Q : PV → SN → Prop} (hx : 0 ≤ x ∧ x ≤ 1000000000000000000000000000000) (hl : Lo x l)
    (kk : Q (.int l) n) : m_least_height [.int x] W n Q := by
  refine run_least_height ?_
  unfold b_least_height
  walk_at "ev go"
  refine while_by (fun env n' => n' = n ∧ ∃ (j : Nat), (j = 0 ∨ (2 : Int) ^ (j - 1) ≤ x) ∧ env = [.val (.int x), .val (.int j), .val (.int (2 ^ j))]) (fun env => match env with | [_, _, .val (.int y)] => (x + 1 - y).toNat | _ => 0) ⟨rfl, 0, .inl rfl, rfl⟩ (fun env n' hI N hN => ?_)
  obtain ⟨rfl, j, hj, rfl⟩ := hI
  have hpos : (0 : Int) < 2 ^ j := Int.pow_pos (by decide)
  walk_at "ev run"
  · refine hN _ _ ⟨rfl, j + 1, .inr (by simpa using (by assumption)), ?_⟩ ?_
    · rw [Int.pow_succ, Int.mul_comm]
      rfl
    · dsimp only
      omega
  · have e := lo_uniq (v := x) (a := j) (b := l) ⟨by omega, hj⟩ hl
    rw [← e] at kk
    exact kk
theorem leastk_run {p q k : Int} {g : Nat} {c : Str} {fs : List (Str × PV)} {W : XP} {n : SN} {Q : PV → SN → Prop} (h : Ru p q k) (v : Rv c fs p q k) (hx : g ≤ 100) (hw : Wt p q k g ≤ 1000)
    (kk : Q (.int (Wt p q k g - 1)) n) : m_least_keys [.ins c fs, .int g] W n Q := by
  refine run_least_keys ?_
  unfold b_least_keys
  walk_at "ev go"
  refine forL_by (fun j env n' => n' = n ∧ ∃ s, env = [.val (.ins c fs), .val (.int g), .val (.int (Wt p q k j)), s]) 0 ⟨rfl, _, rfl⟩ (fun j x env n' hj hI N hN => ?_) (fun env n' hI => ?_)
  · obtain ⟨rfl, s, rfl⟩ := hI
    have hl := (rngP_get hj).1
    have hm := wt_mono (p := p) (q := q) (k := k) (show 0 + j ≤ g by omega)
    have hg := wt_ge (p := p) (q := q) (k := k) (0 + j)
    walk_at "ev go"
    exact hN _ _ ⟨rfl, _, rfl⟩
  · obtain ⟨rfl, s, rfl⟩ := hI
    walk_at "ev go"
    rw [rngP_len]
    have e : 0 + (g : Int).toNat = g := by omega
    have e1 : 0 + ((g : Int) - 0).toNat = g := by omega
    simp only [e, e1]
    exact kk
end K29
set_option hygiene false
local macro_rules | `(tactic| walk_at "ev g1") => `(tactic| with_reducible refine higher_run h v (by walk_at "ev sd") ?_)
local macro_rules | `(tactic| walk_at "ev g1") => `(tactic| with_reducible refine neednumber_run (by walk_at "ev sd") ?_)
local macro_rules | `(tactic| walk_at "ev g1") => `(tactic| with_reducible refine wr_run v.cc ?_)
namespace K29
open PySem L2 Pu
theorem lawtop_run {p q k t s r x : Int} {W : XP} {n : SN} {Q : PV → SN → Prop} (h : Ru p q k) (hx : 0 ≤ x ∧ x ≤ 100000000000000000000000000000000)
    (kk : Q (.int ((p * x + k) / q)) n) : m_law_top [six p q k t s r, .int x] W n Q := by
  have hq := h.q1
  have hp := h.p1
  refine run_law_top ?_
  unfold b_law_top
  walk_at "ev go"
  exact kk
local macro_rules | `(tactic| walk_at "ev g1") => `(tactic| with_reducible refine lawtop_run h (by walk_at "ev sd") ?_)
def fair2 (p q k x y : Int) : Bool := decide (y ≤ (p * x + k) / q) && decide (x ≤ (p * y + k) / q)
theorem fair2_iff {p q k x y : Int} (h : Ru p q k) : fair2 p q k x y = true ↔ q * x ≤ p * y + k ∧ q * y ≤ p * x + k := by
  have hq := h.q1
  unfold fair2
  rw [Bool.and_eq_true, decide_eq_true_eq, decide_eq_true_eq, Int.le_ediv_iff_mul_le (by omega), Int.le_ediv_iff_mul_le (by omega), Int.mul_comm y q, Int.mul_comm x q]
  exact And.comm
theorem iseven_run {p q k t s r x y : Int} {W : XP} {n : SN} {Q : PV → SN → Prop} (h : Ru p q k) (hx : 0 ≤ x ∧ x ≤ 1000) (hy : 0 ≤ y ∧ y ≤ 1000)
    (kk : Q (.bl (fair2 p q k x y)) n) : m_law_is_even [six p q k t s r, .int x, .int y] W n Q := by
  refine run_law_is_even ?_
  unfold b_law_is_even
  unfold fair2 at kk
  walk_at "ev go"
  split
  · rename_i e
    rw [decide_eq_true (by simpa using e), Bool.true_and] at kk
    walk_at "ev go"
    exact kk
  · rename_i e
    rw [decide_eq_false (by simpa using e), Bool.false_and] at kk
    exact kk
def dk (is : List Int) : List (Key × PV) := is.map fun i => (.inl i, .bl true)
def ins (is : List Int) (h : Int) : List Int := if h ∈ is then is else is ++ [h]
theorem dk_any {is : List Int} {h : Int} : ((dk is).any fun kv => decide (kv.1 = (.inl h : Key))) = decide (h ∈ is) := by
  unfold dk
  induction is with
  | nil => simp
  | cons x xs ih =>
    rw [List.map_cons, List.any_cons, ih]
    by_cases e : x = h
    · subst e
      simp
    · have : ¬ ((.inl x : Key) = .inl h) := fun z => e (Sum.inl.inj z)
      have e2 : ¬ h = x := fun z => e z.symm
      simp [this, e2]
theorem dk_put {is : List Int} {h : Int} : putP (dk is) (.inl h) (.bl true) = dk (ins is h) := by
  unfold putP
  rw [dk_any]
  unfold ins
  by_cases e : h ∈ is
  · rw [if_pos (decide_eq_true e), if_pos e]
    unfold dk
    rw [List.map_map]
    refine List.map_congr_left fun x _ => ?_
    simp only [Function.comp]
    split <;> rfl
  · rw [if_neg (by simpa using e), if_neg e]
    simp [dk]
theorem dk_keys {is : List Int} : keysI (dk is) = some is := by
  unfold dk
  induction is with
  | nil => rfl
  | cons x xs ih => rw [List.map_cons, keysI, ih]; rfl
theorem dk_len {is : List Int} : (dk is).length = is.length := by simp [dk]
theorem ints_map : ∀ {is : List Int}, toInts (is.map PV.int) = some is
  | [] => rfl
  | x :: xs => by rw [List.map_cons, toInts, ints_map]; rfl
theorem ins_mem {is : List Int} {h x : Int} : x ∈ ins is h ↔ x ∈ is ∨ x = h := by
  unfold ins
  split
  · rename_i e
    constructor
    · exact .inl
    · rintro (h1 | rfl)
      · exact h1
      · exact e
  · simp
theorem ins_nodup {is : List Int} {h : Int} (hn : is.Nodup) : (ins is h).Nodup := by
  unfold ins
  split
  · exact hn
  · rename_i e
    rw [List.nodup_append]
    refine ⟨hn, by simp, fun a ha b hb => ?_⟩
    rw [List.mem_singleton] at hb
    subst hb
    intro z
    subst z
    exact e ha
theorem few : ∀ (N : Nat) (l : List Int), l.Nodup → (∀ x ∈ l, 0 ≤ x ∧ x < N) → l.length ≤ N
  | 0, l, _, hb => by
    cases l with
    | nil => exact Nat.le_refl _
    | cons x r => have := hb x List.mem_cons_self; omega
  | N + 1, l, hn, hb => by
    have h1 := few N (l.erase N) (hn.erase _) fun x hx => by
      have := (hn.mem_erase_iff).mp hx
      have h2 := hb x this.2
      have h3 : x ≠ (N : Int) := this.1
      omega
    have h2 := List.le_length_erase (a := (N : Int)) (l := l)
    omega
def Sm (is : List Int) : Prop := is.Nodup ∧ ∀ x ∈ is, 0 ≤ x ∧ x < 1000
theorem sm_len {is : List Int} (h : Sm is) : is.length ≤ 1000 := few 1000 is h.1 h.2
theorem sm_ins {is : List Int} {h : Int} (hs : Sm is) (hh : 0 ≤ h ∧ h < 1000) : Sm (ins is h) := by
  refine ⟨ins_nodup hs.1, fun x hx => ?_⟩
  rcases ins_mem.mp hx with h1 | rfl
  · exact hs.2 x h1
  · exact hh
def gy (x : Int) (lb : List Int) (is : List Int) : List Int := lb.foldl (fun is y => ins is (1 + max x y)) is
def gx (la lb : List Int) (is : List Int) : List Int := la.foldl (fun is x => gy x lb is) is
theorem gy_mem {x : Int} : ∀ {lb is : List Int} {h : Int}, h ∈ gy x lb is ↔ h ∈ is ∨ ∃ y ∈ lb, h = 1 + max x y
  | [], is, h => by simp [gy]
  | y :: lb, is, h => by
    show h ∈ gy x lb (ins is (1 + max x y)) ↔ _
    rw [gy_mem, ins_mem]
    simp only [List.mem_cons, exists_eq_or_imp, or_assoc]
theorem gx_mem {lb : List Int} : ∀ {la is : List Int} {h : Int}, h ∈ gx la lb is ↔ h ∈ is ∨ ∃ x ∈ la, ∃ y ∈ lb, h = 1 + max x y
  | [], is, h => by simp [gx]
  | x :: la, is, h => by
    show h ∈ gx la lb (gy x lb is) ↔ _
    rw [gx_mem, gy_mem]
    simp only [List.mem_cons, exists_eq_or_imp, or_assoc]
theorem gy_sm {x : Int} (hx : 0 ≤ x ∧ x < 999) : ∀ {lb is : List Int}, (∀ y ∈ lb, 0 ≤ y ∧ y < 999) → Sm is → Sm (gy x lb is)
  | [], is, _, h => h
  | y :: lb, is, hb, h => by
    refine gy_sm hx (lb := lb) (is := ins is (1 + max x y)) (fun z hz => hb z (List.mem_cons_of_mem _ hz)) (sm_ins h ?_)
    have := hb y List.mem_cons_self
    omega
theorem gx_sm {lb : List Int} (hb : ∀ y ∈ lb, 0 ≤ y ∧ y < 999) : ∀ {la is : List Int}, (∀ y ∈ la, 0 ≤ y ∧ y < 999) → Sm is → Sm (gx la lb is)
  | [], is, _, h => h
  | y :: la, is, ha, h => gx_sm hb (la := la) (fun z hz => ha z (List.mem_cons_of_mem _ hz)) (gy_sm (ha y List.mem_cons_self) hb h)
end K29
set_option hygiene false
local macro_rules | `(tactic| walk_at "ev g1") => `(tactic| with_reducible refine lawtop_run h (by walk_at "ev sd") ?_)
namespace K29
open PySem L2 Pu
def b_put : MS := mPutD 4 (mOp pAdd (mC (.int 1)) (mCB pMax2 (mCons (mCB pInt1 (mCons (mVar 6) mNil)) (mCons (mCB pInt1 (mCons (mVar 7) mNil)) mNil)))) (mC (.bl true))
def b_y : MS := mFor (mList (mIxO 2 (mOp pSub (mVar 3) (mVar 5)))) (mgN 7) b_put
def b_x : MS := mFor (mList (mIxO 2 (mVar 5))) (mgN 6) b_y
def b_l : MS := mFor (mRng2 (mCons (mC (.int 1)) (mCons (mVar 3) mNil))) (mgN 5) (mIfS (mB (mCall 3 m_law_is_even [] (mCons (mVar 0) (mCons (mVar 5) (mCons (mOp pSub (mVar 3) (mVar 5)) mNil))))) b_x mNext)
def b_w : MS := mSeq (mSetOwnD 4) (mSeq b_l (mFreezeD 4 (mApp 2 (mCB pSorted (mCons (mKeysI 4 8) mNil)))))
theorem seen_eq : b_law_seen = (mSeq (mSetOwn 2 (mCons (mLst mNil) (mCons (mLst (mCons (mC (.int 0)) mNil)) mNil)))
  (mSeq (mFor (mRng2 (mCons (mC (.int 2)) (mCons (mOp pAdd (mVar 1) (mC (.int 1))) mNil))) (mgN 3) b_w)
  (mFreeze 2 (mRet (mVar 2))))) := rfl
def rws (R : List (List Int)) : List PV := R.map fun l => .lst (l.map PV.int)
theorem rws_at {R : List (List Int)} {a : Int} {l : List Int} (ha : 0 ≤ a) (h : R[a.toNat]? = some l) : atI (rws R) a = some (.lst (l.map PV.int)) := by
  refine at_nat ha ?_
  unfold rws
  rw [List.getElem?_map, h]
  rfl
section
variable {s0 M : PV} {R : List (List Int)} {w l : Int} {W : PEnv → XP} {D : EndsP} {n : SN}
theorem put_run {x y : Int} {is : List Int} {s8 : Slot} (hl : is.length ≤ 1000) (k : D.nx [.val s0, .val M, .own (rws R), .val (.int w), .odc (dk (ins is (1 + max x y))), .val (.int l), .val (.int x), .val (.int y), s8] n) :
    b_put W D [.val s0, .val M, .own (rws R), .val (.int w), .odc (dk is), .val (.int l), .val (.int x), .val (.int y), s8] n := by
  unfold b_put
  have e : (if y > x then y else x) = max x y := by
    rw [Int.max_def]
    split <;> split <;> omega
  walk_at "ev px"
  rw [e]
  try simp only [PV.key]
  rw [dk_len, dk_put]
  exact ⟨by omega, k⟩
theorem y_run {x : Int} {s8 : Slot} (hx : 0 ≤ x ∧ x < 999) : ∀ (lb is : List Int) (s7 : Slot) (D : EndsP), Sm is → (∀ y ∈ lb, 0 ≤ y ∧ y < 999) →
    (∀ s7', D.nx [.val s0, .val M, .own (rws R), .val (.int w), .odc (dk (gy x lb is)), .val (.int l), .val (.int x), s7', s8] n) →
    forL (fun v W D env n => mgN 7 v env fun env' => b_put W D env' n) (lb.map PV.int) W D [.val s0, .val M, .own (rws R), .val (.int w), .odc (dk is), .val (.int l), .val (.int x), s7, s8] n
  | [], is, s7, D, _, _, k => k s7
  | y :: lb, is, s7, D, hs, hb, k => by
    have hy := hb y List.mem_cons_self
    show b_put W _ [.val s0, .val M, .own (rws R), .val (.int w), .odc (dk is), .val (.int l), .val (.int x), .val (.int y), s8] n
    refine put_run (sm_len hs) ?_
    exact y_run hx lb (ins is (1 + max x y)) (.val (.int y)) D (sm_ins hs (by omega)) (fun z hz => hb z (List.mem_cons_of_mem _ hz)) k
theorem x_run {lb : List Int} {s8 : Slot} (hw : 0 ≤ w - l) (hlb : R[(w - l).toNat]? = some lb) (hb : ∀ y ∈ lb, 0 ≤ y ∧ y < 999) : ∀ (la is : List Int) (s6 s7 : Slot) (D : EndsP), Sm is → (∀ y ∈ la, 0 ≤ y ∧ y < 999) →
    (∀ s6' s7', D.nx [.val s0, .val M, .own (rws R), .val (.int w), .odc (dk (gx la lb is)), .val (.int l), s6', s7', s8] n) →
    forL (fun v W D env n => mgN 6 v env fun env' => b_y W D env' n) (la.map PV.int) W D [.val s0, .val M, .own (rws R), .val (.int w), .odc (dk is), .val (.int l), s6, s7, s8] n
  | [], is, s6, s7, D, _, _, k => k s6 s7
  | x :: la, is, s6, s7, D, hs, ha, k => by
    have hx := ha x List.mem_cons_self
    show b_y W _ [.val s0, .val M, .own (rws R), .val (.int w), .odc (dk is), .val (.int l), .val (.int x), s7, s8] n
    unfold b_y
    walk_at "ev px"
    rw [rws_at hw hlb]
    walk_at "ev px"
    refine y_run hx lb is s7 _ hs hb fun s7' => ?_
    exact x_run hw hlb hb la (gy x lb is) (.val (.int x)) s7' D (gy_sm hx hb hs) (fun z hz => ha z (List.mem_cons_of_mem _ hz)) k
end
def Rows (p q k : Int) (R : List (List Int)) : Prop := ∀ a : Nat, 1 ≤ a → a < R.length → ∃ l, R[a]? = some l ∧ IsRow p q k a l
theorem row_small {p q k w : Int} {l : List Int} (h : IsRow p q k w l) (hw : w ≤ 900) : ∀ y ∈ l, 0 ≤ y ∧ y < 999 := by
  intro y hy
  obtain ⟨j, rfl, hj⟩ := (h.2 y).mp hy
  have := has_small hj
  omega
def Spl (p q k w a h : Int) : Prop := fair2 p q k a (w - a) = true ∧ ∃ x y : Nat, Has p q k a x ∧ Has p q k (w - a) y ∧ h = 1 + max (x : Int) y
theorem spl_has {p q k w h : Int} (hr : Ru p q k) (hw : 2 ≤ w) : (∃ a, 1 ≤ a ∧ a < w ∧ Spl p q k w a h) ↔ ∃ j : Nat, h = j ∧ Has p q k w j := by
  constructor
  · rintro ⟨a, h1, h2, hf, x, y, hx, hy, rfl⟩
    have f := (fair2_iff hr).mp hf
    have N := Has.node hx hy f.1 f.2
    rw [show a + (w - a) = w by omega] at N
    refine ⟨_, ?_, N⟩
    omega
  · rintro ⟨j, rfl, hj⟩
    cases hj with
    | leaf => omega
    | @node a b x y A B f g =>
      have pa := has_pos A
      have pb := has_pos B
      refine ⟨a, pa, by omega, ?_, x, y, A, ?_, ?_⟩
      · rw [show a + b - a = b by omega]
        exact (fair2_iff hr).mpr ⟨f, g⟩
      · rw [show a + b - a = b by omega]
        exact B
      · omega
theorem row_gx {p q k w a : Int} {la lb is : List Int} {h : Int} (ha : IsRow p q k a la) (hb : IsRow p q k (w - a) lb) (hf : fair2 p q k a (w - a) = true) : h ∈ gx la lb is ↔ h ∈ is ∨ Spl p q k w a h := by
  rw [gx_mem]
  refine or_congr Iff.rfl ?_
  constructor
  · rintro ⟨x, hx, y, hy, rfl⟩
    obtain ⟨i, rfl, hi⟩ := (ha.2 x).mp hx
    obtain ⟨j, rfl, hj⟩ := (hb.2 y).mp hy
    exact ⟨hf, i, j, hi, hj, rfl⟩
  · rintro ⟨_, i, j, hi, hj, rfl⟩
    exact ⟨i, (ha.2 _).mpr ⟨i, rfl, hi⟩, j, (hb.2 _).mpr ⟨j, rfl, hj⟩, rfl⟩
theorem l_run {p q k t s r w : Int} {M : PV} {R : List (List Int)} {W : PEnv → XP} {D : EndsP} {n : SN} {s5 s6 s7 s8 : Slot} (hr : Ru p q k) (hw : 2 ≤ w ∧ w ≤ 100) (hR : Rows p q k R) (hl : (R.length : Int) = w)
    (kk : ∀ is s5' s6' s7', Sm is → (∀ h, h ∈ is ↔ ∃ j : Nat, h = j ∧ Has p q k w j) → D.nx [.val (six p q k t s r), .val M, .own (rws R), .val (.int w), .odc (dk is), s5', s6', s7', s8] n) :
    b_l W D [.val (six p q k t s r), .val M, .own (rws R), .val (.int w), .odc (dk []), s5, s6, s7, s8] n := by
  unfold b_l
  walk_at "ev go"
  refine forL_by (fun j env n' => n' = n ∧ ∃ is s5' s6' s7', Sm is ∧ (∀ h, h ∈ is ↔ ∃ a, 1 ≤ a ∧ a < 1 + (j : Int) ∧ Spl p q k w a h) ∧ env = [.val (six p q k t s r), .val M, .own (rws R), .val (.int w), .odc (dk is), s5', s6', s7', s8]) 0 ⟨rfl, [], _, _, _, ⟨by simp, by simp⟩, fun h => ⟨fun z => (by cases z), fun ⟨a, h1, h2, _⟩ => by omega⟩, rfl⟩ (fun j x env n' hj hI N hN => ?_) (fun env n' hI => ?_)
  · obtain ⟨rfl, is, s5', s6', s7', hs, hm, rfl⟩ := hI
    obtain ⟨hj1, rfl⟩ := rngP_get hj
    obtain ⟨la, hla, ra⟩ := hR (1 + j) (by omega) (by omega)
    obtain ⟨lb, hlb, rb⟩ := hR (w - (1 + (j : Int))).toNat (by omega) (by omega)
    rw [show (((w - (1 + (j : Int))).toNat : Nat) : Int) = w - (1 + (j : Int)) by omega] at rb
    have ra' : IsRow p q k (1 + (j : Int)) la := by
      have e : ((1 + j : Nat) : Int) = 1 + (j : Int) := by omega
      rw [← e]
      exact ra
    have hla' : R[(1 + (j : Int)).toNat]? = some la := by
      rw [show (1 + (j : Int)).toNat = 1 + j by omega]
      exact hla
    walk_at "ev go"
    refine iseven_run hr (by omega) (by omega) ?_
    walk_at "ev px"
    split
    · rename_i hf
      unfold b_x
      walk_at "ev px"
      rw [rws_at (by omega) hla']
      walk_at "ev px"
      refine x_run (by omega) hlb (row_small rb (by omega)) la is s6' s7' _ hs (row_small ra' (by omega)) fun s6'' s7'' => ?_
      refine hN _ _ ⟨rfl, _, _, _, _, gx_sm (row_small rb (by omega)) (row_small ra' (by omega)) hs, fun h => ?_, rfl⟩
      rw [row_gx ra' rb hf, hm]
      constructor
      · rintro (⟨a, h1, h2, h3⟩ | h3)
        · exact ⟨a, h1, by omega, h3⟩
        · exact ⟨_, by omega, by omega, h3⟩
      · rintro ⟨a, h1, h2, h3⟩
        by_cases e : a = 1 + (j : Int)
        · subst e
          exact .inr h3
        · exact .inl ⟨a, h1, by omega, h3⟩
    · rename_i hf
      walk_at "ev px"
      refine hN _ _ ⟨rfl, _, _, _, _, hs, fun h => ?_, rfl⟩
      rw [hm]
      constructor
      · rintro ⟨a, h1, h2, h3⟩
        exact ⟨a, h1, by omega, h3⟩
      · rintro ⟨a, h1, h2, h3⟩
        by_cases e : a = 1 + (j : Int)
        · subst e
          exact absurd h3.1 hf
        · exact ⟨a, h1, by omega, h3⟩
  · obtain ⟨rfl, is, s5', s6', s7', hs, hm, rfl⟩ := hI
    refine kk is _ _ _ hs fun h => ?_
    rw [hm, ← spl_has hr hw.1, rngP_len]
    constructor
    · rintro ⟨a, h1, h2, h3⟩
      exact ⟨a, h1, by omega, h3⟩
    · rintro ⟨a, h1, h2, h3⟩
      exact ⟨a, h1, by omega, h3⟩
theorem lt_of_le {js : List Int} (h1 : js.Pairwise (· ≤ ·)) (h2 : js.Nodup) : js.Pairwise (· < ·) := by
  refine (h1.and h2).imp fun {a b} h => ?_
  have h3 : a ≤ b := h.1
  have h4 : a ≠ b := h.2
  omega
theorem w_run {p q k t s r w : Int} {M : PV} {R : List (List Int)} {W : PEnv → XP} {D : EndsP} {n : SN} {s4 s5 s6 s7 s8 : Slot} (hr : Ru p q k) (hw : 2 ≤ w ∧ w ≤ 100) (hR : Rows p q k R) (hl : (R.length : Int) = w)
    (kk : ∀ js s4' s5' s6' s7', Rows p q k (R ++ [js]) → D.nx [.val (six p q k t s r), .val M, .own (rws (R ++ [js])), .val (.int w), s4', s5', s6', s7', s8] n) :
    b_w W D [.val (six p q k t s r), .val M, .own (rws R), .val (.int w), s4, s5, s6, s7, s8] n := by
  unfold b_w
  walk_at "ev px"
  refine l_run hr hw hR hl fun is s5' s6' s7' hs hm => ?_
  have hlen := sm_len hs
  walk_at "ev px"
  rw [dk_keys]
  walk_at "ev px"
  refine ⟨by omega, ?_⟩
  rw [ints_map]
  walk_at "ev px"
  intro js hp hs2
  have hn : js.Nodup := hp.nodup_iff.mpr hs.1
  have hrw : (rws R).length = R.length := by simp [rws]
  refine ⟨by omega, ?_⟩
  have e : rws R ++ [.lst (js.map PV.int)] = rws (R ++ [js]) := by simp [rws]
  rw [e]
  refine kk js _ _ _ _ fun a h1 h2 => ?_
  rw [List.length_append, List.length_singleton] at h2
  by_cases e : a < R.length
  · obtain ⟨l, hl1, hl2⟩ := hR a h1 e
    exact ⟨l, by rw [List.getElem?_append_left e]; exact hl1, hl2⟩
  · obtain rfl : a = R.length := by omega
    refine ⟨js, by simp, lt_of_le hs2 hn, fun h => ?_⟩
    rw [hp.mem_iff, hm, hl]
theorem rows0 {p q k : Int} : Rows p q k [[], [0]] := by
  intro a h1 h2
  have e : a = 1 := by
    have : ([[], [0]] : List (List Int)).length = 2 := rfl
    omega
  subst e
  refine ⟨[0], rfl, by simp, fun h => ?_⟩
  rw [List.mem_singleton]
  constructor
  · rintro rfl
    exact ⟨0, rfl, .leaf⟩
  · rintro ⟨j, rfl, hj⟩
    have := has_small hj
    omega
theorem seen_run {p q k t s r m : Int} {W : XP} {n : SN} {Q : PV → SN → Prop} (hr : Ru p q k) (hm : 2 ≤ m ∧ m ≤ 90)
    (kk : ∀ R, Rows p q k R → (R.length : Int) = m + 1 → Q (.lst (rws R)) n) : m_law_seen [six p q k t s r, .int m] W n Q := by
  refine run_law_seen ?_
  rw [seen_eq]
  walk_at "ev go"
  refine forL_by (fun j env n' => n' = n ∧ ∃ R s3 s4 s5 s6 s7 s8, R.length = 2 + j ∧ Rows p q k R ∧ env = [.val (six p q k t s r), .val (.int m), .own (rws R), s3, s4, s5, s6, s7, s8]) 0 ⟨rfl, [[], [0]], _, _, _, _, _, _, rfl, rows0, rfl⟩ (fun j x env n' hj hI N hN => ?_) (fun env n' hI => ?_)
  · obtain ⟨rfl, R, s3, s4, s5, s6, s7, s8, hl, hR, rfl⟩ := hI
    obtain ⟨hj1, rfl⟩ := rngP_get hj
    walk_at "ev px"
    refine w_run hr (by omega) hR (by omega) fun js s4' s5' s6' s7' hR2 => ?_
    refine hN _ _ ⟨rfl, _, _, _, _, _, _, _, ?_, hR2, rfl⟩
    rw [List.length_append, List.length_singleton]
    omega
  · obtain ⟨rfl, R, s3, s4, s5, s6, s7, s8, hl, hR, rfl⟩ := hI
    walk_at "ev px"
    refine kk R hR ?_
    rw [rngP_len] at hl
    omega
end K29
set_option hygiene false
namespace K29
open PySem L2 Pu
def b_gw : MG := mGSeq (mGY (mOp pSub (mVar 1) (mC (.int 1)))) (mGSeq (mGP (mAsg (mCall 2 m_higher [] (mCons (mVar 0) (mCons (mVar 1) mNil))) (mgN 1))) mGNil)
theorem gen_by {p q k : Int} {c : Str} {fs : List (Str × PV)} (h : Ru p q k) (v : Rv c fs p q k) {G : Nat} (hG : Wt p q k G ≤ 1000) {b : MS} {g : PV → PEnv → (PEnv → Prop) → Prop} {W : PEnv → XP} {D : EndsP} (I : Nat → PEnv → SN → Prop)
    (st : ∀ j env n (N : PEnv → SN → Prop), j ≤ G → I j env n → (j < G → ∀ env' n', I (j + 1) env' n' → N env' n') → g (.int (Wt p q k j - 1)) env fun env2 => b W { D with nx := N, ct := N, bk := D.nx } env2 n) :
    ∀ (d m kk j : Nat) (env : PEnv) (n : SN), j + d = G → d + 1 ≤ m → d ≤ kk → I j env n →
    whM (mB (mOp pGt (mVar 1) (mC (.int 0)))) b_gw Mend m kk [.val (.ins c fs), .val (.int (Wt p q k j))] n (fun n' => D.nx env n') (fun q n2 tr' => g q env fun env2 => b W { D with nx := frM g b W D kk tr', ct := frM g b W D kk tr', bk := D.nx } env2 n2) := by
  intro d
  induction d with
  | zero =>
    intro m kk j env n e hm hk hI
    obtain ⟨m, rfl⟩ : ∃ m', m = m' + 1 := ⟨m - 1, by omega⟩
    have hw := wt_ge (p := p) (q := q) (k := k) j
    unfold whM
    walk_at "ev go"
    unfold b_gw mGSeq mGY
    refine ⟨rfl, ?_⟩
    walk_at "ev go"
    exact st j env n _ (by omega) hI fun hj => by omega
  | succ d ih =>
    intro m kk j env n e hm hk hI
    obtain ⟨m, rfl⟩ : ∃ m', m = m' + 1 := ⟨m - 1, by omega⟩
    obtain ⟨kk, rfl⟩ : ∃ k', kk = k' + 1 := ⟨kk - 1, by omega⟩
    have hw := wt_ge (p := p) (q := q) (k := k) j
    have hm1 := wt_mono (p := p) (q := q) (k := k) (show j ≤ G by omega)
    unfold whM
    walk_at "ev go"
    unfold b_gw mGSeq mGY
    refine ⟨rfl, ?_⟩
    walk_at "ev go"
    refine st j env n _ (by omega) hI fun hj env' n' hI' => ?_
    show mAsg (mCall 2 m_higher [] (mCons (mVar 0) (mCons (mVar 1) mNil))) (mgN 1) (fun _ => W0) _ [.val (.ins c fs), .val (.int (Wt p q k j))] n'
    walk_at "ev go"
    exact ih m kk (j + 1) env' n' (by omega) (by omega) (by omega) hI'
theorem heights_by {p q k : Int} {c : Str} {fs : List (Str × PV)} (h : Ru p q k) (v : Rv c fs p q k) {G : Nat} (hG : Wt p q k G ≤ 1000) {b : MS} {g : PV → PEnv → (PEnv → Prop) → Prop} {W : PEnv → XP} {D : EndsP} (I : Nat → PEnv → SN → Prop) {env : PEnv} {n : SN} (h0 : I 0 env n)
    (st : ∀ j env n (N : PEnv → SN → Prop), j ≤ G → I j env n → (j < G → ∀ env' n', I (j + 1) env' n' → N env' n') → g (.int (Wt p q k j - 1)) env fun env2 => b W { D with nx := N, ct := N, bk := D.nx } env2 n) {X : XP} :
    m_heights [.ins c fs] X G n (fun n' => D.nx env n') (fun q n2 tr' => g q env fun env2 => b W { D with nx := frM g b W D G tr', ct := frM g b W D G tr', bk := D.nx } env2 n2) := by
  refine run_heights ?_
  have key := gen_by h v hG I st G (G + 1) G 0 env n (by omega) (by omega) (by omega) h0
  unfold b_heights
  obtain ⟨Z, eZ⟩ : ∃ Z : PEnv → SN → Prop, Z = fun env' n' => bl_heights Mend G env' n' (fun n' => D.nx env n') (fun q n2 tr' => g q env fun env2 => b W { D with nx := frM g b W D G tr', ct := frM g b W D G tr', bk := D.nx } env2 n2) := ⟨_, rfl⟩
  rw [← eZ]
  walk_at "ev go"
  rw [eZ]
  show mAsg (mC (.int 1)) (mgN 1) (fun _ => W0) _ [.val (.ins c fs), .no] n
  exact ⟨G + 1, key⟩
theorem eqv_int {a b : Int} : PyData.eqv (.int a) (.int b) = decide (a = b) := rfl
theorem in_ints {x : Int} : ∀ {l : List Int}, inV (.int x) (l.map V.int) = decide (x ∈ l)
  | [] => by simp [inV]
  | y :: l => by
    have ih := in_ints (x := x) (l := l)
    unfold inV at ih ⊢
    rw [List.map_cons, List.any_cons, ih]
    have e : eqV (.int y) (.int x) = decide (x = y) := by
      show (y == x) = decide (x = y)
      by_cases h : x = y
      · subst h; simp
      · rw [decide_eq_false h]
        simpa using fun z => h z.symm
    rw [e, ← Bool.decide_or]
    exact decide_eq_decide.mpr List.mem_cons.symm
theorem flts_ints : ∀ {l : List Int}, flts (l.map PV.int) = some (l.map V.int)
  | [] => rfl
  | y :: l => by
    rw [List.map_cons, flts, flts_ints]
    rfl
end K29
set_option hygiene false
namespace K29
open PySem L2 Pu
def b_1 : MS := mIfS (mOr (mB (mOp pNeD (mCall 2 m_greatest_height [] (mCons (mVar 3) (mCons (mOp pSub (mVar 5) (mC (.int 1))) mNil))) (mOp pIxL (mOp pIxL (mVar 4) (mVar 5)) (mUn pNeg (mC (.int 1)))))) (mB (mOp pNeD (mCall 1 m_least_height [] (mCons (mOp pSub (mVar 5) (mC (.int 1))) mNil)) (mOp pIxL (mOp pIxL (mVar 4) (mVar 5)) (mC (.int 0))))))
  (mRet (mC (.bl false)))
  mNext
def b_h : PEnv → M PV := mLc (mRng2 (mCons (mC (.int 1)) (mCons (mOp pAdd (mVar 1) (mC (.int 1))) mNil))) (mgN 5) (mB (mOp (pIn false) (mVar 6) (mOp pIxL (mVar 4) (mVar 5)))) (mVar 5) [5]
def b_j : PEnv → M PV := mLc (mRng2 (mCons (mOp pIxL (mVar 8) (mC (.int 0))) (mCons (mOp pAdd (mVar 1) (mC (.int 1))) mNil))) (mgN 5) (mB (mOp pLt (mOp pIxL (mOp pIxL (mVar 4) (mVar 5)) (mUn pNeg (mC (.int 1)))) (mVar 6))) (mC (.int 1)) [5]
def b_2 : MS := mSeq (mAsg b_h (mgN 8))
  (mSeq (mIfS (mOr (mB (mOp pEqD (mVar 8) (mLst mNil))) (mOr (mB (mOp pNe (mVar 7) (mOp pSub (mOp pIxL (mVar 8) (mC (.int 0))) (mC (.int 1))))) (mB (mOp pNe (mCall 2 m_least_keys [] (mCons (mVar 3) (mCons (mVar 6) mNil))) (mVar 7)))))
  (mRet (mC (.bl false)))
  mNext)
  (mSeq (mIfS (mB (mOp pNeD b_j (mLst mNil)))
  (mRet (mC (.bl false)))
  mNext)
  (mSeq (mIfS (mB (mOp pEqD (mVar 6) (mOp pIxL (mOp pIxL (mVar 4) (mVar 1)) (mUn pNeg (mC (.int 1))))))
  (mRet (mC (.bl true)))
  mNext)
  (mAsg (mOp pAdd (mVar 6) (mC (.int 1))) (mgN 6)))))
theorem right_eq : b_law_right = (mSeq (mAsg (mCall 1 m_law_numbers [] (mCons (mVar 0) mNil)) (mgN 2))
  (mSeq (mAsg (mTup (mCons (mCall 2 m_law_rule [] (mCons (mVar 2) (mCons (mOp pEq (mDraw (mCons (mVar 0) (mCons (mC (.int 2)) mNil))) (mC (.int 0))) mNil))) (mCons (mCall 2 m_law_seen [] (mCons (mVar 2) (mCons (mVar 1) mNil))) mNil))) (mgT 2 (mgCons (mgN 3) (mgCons (mgN 4) mgNil))))
  (mSeq (mFor (mRng2 (mCons (mC (.int 1)) (mCons (mOp pAdd (mVar 1) (mC (.int 1))) mNil))) (mgN 5) b_1)
  (mSeq (mAsg (mC (.int 0)) (mgN 6))
  (mSeq (mForG 1 m_heights (mCons (mVar 3) mNil) (mgN 7) b_2)
  (mRet (mC (.bl false)))))))) := rfl
section
variable {p q k : Int} {c : Str} {fs : List (Str × PV)} {R : List (List Int)} {m : Int} {six : PV} {W : PEnv → XP} {D : EndsP} {n : SN}
theorem rows_get (hR : Rows p q k R) (hl : (R.length : Int) = m + 1) {w : Int} (hw : 1 ≤ w ∧ w ≤ m) : ∃ l, atI (rws R) w = some (.lst (l.map PV.int)) ∧ IsRow p q k w l := by
  obtain ⟨l, h1, h2⟩ := hR w.toNat (by omega) (by omega)
  refine ⟨l, rws_at (by omega) h1, ?_⟩
  rw [show ((w.toNat : Nat) : Int) = w by omega] at h2
  exact h2
theorem row_at_last (hr : Ru p q k) {w : Int} {l : List Int} {g : Nat} (h : IsRow p q k w l) (hg : Hg p q k w g) : atI (l.map PV.int) (-1) = some (.int g) := by
  obtain ⟨r, rfl⟩ := row_last hr h hg
  rw [List.map_append]
  exact at_last
theorem one_run (h : Ru p q k) (v : Rv c fs p q k) (hR : Rows p q k R) (hl : (R.length : Int) = m + 1) (hm : m ≤ 46) {w : Int} (hw : 1 ≤ w ∧ w ≤ m) {s6 s7 s8 : Slot}
    (kk : D.nx [.val .pen, .val (.int m), .val six, .val (.ins c fs), .val (.lst (rws R)), .val (.int w), s6, s7, s8] n) :
    b_1 W D [.val .pen, .val (.int m), .val six, .val (.ins c fs), .val (.lst (rws R)), .val (.int w), s6, s7, s8] n := by
  obtain ⟨l, hat, hrow⟩ := rows_get hR hl hw
  obtain ⟨g, hg⟩ := hg_ex (p := p) (q := q) (k := k) w hw.1
  obtain ⟨e, he⟩ := lo_ex (w - 1) (by omega)
  obtain ⟨r, hr⟩ := row_first h hrow hw.1 he
  unfold b_1
  walk_at "ev go"
  refine greath_run h v (by omega) (by rw [show w - 1 + 1 = w by omega]; exact hg) ?_
  walk_at "ev px"
  rw [hat]
  walk_at "ev px"
  rw [row_at_last h hrow hg]
  walk_at "ev px"
  refine ⟨rfl, rfl, ?_⟩
  rw [if_neg (by rw [eqv_int]; simp)]
  refine leasth_run (by omega) he ?_
  walk_at "ev px"
  rw [hr]
  walk_at "ev px"
  refine ⟨rfl, rfl, ?_⟩
  rw [if_neg (by rw [eqv_int]; simp)]
  exact kk
theorem filt_int {P : Int → Bool} {l : List Int} : (l.map PV.int).filterMap (fun x => match x with | .int i => if P i = true then some (PV.int i) else none | _ => none) = (l.filter P).map PV.int := by
  induction l with
  | nil => rfl
  | cons x xs ih =>
    simp only [List.map_cons, List.filterMap_cons, List.filter_cons]
    by_cases e : P x = true
    · rw [if_pos e, if_pos e, List.map_cons, ih]
    · rw [if_neg e, if_neg e, ih]
theorem ir_lt {lo : Int} : ∀ (n : Nat) , (ir lo n).Pairwise (· < ·) := by
  intro n
  unfold ir
  rw [List.pairwise_map]
  refine List.pairwise_lt_range.imp fun h => by omega
theorem h_run (hR : Rows p q k R) (hl : (R.length : Int) = m + 1) (hm : 0 ≤ m ∧ m ≤ 46) {j : Nat} {s5 s7 s8 : Slot} {X : XP} {Q : PV → SN → Prop}
    (kk : ∀ l : List Int, l.Pairwise (· < ·) → (∀ w, w ∈ l ↔ (1 ≤ w ∧ w ≤ m) ∧ Has p q k w j) → Q (.lst (l.map PV.int)) n) :
    b_h [.val .pen, .val (.int m), .val six, .val (.ins c fs), .val (.lst (rws R)), s5, .val (.int j), s7, s8] X n Q := by
  unfold b_h
  walk_at "ev go"
  rw [rngP_ir, List.length_map]
  refine ⟨by simp [ir]; omega, ?_⟩
  obtain ⟨P, hP⟩ : ∃ P : Int → Bool, ∀ (w : Int) (l : List Int), 1 ≤ w → w ≤ m → atI (rws R) w = some (.lst (l.map PV.int)) → P w = decide ((j : Int) ∈ l) := by
    refine ⟨fun w => (match atI (rws R) w with | some (.lst xs) => (match flts xs with | some vs => inV (.int j) vs | _ => false) | _ => false), fun w l _ _ e => ?_⟩
    dsimp only
    rw [e]
    dsimp only
    rw [flts_ints]
    exact in_ints
  refine lc_pure (fun x => match x with | .int i => if P i = true then some (PV.int i) else none | _ => none) (fun x hx Z hZ => ?_) ?_
  · obtain ⟨w, hw, rfl⟩ := List.mem_map.mp hx
    rw [mem_ir] at hw
    obtain ⟨l, hat, hrow⟩ := rows_get hR hl (w := w) (by omega)
    have e := hP w l (by omega) (by omega) hat
    walk_at "ev px"
    rw [hat]
    walk_at "ev px"
    rw [flts_ints]
    walk_at "ev px"
    rw [show ((l.map V.int).any fun y => eqV y (V.int (j : Int))) = decide ((j : Int) ∈ l) from in_ints]
    dsimp only at hZ
    rw [e] at hZ
    split
    · rename_i e2
      rw [if_pos e2] at hZ
      exact hZ
    · rename_i e2
      rw [if_neg e2] at hZ
      exact hZ
  · rw [filt_int]
    refine kk _ ((ir_lt _).filter _) fun w => ?_
    rw [List.mem_filter, mem_ir]
    constructor
    · rintro ⟨h1, h2⟩
      obtain ⟨l, hat, hrow⟩ := rows_get hR hl (w := w) (by omega)
      rw [hP w l (by omega) (by omega) hat, decide_eq_true_eq, hrow.2] at h2
      obtain ⟨i, e, hi⟩ := h2
      obtain rfl : j = i := by omega
      exact ⟨by omega, hi⟩
    · rintro ⟨h1, h2⟩
      obtain ⟨l, hat, hrow⟩ := rows_get hR hl (w := w) (by omega)
      refine ⟨by omega, ?_⟩
      rw [hP w l (by omega) (by omega) hat, decide_eq_true_eq, hrow.2]
      exact ⟨j, rfl, h2⟩
theorem j_run (h : Ru p q k) (hR : Rows p q k R) (hl : (R.length : Int) = m + 1) (hm : 1 ≤ m ∧ m ≤ 46) {j : Nat} {w0 : Int} {r : List Int} (hw0 : w0 = Wt p q k j) (hb : w0 ≤ 1000) {s5 s7 : Slot} {X : XP} {Q : PV → SN → Prop}
    (kk : Q (.lst []) n) :
    b_j [.val .pen, .val (.int m), .val six, .val (.ins c fs), .val (.lst (rws R)), s5, .val (.int j), s7, .val (.lst ((w0 :: r).map PV.int))] X n Q := by
  have hge := wt_ge (p := p) (q := q) (k := k) j
  unfold b_j
  walk_at "ev go"
  rw [rngP_ir, List.length_map]
  refine ⟨by simp [ir]; omega, ?_⟩
  refine lc_pure (fun _ => none) (fun x hx Z hZ => ?_) ?_
  · obtain ⟨w, hw, rfl⟩ := List.mem_map.mp hx
    rw [mem_ir] at hw
    obtain ⟨l, hat, hrow⟩ := rows_get hR hl (w := w) (by omega)
    obtain ⟨g, hg⟩ := hg_ex (p := p) (q := q) (k := k) w (by omega)
    have hj : j ≤ g := hg_mono (p := p) (q := q) (k := k) (v := w0) ⟨by omega, by have := wt_lt (p := p) (q := q) (k := k) j; omega⟩ hg (by omega)
    walk_at "ev px"
    rw [hat]
    walk_at "ev px"
    rw [row_at_last h hrow hg]
    walk_at "ev px"
    rw [if_neg (by omega)]
    exact hZ
  · have e : ((ir w0 (m + 1 - w0).toNat).map PV.int).filterMap (fun _ => (none : Option PV)) = [] := by
      induction (ir w0 (m + 1 - w0).toNat).map PV.int with
      | nil => rfl
      | cons x xs ih => rw [List.filterMap_cons]; exact ih
    rw [e]
    exact kk
end
end K29
set_option hygiene false
namespace K29
open PySem L2 Pu
section
variable {p q k : Int} {c : Str} {fs : List (Str × PV)} {R : List (List Int)} {m : Int} {six : PV} {W : PEnv → XP} {D : EndsP} {n : SN}
theorem two_run (h : Ru p q k) (v : Rv c fs p q k) (hR : Rows p q k R) (hl : (R.length : Int) = m + 1) (hm : 1 ≤ m ∧ m ≤ 46) {G : Nat} (hG : Hg p q k m G) {j : Nat} (hj : j ≤ G) {s5 s8 : Slot}
    (hend : j = G → D.rt (.bl true) n)
    (kk : j < G → ∀ s5 s7 s8, D.nx [.val .pen, .val (.int m), .val six, .val (.ins c fs), .val (.lst (rws R)), s5, .val (.int ((j + 1 : Nat) : Int)), s7, s8] n) :
    b_2 W D [.val .pen, .val (.int m), .val six, .val (.ins c fs), .val (.lst (rws R)), s5, .val (.int j), .val (.int (Wt p q k j - 1)), s8] n := by
  have hwj := wt_mono (p := p) (q := q) (k := k) hj
  have hge := wt_ge (p := p) (q := q) (k := k) j
  have hG1 := hG.1
  have hgG := wt_ge (p := p) (q := q) (k := k) G
  obtain ⟨lm, hat, hrow⟩ := rows_get hR hl (w := m) (by omega)
  unfold b_2
  obtain ⟨B, eB⟩ : ∃ B, B = b_j := ⟨_, rfl⟩
  rw [← eB]
  walk_at "ev px"
  refine h_run hR hl (by omega) fun l hp hmem => ?_
  have hw0 : Has p q k (Wt p q k j) j := by
    refine has_hg h _ _ _ (Nat.le_refl _) ⟨Int.le_refl _, ?_⟩
    exact wt_lt (p := p) (q := q) (k := k) j
  obtain ⟨r, rfl⟩ := first_of hp ((hmem (Wt p q k j)).mpr ⟨by omega, hw0⟩) fun x hx => has_wt h ((hmem x).mp hx).2
  walk_at "ev px"
  rw [ints_data]
  walk_at "ev px"
  refine ⟨?_, rfl, ?_⟩
  · exact ints_shaped (xs := Wt p q k j :: r)
  rw [if_neg (by rw [show PyData.eqv (.list (.int (Wt p q k j) :: r.map PyData.int)) (.list []) = false from rfl]; decide)]
  walk_at "ev px"
  refine leastk_run h v (by omega) (by omega) ?_
  walk_at "ev px"
  rw [eB]
  refine j_run h hR hl hm (r := r) rfl (by omega) ?_
  walk_at "ev px"
  refine ⟨rfl, rfl, ?_⟩
  rw [if_neg (by rw [show PyData.eqv (.list []) (.list []) = true from rfl]; decide)]
  walk_at "ev px"
  rw [hat]
  walk_at "ev px"
  rw [row_at_last h hrow hG]
  walk_at "ev px"
  refine ⟨rfl, rfl, ?_⟩
  rw [eqv_int]
  by_cases e : j = G
  · rw [if_pos (by rw [e]; simp)]
    exact hend e
  · rw [if_neg (by simp; omega)]
    have := kk (by omega)
    have e2 : ((j + 1 : Nat) : Int) = (j : Int) + 1 := by omega
    rw [e2] at this
    walk_at "ev px"
    exact this _ _ _
end
theorem right_run {m : Int} {W : XP} {n : SN} {Q : PV → SN → Prop} (hn : 100 ≤ n.n) (hm : 2 ≤ m ∧ m ≤ 46) (kk : ∀ n', n.n - 60 ≤ n'.n → Q (.bl true) n') : m_law_right [.pen, .int m] W n Q := by
  refine run_law_right ?_
  rw [right_eq]
  obtain ⟨B1, e1⟩ : ∃ B, B = b_1 := ⟨_, rfl⟩
  obtain ⟨B2, e2⟩ : ∃ B, B = mForG 1 m_heights (mCons (mVar 3) mNil) (mgN 7) b_2 := ⟨_, rfl⟩
  rw [← e1, ← e2]
  walk_at "ev px"
  refine numbers_run (by omega) fun p q k t s r n1 hn1 _ _ hnm => ?_
  have h := hnm.ru
  walk_at "ev go"
  refine rule6b_run hnm fun c fs v => ?_
  walk_at "ev px"
  refine seen_run h (by omega) fun R hR hl => ?_
  walk_at "ev go"
  obtain ⟨n2, en2⟩ : ∃ n2, n2 = n1 - 1 := ⟨_, rfl⟩
  have hn2 : n.n - 60 ≤ n2.n := by rw [en2]; simp only [SN.sub_n]; omega
  rw [← en2]
  refine forL_by (fun i env n' => n' = n2 ∧ ∃ s5, env = [.val .pen, .val (.int m), .val (six p q k t s r), .val (.ins c fs), .val (.lst (rws R)), s5, .no, .no, .no]) 0 ⟨rfl, _, rfl⟩ (fun i x env n' hi hI N hN => ?_) (fun env n' hI => ?_)
  · obtain ⟨rfl, s5, rfl⟩ := hI
    obtain ⟨h1, rfl⟩ := rngP_get hi
    walk_at "ev px"
    rw [e1]
    exact one_run h v hR hl (by omega) (by omega) (hN _ _ ⟨rfl, _, rfl⟩)
  · obtain ⟨rfl, s5, rfl⟩ := hI
    obtain ⟨G, hG⟩ := hg_ex (p := p) (q := q) (k := k) m (by omega)
    have hG1 := hG.1
    walk_at "ev px"
    rw [e2]
    show ([PV.ins c fs] : List PV).length = 1 ∧ ∃ k, m_heights [.ins c fs] _ k n' _ _
    refine ⟨rfl, G, ?_⟩
    refine heights_by h v (by omega) (fun j env n3 => n3 = n' ∧ ∃ s5 s7 s8, env = [.val .pen, .val (.int m), .val (six p q k t s r), .val (.ins c fs), .val (.lst (rws R)), s5, .val (.int j), s7, s8]) ⟨rfl, _, _, _, rfl⟩ ?_
    intro j env n3 N hj hI hN
    obtain ⟨rfl, s5, s7, s8, rfl⟩ := hI
    show b_2 _ _ [.val .pen, .val (.int m), .val (six p q k t s r), .val (.ins c fs), .val (.lst (rws R)), s5, .val (.int j), .val (.int (Wt p q k j - 1)), s8] n3
    exact two_run h v hR hl (by omega) hG hj (fun _ => kk _ hn2) fun hlt s5 s7 s8 => hN hlt _ _ ⟨rfl, _, _, _, rfl⟩
theorem law_pure : LawPure := by
  unfold LawPure b_law
  walk_at "ev go"
  refine forL_by (fun i env n => 90000 - 200 * i ≤ n.n ∧ ∃ v2, env = [.no, .val .pen, v2]) 0 ⟨by first | omega | exact Nat.le_refl _ | decide, _, rfl⟩ (fun i x env n hi hI N hN => ?_) (fun env n hI => ?_)
  · obtain ⟨hn, v2, rfl⟩ := hI
    have hi6 : i < 3 := by
      have := (List.getElem?_eq_some_iff.mp hi).1
      rw [rngP_len] at this
      exact this
    walk_at "ev go"
    refine right_run (by first | omega | (simp only [SN.sub_n]; omega)) (by omega) fun n' hn' => ?_
    walk_at "ev px"
    refine hN _ _ ⟨?_, _, rfl⟩
    simp only [SN.sub_n] at hn'
    omega
  · obtain ⟨hn, v2, rfl⟩ := hI
    walk_at "ev go"
end K29
namespace K29
end K29
namespace K29
open PySem
theorem s2_Rule_Rule : subs "Rule" "Rule" = true := by decide +kernel
theorem s2_Rule_WeightRule : subs "Rule" "WeightRule" = false := by decide +kernel
theorem s2_Rule_TurnRule : subs "Rule" "TurnRule" = false := by decide +kernel
theorem s2_Rule_TryRule : subs "Rule" "TryRule" = false := by decide +kernel
theorem s2_WeightRule_Rule : subs "WeightRule" "Rule" = true := by decide +kernel
theorem s2_WeightRule_WeightRule : subs "WeightRule" "WeightRule" = true := by decide +kernel
theorem s2_WeightRule_TurnRule : subs "WeightRule" "TurnRule" = false := by decide +kernel
theorem s2_WeightRule_TryRule : subs "WeightRule" "TryRule" = false := by decide +kernel
theorem s2_TurnRule_Rule : subs "TurnRule" "Rule" = true := by decide +kernel
theorem s2_TurnRule_WeightRule : subs "TurnRule" "WeightRule" = true := by decide +kernel
theorem s2_TurnRule_TurnRule : subs "TurnRule" "TurnRule" = true := by decide +kernel
theorem s2_TurnRule_TryRule : subs "TurnRule" "TryRule" = false := by decide +kernel
theorem s2_TryRule_Rule : subs "TryRule" "Rule" = true := by decide +kernel
theorem s2_TryRule_WeightRule : subs "TryRule" "WeightRule" = true := by decide +kernel
theorem s2_TryRule_TurnRule : subs "TryRule" "TurnRule" = false := by decide +kernel
theorem s2_TryRule_TryRule : subs "TryRule" "TryRule" = true := by decide +kernel
end K29
namespace K29
open PySem L2 Pu
theorem all_mk {l : PySem.W.OpenLaw} {w : World} {K : PySem.W.Frag} {h : Heap} {mg : Str → Option Value} {fa : Addr} (pure : LawPure) (X : K.In h) (G : h.Ns mainGlobals mg) (hfa : mg "law" = some (.ref fa))
    {C_Rule C_WeightRule C_TurnRule C_TryRule X_BadRule X_NoHalves X_BadNumber X_BadText X_FairError : Addr}
    {tk0 : Tok}
    {tk1 : Tok}
    {tk2 : Tok}
    {tk3 : Tok}
    {tk4 : Tok}
    {tkc0 : Tok}
    {nm_BadRule qn_BadRule : Str} {N_BadRule : Addr} {bs_BadRule bm_BadRule : List Value} {sn_BadRule : List Str} {sub_BadRule : List Value} {ab_BadRule : Bool} {col_BadRule : Option Bool} {dd_BadRule : Option Addr} {k0_BadRule k1_BadRule k2_BadRule k3_BadRule k5_BadRule : Option Value}
    {nm_NoHalves qn_NoHalves : Str} {N_NoHalves : Addr} {bs_NoHalves bm_NoHalves : List Value} {sn_NoHalves : List Str} {sub_NoHalves : List Value} {ab_NoHalves : Bool} {col_NoHalves : Option Bool} {dd_NoHalves : Option Addr} {k0_NoHalves k1_NoHalves k2_NoHalves k3_NoHalves k5_NoHalves : Option Value}
    {nm_BadNumber qn_BadNumber : Str} {N_BadNumber : Addr} {bs_BadNumber bm_BadNumber : List Value} {sn_BadNumber : List Str} {sub_BadNumber : List Value} {ab_BadNumber : Bool} {col_BadNumber : Option Bool} {dd_BadNumber : Option Addr} {k0_BadNumber k1_BadNumber k2_BadNumber k3_BadNumber k5_BadNumber : Option Value}
    {nm_BadText qn_BadText : Str} {N_BadText : Addr} {bs_BadText bm_BadText : List Value} {sn_BadText : List Str} {sub_BadText : List Value} {ab_BadText : Bool} {col_BadText : Option Bool} {dd_BadText : Option Addr} {k0_BadText k1_BadText k2_BadText k3_BadText k5_BadText : Option Value}
    {f_draw : Addr} {od_draw an_draw : Option Addr} {sl_draw : Array (Option Value)} {oc_draw kV_draw dc_draw pm_draw cd_draw ct_draw : Value}
    {f_pen : Addr} {od_pen an_pen : Option Addr} {sl_pen : Array (Option Value)} {oc_pen kV_pen dc_pen pm_pen cd_pen ct_pen : Value}
    {f_law_pick : Addr} {od_law_pick an_law_pick : Option Addr} {sl_law_pick : Array (Option Value)} {oc_law_pick kV_law_pick dc_law_pick pm_law_pick cd_law_pick ct_law_pick : Value}
    {f_law_numbers : Addr} {od_law_numbers an_law_numbers : Option Addr} {sl_law_numbers : Array (Option Value)} {oc_law_numbers kV_law_numbers dc_law_numbers pm_law_numbers cd_law_numbers ct_law_numbers : Value}
    {f_is_integer : Addr} {od_is_integer an_is_integer : Option Addr} {sl_is_integer : Array (Option Value)} {oc_is_integer kV_is_integer dc_is_integer pm_is_integer cd_is_integer ct_is_integer : Value}
    {f_is_within : Addr} {od_is_within an_is_within : Option Addr} {sl_is_within : Array (Option Value)} {oc_is_within kV_is_within dc_is_within pm_is_within cd_is_within ct_is_within : Value}
    {f_is_times : Addr} {od_is_times an_is_times : Option Addr} {sl_is_times : Array (Option Value)} {oc_is_times kV_is_times dc_is_times pm_is_times cd_is_times ct_is_times : Value}
    {f_need_plus : Addr} {od_need_plus an_need_plus : Option Addr} {sl_need_plus : Array (Option Value)} {oc_need_plus kV_need_plus dc_need_plus pm_need_plus cd_need_plus ct_need_plus : Value}
    {f_WeightRule_need_numbers p_WeightRule_need_numbers : Addr} {od_WeightRule_need_numbers an_WeightRule_need_numbers : Option Addr} {sl_WeightRule_need_numbers : Array (Option Value)} {oc_WeightRule_need_numbers kV_WeightRule_need_numbers dc_WeightRule_need_numbers pm_WeightRule_need_numbers cd_WeightRule_need_numbers ct_WeightRule_need_numbers : Value} {rs_WeightRule_need_numbers : List Value}
    {f_WeightRule_beside : Addr} {od_WeightRule_beside an_WeightRule_beside : Option Addr} {sl_WeightRule_beside : Array (Option Value)} {oc_WeightRule_beside kV_WeightRule_beside dc_WeightRule_beside pm_WeightRule_beside cd_WeightRule_beside ct_WeightRule_beside : Value}
    {f_WeightRule_init : Addr} {od_WeightRule_init an_WeightRule_init : Option Addr} {sl_WeightRule_init : Array (Option Value)} {oc_WeightRule_init kV_WeightRule_init dc_WeightRule_init pm_WeightRule_init cd_WeightRule_init ct_WeightRule_init : Value}
    {f_TurnRule_init ca_TurnRule_init cc_TurnRule_init : Addr} {od_TurnRule_init an_TurnRule_init cdd_TurnRule_init cld_TurnRule_init : Option Addr} {sl_TurnRule_init ccs_TurnRule_init csl_TurnRule_init : Array (Option Value)} {oc_TurnRule_init dc_TurnRule_init pm_TurnRule_init ct_TurnRule_init ccl_TurnRule_init cl_TurnRule_init : Value} {cvs_TurnRule_init : Array Value} {fl_TurnRule_init : Str} {tf_TurnRule_init : Tok} {cdD_TurnRule_init : ClassData}
    {DT_TurnRule_init : Addr}
    {DK_TurnRule_init : Addr}
    {f_TryRule_init ca_TryRule_init cc_TryRule_init : Addr} {od_TryRule_init an_TryRule_init cdd_TryRule_init cld_TryRule_init : Option Addr} {sl_TryRule_init ccs_TryRule_init csl_TryRule_init : Array (Option Value)} {oc_TryRule_init dc_TryRule_init pm_TryRule_init ct_TryRule_init ccl_TryRule_init cl_TryRule_init kV_TryRule_init : Value} {cvs_TryRule_init : Array Value} {fl_TryRule_init : Str} {tf_TryRule_init : Tok} {cdD_TryRule_init : ClassData}
    {DT_TryRule_init : Addr}
    {f_law_rule : Addr} {od_law_rule an_law_rule : Option Addr} {sl_law_rule : Array (Option Value)} {oc_law_rule kV_law_rule dc_law_rule pm_law_rule cd_law_rule ct_law_rule : Value}
    {f_law_top : Addr} {od_law_top an_law_top : Option Addr} {sl_law_top : Array (Option Value)} {oc_law_top kV_law_top dc_law_top pm_law_top cd_law_top ct_law_top : Value}
    {f_law_is_even : Addr} {od_law_is_even an_law_is_even : Option Addr} {sl_law_is_even : Array (Option Value)} {oc_law_is_even kV_law_is_even dc_law_is_even pm_law_is_even cd_law_is_even ct_law_is_even : Value}
    {f_law_seen : Addr} {od_law_seen an_law_seen : Option Addr} {sl_law_seen : Array (Option Value)} {oc_law_seen kV_law_seen dc_law_seen pm_law_seen cd_law_seen ct_law_seen : Value}
    {f_need_number : Addr} {od_need_number an_need_number : Option Addr} {sl_need_number : Array (Option Value)} {oc_need_number kV_need_number dc_need_number pm_need_number cd_need_number ct_need_number : Value}
    {f_least_height : Addr} {od_least_height an_least_height : Option Addr} {sl_least_height : Array (Option Value)} {oc_least_height kV_least_height dc_least_height pm_least_height cd_least_height ct_least_height : Value}
    {f_need_weight_rule : Addr} {od_need_weight_rule an_need_weight_rule : Option Addr} {sl_need_weight_rule : Array (Option Value)} {oc_need_weight_rule kV_need_weight_rule dc_need_weight_rule pm_need_weight_rule cd_need_weight_rule ct_need_weight_rule : Value}
    {f_higher : Addr} {od_higher an_higher : Option Addr} {sl_higher : Array (Option Value)} {oc_higher kV_higher dc_higher pm_higher cd_higher ct_higher : Value}
    {f_highest : Addr} {od_highest an_highest : Option Addr} {sl_highest : Array (Option Value)} {oc_highest kV_highest dc_highest pm_highest cd_highest ct_highest : Value}
    {f_greatest_height : Addr} {od_greatest_height an_greatest_height : Option Addr} {sl_greatest_height : Array (Option Value)} {oc_greatest_height kV_greatest_height dc_greatest_height pm_greatest_height cd_greatest_height ct_greatest_height : Value}
    {f_heights : Addr} {od_heights an_heights : Option Addr} {sl_heights : Array (Option Value)} {oc_heights kV_heights dc_heights pm_heights cd_heights ct_heights : Value}
    {f_least_keys : Addr} {od_least_keys an_least_keys : Option Addr} {sl_least_keys : Array (Option Value)} {oc_least_keys kV_least_keys dc_least_keys pm_least_keys cd_least_keys ct_least_keys : Value}
    {f_law_right : Addr} {od_law_right an_law_right : Option Addr} {sl_law_right : Array (Option Value)} {oc_law_right kV_law_right dc_law_right pm_law_right cd_law_right ct_law_right : Value}
    {f_BadRule_init : Addr} {od_BadRule_init an_BadRule_init : Option Addr} {sl_BadRule_init : Array (Option Value)} {oc_BadRule_init kV_BadRule_init dc_BadRule_init pm_BadRule_init cd_BadRule_init ct_BadRule_init : Value}
    {f_NoHalves_init : Addr} {od_NoHalves_init an_NoHalves_init : Option Addr} {sl_NoHalves_init : Array (Option Value)} {oc_NoHalves_init kV_NoHalves_init dc_NoHalves_init pm_NoHalves_init cd_NoHalves_init ct_NoHalves_init : Value}
    {f_BadNumber_init : Addr} {od_BadNumber_init an_BadNumber_init : Option Addr} {sl_BadNumber_init : Array (Option Value)} {oc_BadNumber_init kV_BadNumber_init dc_BadNumber_init pm_BadNumber_init cd_BadNumber_init ct_BadNumber_init : Value}
    {f_law : Addr} {od_law an_law : Option Addr} {sl_law : Array (Option Value)} {oc_law kV_law dc_law pm_law cd_law ct_law : Value}
    {oT_TurnRule_init : Option Addr} {nT_TurnRule_init : Nat} {slT_TurnRule_init : Array (Option Value)}
    {u_TurnRule_init_0 : Tok}
    {u_TurnRule_init_50 : Tok}
    {oT_TryRule_init : Option Addr} {nT_TryRule_init : Nat} {slT_TryRule_init : Array (Option Value)}
    {u_TryRule_init_0 : Tok}
    (y1 : PySem.W.nsIn K mainGlobals "int" = some none)
    (y2 : PySem.W.nsIn K mainGlobals "abs" = some none)
    (y3 : PySem.W.nsIn K mainGlobals "len" = some none)
    (y4 : PySem.W.nsIn K mainGlobals "list" = some none)
    (y5 : PySem.W.nsIn K mainGlobals "range" = some none)
    (y6 : PySem.W.nsIn K mainGlobals "max" = some none)
    (y7 : PySem.W.nsIn K mainGlobals "isinstance" = some none)
    (y8 : PySem.W.nsIn K mainGlobals "bool" = some none)
    (y9 : PySem.W.nsIn K mainGlobals "all" = some none)
    (y10 : PySem.W.nsIn K mainGlobals "tuple" = some none)
    (y11 : PySem.W.nsIn K mainGlobals "sorted" = some none)
    (y12 : PySem.W.nsIn K mainGlobals "Rule" = some (some (.ref C_Rule)))
    (y13 : PySem.W.plainGet K C_Rule Str.empty = true)
    (y14 : PySem.W.hasDictIn K C_Rule = true)
    (y15 : PySem.W.plainOver K C_Rule = true)
    (y16 : PySem.W.findIn K (.ref C_Rule) "__setattr__" = some (some (.builtin "object.__setattr__")))
    (y17 : PySem.W.findIn K (.ref C_Rule) "__class__" = some (some (.builtin "object.__class__")))
    (y18 : PySem.W.specialIn K (.builtin "object.__class__") "__get__" = some (some (.builtin "getset_descriptor.__get__")))
    (y19 : PySem.W.takesIn K (.builtin "object.__class__") = some true)
    (y20 : PySem.W.mroIn K C_Rule (.type "object") = some true)
    (y21 : PySem.W.isClsIn K C_Rule = true)
    (y22 : PySem.W.typeIn K (.ref C_Rule) = some (.type "type"))
    (y23 : PySem.W.nsIn K mainGlobals "WeightRule" = some (some (.ref C_WeightRule)))
    (y24 : PySem.W.plainGet K C_WeightRule Str.empty = true)
    (y25 : PySem.W.hasDictIn K C_WeightRule = true)
    (y26 : PySem.W.plainOver K C_WeightRule = true)
    (y27 : PySem.W.findIn K (.ref C_WeightRule) "__setattr__" = some (some (.builtin "object.__setattr__")))
    (y28 : PySem.W.findIn K (.ref C_WeightRule) "__class__" = some (some (.builtin "object.__class__")))
    (y29 : PySem.W.specialIn K (.builtin "object.__class__") "__get__" = some (some (.builtin "getset_descriptor.__get__")))
    (y30 : PySem.W.takesIn K (.builtin "object.__class__") = some true)
    (y31 : PySem.W.mroIn K C_WeightRule (.type "object") = some true)
    (y32 : PySem.W.isClsIn K C_WeightRule = true)
    (y33 : PySem.W.typeIn K (.ref C_WeightRule) = some (.type "type"))
    (y34 : PySem.W.nsIn K mainGlobals "TurnRule" = some (some (.ref C_TurnRule)))
    (y35 : PySem.W.plainGet K C_TurnRule Str.empty = true)
    (y36 : PySem.W.hasDictIn K C_TurnRule = true)
    (y37 : PySem.W.plainOver K C_TurnRule = true)
    (y38 : PySem.W.findIn K (.ref C_TurnRule) "__setattr__" = some (some (.builtin "object.__setattr__")))
    (y39 : PySem.W.findIn K (.ref C_TurnRule) "__class__" = some (some (.builtin "object.__class__")))
    (y40 : PySem.W.specialIn K (.builtin "object.__class__") "__get__" = some (some (.builtin "getset_descriptor.__get__")))
    (y41 : PySem.W.takesIn K (.builtin "object.__class__") = some true)
    (y42 : PySem.W.mroIn K C_TurnRule (.type "object") = some true)
    (y43 : PySem.W.isClsIn K C_TurnRule = true)
    (y44 : PySem.W.typeIn K (.ref C_TurnRule) = some (.type "type"))
    (y45 : PySem.W.nsIn K mainGlobals "TryRule" = some (some (.ref C_TryRule)))
    (y46 : PySem.W.plainGet K C_TryRule Str.empty = true)
    (y47 : PySem.W.hasDictIn K C_TryRule = true)
    (y48 : PySem.W.plainOver K C_TryRule = true)
    (y49 : PySem.W.findIn K (.ref C_TryRule) "__setattr__" = some (some (.builtin "object.__setattr__")))
    (y50 : PySem.W.findIn K (.ref C_TryRule) "__class__" = some (some (.builtin "object.__class__")))
    (y51 : PySem.W.specialIn K (.builtin "object.__class__") "__get__" = some (some (.builtin "getset_descriptor.__get__")))
    (y52 : PySem.W.takesIn K (.builtin "object.__class__") = some true)
    (y53 : PySem.W.mroIn K C_TryRule (.type "object") = some true)
    (y54 : PySem.W.isClsIn K C_TryRule = true)
    (y55 : PySem.W.typeIn K (.ref C_TryRule) = some (.type "type"))
    (y56 : PySem.W.mroIn K C_TryRule (.ref C_Rule) = some true)
    (y57 : PySem.W.mroIn K C_Rule (.ref C_Rule) = some true)
    (y58 : PySem.W.mroIn K C_TurnRule (.ref C_Rule) = some true)
    (y59 : PySem.W.mroIn K C_WeightRule (.ref C_Rule) = some true)
    (y60 : PySem.W.mroIn K C_TryRule (.ref C_WeightRule) = some true)
    (y61 : PySem.W.mroIn K C_WeightRule (.ref C_WeightRule) = some true)
    (y62 : PySem.W.mroIn K C_TurnRule (.ref C_WeightRule) = some true)
    (y63 : PySem.W.mroIn K C_Rule (.ref C_WeightRule) = some false)
    (y64 : PySem.W.mroIn K C_TryRule (.ref C_TurnRule) = some false)
    (y65 : PySem.W.mroIn K C_TurnRule (.ref C_TurnRule) = some true)
    (y66 : PySem.W.mroIn K C_WeightRule (.ref C_TurnRule) = some false)
    (y67 : PySem.W.mroIn K C_Rule (.ref C_TurnRule) = some false)
    (y68 : PySem.W.findIn K (.ref C_TurnRule) "__ne__" = some (some (.builtin "object.__ne__")))
    (y69 : PySem.W.mroIn K C_TurnRule (.ref C_TryRule) = some false)
    (y70 : PySem.W.mroIn K C_TryRule (.ref C_TryRule) = some true)
    (y71 : PySem.W.mroIn K C_WeightRule (.ref C_TryRule) = some false)
    (y72 : PySem.W.mroIn K C_Rule (.ref C_TryRule) = some false)
    (y73 : PySem.W.findIn K (.ref C_TryRule) "__ne__" = some (some (.builtin "object.__ne__")))
    (y74 : PySem.W.mroIn K C_Rule (.type "NoneType") = some false)
    (y75 : PySem.W.mroIn K C_Rule (.type "bool") = some false)
    (y76 : PySem.W.mroIn K C_Rule (.type "int") = some false)
    (y77 : PySem.W.mroIn K C_Rule (.type "str") = some false)
    (y78 : PySem.W.mroIn K C_Rule (.type "list") = some false)
    (y79 : PySem.W.mroIn K C_Rule (.type "tuple") = some false)
    (y80 : PySem.W.mroIn K C_Rule (.type "dict") = some false)
    (y81 : PySem.W.mroIn K C_WeightRule (.type "NoneType") = some false)
    (y82 : PySem.W.mroIn K C_WeightRule (.type "bool") = some false)
    (y83 : PySem.W.mroIn K C_WeightRule (.type "int") = some false)
    (y84 : PySem.W.mroIn K C_WeightRule (.type "str") = some false)
    (y85 : PySem.W.mroIn K C_WeightRule (.type "list") = some false)
    (y86 : PySem.W.mroIn K C_WeightRule (.type "tuple") = some false)
    (y87 : PySem.W.mroIn K C_WeightRule (.type "dict") = some false)
    (y88 : PySem.W.mroIn K C_TurnRule (.type "NoneType") = some false)
    (y89 : PySem.W.mroIn K C_TurnRule (.type "bool") = some false)
    (y90 : PySem.W.mroIn K C_TurnRule (.type "int") = some false)
    (y91 : PySem.W.mroIn K C_TurnRule (.type "str") = some false)
    (y92 : PySem.W.mroIn K C_TurnRule (.type "list") = some false)
    (y93 : PySem.W.mroIn K C_TurnRule (.type "tuple") = some false)
    (y94 : PySem.W.mroIn K C_TurnRule (.type "dict") = some false)
    (y95 : PySem.W.mroIn K C_TryRule (.type "NoneType") = some false)
    (y96 : PySem.W.mroIn K C_TryRule (.type "bool") = some false)
    (y97 : PySem.W.mroIn K C_TryRule (.type "int") = some false)
    (y98 : PySem.W.mroIn K C_TryRule (.type "str") = some false)
    (y99 : PySem.W.mroIn K C_TryRule (.type "list") = some false)
    (y100 : PySem.W.mroIn K C_TryRule (.type "tuple") = some false)
    (y101 : PySem.W.mroIn K C_TryRule (.type "dict") = some false)
    (y102 : PySem.W.findIn K (.ref C_TryRule) "turn" = some none)
    (y103 : PySem.W.findIn K (.ref C_TurnRule) "turn" = some none)
    (y104 : PySem.W.findIn K (.ref C_WeightRule) "turn" = some none)
    (y105 : PySem.W.findIn K (.ref C_Rule) "turn" = some none)
    (y106 : PySem.W.findIn K (.ref C_TryRule) "turn_plus" = some none)
    (y107 : PySem.W.findIn K (.ref C_TurnRule) "turn_plus" = some none)
    (y108 : PySem.W.findIn K (.ref C_WeightRule) "turn_plus" = some none)
    (y109 : PySem.W.findIn K (.ref C_Rule) "turn_plus" = some none)
    (y110 : PySem.W.findIn K (.ref C_TryRule) "times" = some none)
    (y111 : PySem.W.findIn K (.ref C_TurnRule) "times" = some none)
    (y112 : PySem.W.findIn K (.ref C_WeightRule) "times" = some none)
    (y113 : PySem.W.findIn K (.ref C_Rule) "times" = some none)
    (y114 : PySem.W.findIn K (.ref C_TryRule) "plus" = some none)
    (y115 : PySem.W.findIn K (.ref C_TurnRule) "plus" = some none)
    (y116 : PySem.W.findIn K (.ref C_WeightRule) "plus" = some none)
    (y117 : PySem.W.findIn K (.ref C_Rule) "plus" = some none)
    (y118 : PySem.W.nsIn K mainGlobals "MOST_PLUS" = some (some (.int (6) tk0)))
    (y119 : PySem.W.nsIn K mainGlobals "MOST_TURN" = some (some (.int (8) tk1)))
    (y120 : PySem.W.nsIn K mainGlobals "MOST_WEIGHT" = some (some (.int (1000000000000000000000000000000000000000000000000000000000000) tk2)))
    (y121 : PySem.W.nsIn K mainGlobals "MOST_HEIGHT" = some (some (.int (1000) tk3)))
    (y122 : PySem.W.nsIn K mainGlobals "MOST_KEYS" = some (some (.int (1000000000000000000000000000000) tk4)))
    (y123 : PySem.W.readsIn K C_WeightRule (.type "type") = true)
    (y124 : PySem.W.specialIn K (.ref C_WeightRule) "__getattribute__" = some (some (.builtin "type.__getattribute__")))
    (y125 : PySem.W.findCls K (.ref C_WeightRule) (.type "type") "MOST" = some (.val (.int (6) tkc0)))
    (y126 : PySem.W.nsIn K mainGlobals "BadRule" = some (some (.ref X_BadRule)))
    (y127 : PySem.W.subIn K (.ref X_BadRule) (.type "BaseException") = some true)
    (y128 : PySem.W.hasDictIn K X_BadRule = true)
    (y129 : PySem.W.typeIn K (.ref X_BadRule) = some (.type "type"))
    (y130 : PySem.W.nsIn K mainGlobals "NoHalves" = some (some (.ref X_NoHalves)))
    (y131 : PySem.W.subIn K (.ref X_NoHalves) (.type "BaseException") = some true)
    (y132 : PySem.W.hasDictIn K X_NoHalves = true)
    (y133 : PySem.W.typeIn K (.ref X_NoHalves) = some (.type "type"))
    (y134 : PySem.W.nsIn K mainGlobals "BadNumber" = some (some (.ref X_BadNumber)))
    (y135 : PySem.W.subIn K (.ref X_BadNumber) (.type "BaseException") = some true)
    (y136 : PySem.W.hasDictIn K X_BadNumber = true)
    (y137 : PySem.W.typeIn K (.ref X_BadNumber) = some (.type "type"))
    (y138 : PySem.W.nsIn K mainGlobals "BadText" = some (some (.ref X_BadText)))
    (y139 : PySem.W.subIn K (.ref X_BadText) (.type "BaseException") = some true)
    (y140 : PySem.W.hasDictIn K X_BadText = true)
    (y141 : PySem.W.typeIn K (.ref X_BadText) = some (.type "type"))
    (y142 : PySem.W.nsIn K mainGlobals "FairError" = some (some (.ref X_FairError)))
    (y143 : PySem.W.subIn K (.ref X_FairError) (.type "BaseException") = some true)
    (y144 : PySem.W.hasDictIn K X_FairError = true)
    (y145 : PySem.W.typeIn K (.ref X_FairError) = some (.type "type"))
    (y146 : K.lookup X_BadRule = some (excClassObj nm_BadRule qn_BadRule X_BadRule N_BadRule bs_BadRule bm_BadRule true sn_BadRule sub_BadRule ab_BadRule col_BadRule dd_BadRule k0_BadRule k1_BadRule k2_BadRule k3_BadRule k5_BadRule "ValueError.__new__"))
    (y147 : PySem.HandSPX.refsVE bm_BadRule = true)
    (y148 : PySem.W.keepIn K (.ref X_BadRule) = true)
    (y149 : PySem.W.findIn K (.ref X_BadRule) "__setattr__" = some (some (.builtin "object.__setattr__")))
    (y150 : K.lookup X_NoHalves = some (excClassObj nm_NoHalves qn_NoHalves X_NoHalves N_NoHalves bs_NoHalves bm_NoHalves true sn_NoHalves sub_NoHalves ab_NoHalves col_NoHalves dd_NoHalves k0_NoHalves k1_NoHalves k2_NoHalves k3_NoHalves k5_NoHalves "ValueError.__new__"))
    (y151 : PySem.HandSPX.refsVE bm_NoHalves = true)
    (y152 : PySem.W.keepIn K (.ref X_NoHalves) = true)
    (y153 : PySem.W.findIn K (.ref X_NoHalves) "__setattr__" = some (some (.builtin "object.__setattr__")))
    (y154 : K.lookup X_BadNumber = some (excClassObj nm_BadNumber qn_BadNumber X_BadNumber N_BadNumber bs_BadNumber bm_BadNumber true sn_BadNumber sub_BadNumber ab_BadNumber col_BadNumber dd_BadNumber k0_BadNumber k1_BadNumber k2_BadNumber k3_BadNumber k5_BadNumber "ValueError.__new__"))
    (y155 : PySem.HandSPX.refsVE bm_BadNumber = true)
    (y156 : PySem.W.keepIn K (.ref X_BadNumber) = true)
    (y157 : PySem.W.findIn K (.ref X_BadNumber) "__setattr__" = some (some (.builtin "object.__setattr__")))
    (y158 : K.lookup X_BadText = some (excClassObj nm_BadText qn_BadText X_BadText N_BadText bs_BadText bm_BadText true sn_BadText sub_BadText ab_BadText col_BadText dd_BadText k0_BadText k1_BadText k2_BadText k3_BadText k5_BadText "ValueError.__new__"))
    (y159 : PySem.HandSPX.refsVE bm_BadText = true)
    (y160 : PySem.W.keepIn K (.ref X_BadText) = true)
    (y161 : PySem.W.findIn K (.ref X_BadText) "__setattr__" = some (some (.builtin "object.__setattr__")))
    (y162 : PySem.W.findIn K (.ref X_BadText) "__getattribute__" = some (some (.builtin "BaseException.__getattribute__")))
    (y163 : PySem.W.findIn K (.ref X_BadText) "__getattr__" = some none)
    (y164 : PySem.W.findIn K (.ref X_BadText) "__class__" = some (some (.builtin "object.__class__")))
    (y165 : PySem.W.specialIn K (.builtin "object.__class__") "__get__" = some (some (.builtin "getset_descriptor.__get__")))
    (y166 : PySem.W.takesIn K (.builtin "object.__class__") = some true)
    (y167 : PySem.W.mroIn K X_BadText (.type "object") = some true)
    (y168 : PySem.W.findIn K (.ref X_BadNumber) "__getattribute__" = some (some (.builtin "BaseException.__getattribute__")))
    (y169 : PySem.W.findIn K (.ref X_BadNumber) "__getattr__" = some none)
    (y170 : PySem.W.findIn K (.ref X_BadNumber) "__class__" = some (some (.builtin "object.__class__")))
    (y171 : PySem.W.specialIn K (.builtin "object.__class__") "__get__" = some (some (.builtin "getset_descriptor.__get__")))
    (y172 : PySem.W.takesIn K (.builtin "object.__class__") = some true)
    (y173 : PySem.W.mroIn K X_BadNumber (.type "object") = some true)
    (y174 : PySem.W.findIn K (.ref X_NoHalves) "__getattribute__" = some (some (.builtin "BaseException.__getattribute__")))
    (y175 : PySem.W.findIn K (.ref X_NoHalves) "__getattr__" = some none)
    (y176 : PySem.W.findIn K (.ref X_NoHalves) "__class__" = some (some (.builtin "object.__class__")))
    (y177 : PySem.W.specialIn K (.builtin "object.__class__") "__get__" = some (some (.builtin "getset_descriptor.__get__")))
    (y178 : PySem.W.takesIn K (.builtin "object.__class__") = some true)
    (y179 : PySem.W.mroIn K X_NoHalves (.type "object") = some true)
    (y180 : PySem.W.findIn K (.ref X_BadRule) "__getattribute__" = some (some (.builtin "BaseException.__getattribute__")))
    (y181 : PySem.W.findIn K (.ref X_BadRule) "__getattr__" = some none)
    (y182 : PySem.W.findIn K (.ref X_BadRule) "__class__" = some (some (.builtin "object.__class__")))
    (y183 : PySem.W.specialIn K (.builtin "object.__class__") "__get__" = some (some (.builtin "getset_descriptor.__get__")))
    (y184 : PySem.W.takesIn K (.builtin "object.__class__") = some true)
    (y185 : PySem.W.mroIn K X_BadRule (.type "object") = some true)
    (y186 : PySem.W.subIn K (.ref X_BadText) (.type "StopIteration") = some false)
    (y187 : PySem.W.subIn K (.ref X_BadNumber) (.type "StopIteration") = some false)
    (y188 : PySem.W.subIn K (.ref X_NoHalves) (.type "StopIteration") = some false)
    (y189 : PySem.W.subIn K (.ref X_BadRule) (.type "StopIteration") = some false)
    (y190 : PySem.W.findIn K (.ref X_BadText) "part" = some none)
    (y191 : PySem.W.findIn K (.ref X_BadNumber) "part" = some none)
    (y192 : PySem.W.findIn K (.ref X_NoHalves) "part" = some none)
    (y193 : PySem.W.findIn K (.ref X_BadRule) "part" = some none)
    (y194 : PySem.W.findIn K (.ref X_BadText) "value" = some none)
    (y195 : PySem.W.findIn K (.ref X_BadNumber) "value" = some none)
    (y196 : PySem.W.findIn K (.ref X_NoHalves) "value" = some none)
    (y197 : PySem.W.findIn K (.ref X_BadRule) "value" = some none)
    (y198 : PySem.W.findIn K (.ref X_BadText) "weight" = some none)
    (y199 : PySem.W.findIn K (.ref X_BadNumber) "weight" = some none)
    (y200 : PySem.W.findIn K (.ref X_NoHalves) "weight" = some none)
    (y201 : PySem.W.findIn K (.ref X_BadRule) "weight" = some none)
    (y202 : PySem.W.nsIn K mainGlobals "_law_draw" = some (some (.ref f_draw)))
    (y203 : K.lookup f_draw = some ⟨oc_draw, od_draw, .func (PySem.W.fnOf "_law_draw" "_law_draw" (C8.fnArgs (top 38)) (C8.fnBody (top 38)) (C8.fnScope (top 38)) .none kV_draw dc_draw pm_draw an_draw cd_draw ct_draw), sl_draw⟩)
    (y204 : PySem.W.codeIn K cd_draw "_law_draw" = true)
    (y205 : PySem.W.keepIn K (.ref f_draw) = true)
    (y206 : PySem.W.nsIn K mainGlobals "_law_pen" = some (some (.ref f_pen)))
    (y207 : K.lookup f_pen = some ⟨oc_pen, od_pen, .func (PySem.W.fnOf "_law_pen" "_law_pen" (C8.fnArgs (top 37)) (C8.fnBody (top 37)) (C8.fnScope (top 37)) .none kV_pen dc_pen pm_pen an_pen cd_pen ct_pen), sl_pen⟩)
    (y208 : PySem.W.codeIn K cd_pen "_law_pen" = true)
    (y209 : PySem.W.keepIn K (.ref f_pen) = true)
    (y210 : PySem.W.nsIn K mainGlobals "_law_pick" = some (some (.ref f_law_pick)))
    (y211 : K.lookup f_law_pick = some ⟨oc_law_pick, od_law_pick, .func (PySem.W.fnOf "_law_pick" "_law_pick" (C8.fnArgs (top 39)) (C8.fnBody (top 39)) (C8.fnScope (top 39)) .none kV_law_pick dc_law_pick pm_law_pick an_law_pick cd_law_pick ct_law_pick), sl_law_pick⟩)
    (y212 : PySem.W.codeIn K cd_law_pick "_law_pick" = true)
    (y213 : PySem.W.keepIn K (.ref f_law_pick) = true)
    (y214 : PySem.W.nsIn K mainGlobals "_law_numbers" = some (some (.ref f_law_numbers)))
    (y215 : K.lookup f_law_numbers = some ⟨oc_law_numbers, od_law_numbers, .func (PySem.W.fnOf "_law_numbers" "_law_numbers" (C8.fnArgs (top 40)) (C8.fnBody (top 40)) (C8.fnScope (top 40)) .none kV_law_numbers dc_law_numbers pm_law_numbers an_law_numbers cd_law_numbers ct_law_numbers), sl_law_numbers⟩)
    (y216 : PySem.W.codeIn K cd_law_numbers "_law_numbers" = true)
    (y217 : PySem.W.keepIn K (.ref f_law_numbers) = true)
    (y218 : PySem.W.nsIn K mainGlobals "is_integer" = some (some (.ref f_is_integer)))
    (y219 : K.lookup f_is_integer = some ⟨oc_is_integer, od_is_integer, .func (PySem.W.fnOf "is_integer" "is_integer" (C8.fnArgs (top 7)) (C8.fnBody (top 7)) (C8.fnScope (top 7)) .none kV_is_integer dc_is_integer pm_is_integer an_is_integer cd_is_integer ct_is_integer), sl_is_integer⟩)
    (y220 : PySem.W.codeIn K cd_is_integer "is_integer" = true)
    (y221 : PySem.W.keepIn K (.ref f_is_integer) = true)
    (y222 : PySem.W.nsIn K mainGlobals "is_within" = some (some (.ref f_is_within)))
    (y223 : K.lookup f_is_within = some ⟨oc_is_within, od_is_within, .func (PySem.W.fnOf "is_within" "is_within" (C8.fnArgs (top 8)) (C8.fnBody (top 8)) (C8.fnScope (top 8)) .none kV_is_within dc_is_within pm_is_within an_is_within cd_is_within ct_is_within), sl_is_within⟩)
    (y224 : PySem.W.codeIn K cd_is_within "is_within" = true)
    (y225 : PySem.W.keepIn K (.ref f_is_within) = true)
    (y226 : PySem.W.nsIn K mainGlobals "is_times" = some (some (.ref f_is_times)))
    (y227 : K.lookup f_is_times = some ⟨oc_is_times, od_is_times, .func (PySem.W.fnOf "is_times" "is_times" (C8.fnArgs (top 14)) (C8.fnBody (top 14)) (C8.fnScope (top 14)) .none kV_is_times dc_is_times pm_is_times an_is_times cd_is_times ct_is_times), sl_is_times⟩)
    (y228 : PySem.W.codeIn K cd_is_times "is_times" = true)
    (y229 : PySem.W.keepIn K (.ref f_is_times) = true)
    (y230 : PySem.W.nsIn K mainGlobals "need_plus" = some (some (.ref f_need_plus)))
    (y231 : K.lookup f_need_plus = some ⟨oc_need_plus, od_need_plus, .func (PySem.W.fnOf "need_plus" "need_plus" (C8.fnArgs (top 15)) (C8.fnBody (top 15)) (C8.fnScope (top 15)) .none kV_need_plus dc_need_plus pm_need_plus an_need_plus cd_need_plus ct_need_plus), sl_need_plus⟩)
    (y232 : PySem.W.codeIn K cd_need_plus "need_plus" = true)
    (y233 : PySem.W.keepIn K (.ref f_need_plus) = true)
    (y234 : PySem.W.findIn K (.ref C_WeightRule) "need_numbers" = some (some (.ref p_WeightRule_need_numbers)))
    (y235 : PySem.W.recIn K p_WeightRule_need_numbers "staticmethod" = some (.ref f_WeightRule_need_numbers :: rs_WeightRule_need_numbers))
    (y236 : K.lookup f_WeightRule_need_numbers = some ⟨oc_WeightRule_need_numbers, od_WeightRule_need_numbers, .func (PySem.W.fnOf "need_numbers" "WeightRule.need_numbers" (C8.fnArgs (inClass (top 17) 2)) (C8.fnBody (inClass (top 17) 2)) (C8.fnScope (inClass (top 17) 2)) .none kV_WeightRule_need_numbers dc_WeightRule_need_numbers pm_WeightRule_need_numbers an_WeightRule_need_numbers cd_WeightRule_need_numbers ct_WeightRule_need_numbers), sl_WeightRule_need_numbers⟩)
    (y237 : PySem.W.codeIn K cd_WeightRule_need_numbers "WeightRule.need_numbers" = true)
    (y238 : PySem.W.keepIn K (.ref f_WeightRule_need_numbers) = true)
    (y239 : PySem.W.typeIn K (.ref p_WeightRule_need_numbers) = some (.type "staticmethod"))
    (y240 : PySem.W.specialIn K (.ref p_WeightRule_need_numbers) "__get__" = some (some (.builtin "staticmethod.__get__")))
    (y241 : PySem.W.takesIn K (.ref p_WeightRule_need_numbers) = some false)
    (y242 : PySem.W.findIn K (.ref C_WeightRule) "beside" = some (some (.ref f_WeightRule_beside)))
    (y243 : K.lookup f_WeightRule_beside = some ⟨oc_WeightRule_beside, od_WeightRule_beside, .func (PySem.W.fnOf "beside" "WeightRule.beside" (C8.fnArgs (inClass (top 17) 4)) (C8.fnBody (inClass (top 17) 4)) (C8.fnScope (inClass (top 17) 4)) .none kV_WeightRule_beside dc_WeightRule_beside pm_WeightRule_beside an_WeightRule_beside cd_WeightRule_beside ct_WeightRule_beside), sl_WeightRule_beside⟩)
    (y244 : PySem.W.codeIn K cd_WeightRule_beside "WeightRule.beside" = true)
    (y245 : PySem.W.keepIn K (.ref f_WeightRule_beside) = true)
    (y246 : PySem.W.isFn K (.ref f_WeightRule_beside) = true)
    (y247 : PySem.W.findIn K (.ref C_WeightRule) "__init__" = some (some (.ref f_WeightRule_init)))
    (y248 : K.lookup f_WeightRule_init = some ⟨oc_WeightRule_init, od_WeightRule_init, .func (PySem.W.fnOf "__init__" "WeightRule.__init__" (C8.fnArgs (inClass (top 17) 1)) (C8.fnBody (inClass (top 17) 1)) (C8.fnScope (inClass (top 17) 1)) .none kV_WeightRule_init dc_WeightRule_init pm_WeightRule_init an_WeightRule_init cd_WeightRule_init ct_WeightRule_init), sl_WeightRule_init⟩)
    (y249 : PySem.W.codeIn K cd_WeightRule_init "WeightRule.__init__" = true)
    (y250 : PySem.W.keepIn K (.ref f_WeightRule_init) = true)
    (y251 : PySem.W.isFn K (.ref f_WeightRule_init) = true)
    (y252 : PySem.W.findIn K (.ref C_TurnRule) "__init__" = some (some (.ref f_TurnRule_init)))
    (y253 : K.lookup f_TurnRule_init = some ⟨oc_TurnRule_init, od_TurnRule_init, .func (PySem.W.ksFn "__init__" "TurnRule.__init__" (C8.fnArgs (inClass (top 18) 0)) (C8.fnBody (inClass (top 18) 0)) (C8.fnScope (inClass (top 18) 0)) (.ref DT_TurnRule_init) (.ref DK_TurnRule_init) dc_TurnRule_init pm_TurnRule_init an_TurnRule_init (.ref ca_TurnRule_init) ct_TurnRule_init cc_TurnRule_init), sl_TurnRule_init⟩)
    (y254 : PySem.W.codeIn K (.ref ca_TurnRule_init) "TurnRule.__init__" = true)
    (y255 : PySem.W.keepIn K (.ref f_TurnRule_init) = true)
    (y256 : PySem.W.isFn K (.ref f_TurnRule_init) = true)
    (y257 : K.lookup ca_TurnRule_init = some ⟨ccl_TurnRule_init, cdd_TurnRule_init, .fields cvs_TurnRule_init, ccs_TurnRule_init⟩)
    (y258 : cvs_TurnRule_init[2]? = some (.str fl_TurnRule_init tf_TurnRule_init))
    (y259 : ((l.prog.main.file : Str) == fl_TurnRule_init) = true)
    (y260 : K.lookup cc_TurnRule_init = some ⟨cl_TurnRule_init, cld_TurnRule_init, .cell (some (.ref C_TurnRule)), csl_TurnRule_init⟩)
    (y261 : PySem.W.clsIn K C_TurnRule = some cdD_TurnRule_init)
    (y262 : PySem.W.findIn K (.ref C_TryRule) "__init__" = some (some (.ref f_TryRule_init)))
    (y263 : K.lookup f_TryRule_init = some ⟨oc_TryRule_init, od_TryRule_init, .func (PySem.W.ksFn "__init__" "TryRule.__init__" (C8.fnArgs (inClass (top 19) 0)) (C8.fnBody (inClass (top 19) 0)) (C8.fnScope (inClass (top 19) 0)) (.ref DT_TryRule_init) kV_TryRule_init dc_TryRule_init pm_TryRule_init an_TryRule_init (.ref ca_TryRule_init) ct_TryRule_init cc_TryRule_init), sl_TryRule_init⟩)
    (y264 : PySem.W.codeIn K (.ref ca_TryRule_init) "TryRule.__init__" = true)
    (y265 : PySem.W.keepIn K (.ref f_TryRule_init) = true)
    (y266 : PySem.W.isFn K (.ref f_TryRule_init) = true)
    (y267 : K.lookup ca_TryRule_init = some ⟨ccl_TryRule_init, cdd_TryRule_init, .fields cvs_TryRule_init, ccs_TryRule_init⟩)
    (y268 : cvs_TryRule_init[2]? = some (.str fl_TryRule_init tf_TryRule_init))
    (y269 : ((l.prog.main.file : Str) == fl_TryRule_init) = true)
    (y270 : K.lookup cc_TryRule_init = some ⟨cl_TryRule_init, cld_TryRule_init, .cell (some (.ref C_TryRule)), csl_TryRule_init⟩)
    (y271 : PySem.W.clsIn K C_TryRule = some cdD_TryRule_init)
    (y272 : PySem.W.nsIn K mainGlobals "_law_rule" = some (some (.ref f_law_rule)))
    (y273 : K.lookup f_law_rule = some ⟨oc_law_rule, od_law_rule, .func (PySem.W.fnOf "_law_rule" "_law_rule" (C8.fnArgs (top 41)) (C8.fnBody (top 41)) (C8.fnScope (top 41)) .none kV_law_rule dc_law_rule pm_law_rule an_law_rule cd_law_rule ct_law_rule), sl_law_rule⟩)
    (y274 : PySem.W.codeIn K cd_law_rule "_law_rule" = true)
    (y275 : PySem.W.keepIn K (.ref f_law_rule) = true)
    (y276 : PySem.W.nsIn K mainGlobals "_law_top" = some (some (.ref f_law_top)))
    (y277 : K.lookup f_law_top = some ⟨oc_law_top, od_law_top, .func (PySem.W.fnOf "_law_top" "_law_top" (C8.fnArgs (top 42)) (C8.fnBody (top 42)) (C8.fnScope (top 42)) .none kV_law_top dc_law_top pm_law_top an_law_top cd_law_top ct_law_top), sl_law_top⟩)
    (y278 : PySem.W.codeIn K cd_law_top "_law_top" = true)
    (y279 : PySem.W.keepIn K (.ref f_law_top) = true)
    (y280 : PySem.W.nsIn K mainGlobals "_law_is_even" = some (some (.ref f_law_is_even)))
    (y281 : K.lookup f_law_is_even = some ⟨oc_law_is_even, od_law_is_even, .func (PySem.W.fnOf "_law_is_even" "_law_is_even" (C8.fnArgs (top 43)) (C8.fnBody (top 43)) (C8.fnScope (top 43)) .none kV_law_is_even dc_law_is_even pm_law_is_even an_law_is_even cd_law_is_even ct_law_is_even), sl_law_is_even⟩)
    (y282 : PySem.W.codeIn K cd_law_is_even "_law_is_even" = true)
    (y283 : PySem.W.keepIn K (.ref f_law_is_even) = true)
    (y284 : PySem.W.nsIn K mainGlobals "_law_seen" = some (some (.ref f_law_seen)))
    (y285 : K.lookup f_law_seen = some ⟨oc_law_seen, od_law_seen, .func (PySem.W.fnOf "_law_seen" "_law_seen" (C8.fnArgs (top 44)) (C8.fnBody (top 44)) (C8.fnScope (top 44)) .none kV_law_seen dc_law_seen pm_law_seen an_law_seen cd_law_seen ct_law_seen), sl_law_seen⟩)
    (y286 : PySem.W.codeIn K cd_law_seen "_law_seen" = true)
    (y287 : PySem.W.keepIn K (.ref f_law_seen) = true)
    (y288 : PySem.W.nsIn K mainGlobals "need_number" = some (some (.ref f_need_number)))
    (y289 : K.lookup f_need_number = some ⟨oc_need_number, od_need_number, .func (PySem.W.fnOf "need_number" "need_number" (C8.fnArgs (top 29)) (C8.fnBody (top 29)) (C8.fnScope (top 29)) .none kV_need_number dc_need_number pm_need_number an_need_number cd_need_number ct_need_number), sl_need_number⟩)
    (y290 : PySem.W.codeIn K cd_need_number "need_number" = true)
    (y291 : PySem.W.keepIn K (.ref f_need_number) = true)
    (y292 : PySem.W.nsIn K mainGlobals "least_height" = some (some (.ref f_least_height)))
    (y293 : K.lookup f_least_height = some ⟨oc_least_height, od_least_height, .func (PySem.W.fnOf "least_height" "least_height" (C8.fnArgs (top 35)) (C8.fnBody (top 35)) (C8.fnScope (top 35)) .none kV_least_height dc_least_height pm_least_height an_least_height cd_least_height ct_least_height), sl_least_height⟩)
    (y294 : PySem.W.codeIn K cd_least_height "least_height" = true)
    (y295 : PySem.W.keepIn K (.ref f_least_height) = true)
    (y296 : PySem.W.nsIn K mainGlobals "need_weight_rule" = some (some (.ref f_need_weight_rule)))
    (y297 : K.lookup f_need_weight_rule = some ⟨oc_need_weight_rule, od_need_weight_rule, .func (PySem.W.fnOf "need_weight_rule" "need_weight_rule" (C8.fnArgs (top 25)) (C8.fnBody (top 25)) (C8.fnScope (top 25)) .none kV_need_weight_rule dc_need_weight_rule pm_need_weight_rule an_need_weight_rule cd_need_weight_rule ct_need_weight_rule), sl_need_weight_rule⟩)
    (y298 : PySem.W.codeIn K cd_need_weight_rule "need_weight_rule" = true)
    (y299 : PySem.W.keepIn K (.ref f_need_weight_rule) = true)
    (y300 : PySem.W.nsIn K mainGlobals "higher" = some (some (.ref f_higher)))
    (y301 : K.lookup f_higher = some ⟨oc_higher, od_higher, .func (PySem.W.fnOf "higher" "higher" (C8.fnArgs (top 30)) (C8.fnBody (top 30)) (C8.fnScope (top 30)) .none kV_higher dc_higher pm_higher an_higher cd_higher ct_higher), sl_higher⟩)
    (y302 : PySem.W.codeIn K cd_higher "higher" = true)
    (y303 : PySem.W.keepIn K (.ref f_higher) = true)
    (y304 : PySem.W.nsIn K mainGlobals "highest" = some (some (.ref f_highest)))
    (y305 : K.lookup f_highest = some ⟨oc_highest, od_highest, .func (PySem.W.fnOf "highest" "highest" (C8.fnArgs (top 33)) (C8.fnBody (top 33)) (C8.fnScope (top 33)) .none kV_highest dc_highest pm_highest an_highest cd_highest ct_highest), sl_highest⟩)
    (y306 : PySem.W.codeIn K cd_highest "highest" = true)
    (y307 : PySem.W.keepIn K (.ref f_highest) = true)
    (y308 : PySem.W.nsIn K mainGlobals "greatest_height" = some (some (.ref f_greatest_height)))
    (y309 : K.lookup f_greatest_height = some ⟨oc_greatest_height, od_greatest_height, .func (PySem.W.fnOf "greatest_height" "greatest_height" (C8.fnArgs (top 34)) (C8.fnBody (top 34)) (C8.fnScope (top 34)) .none kV_greatest_height dc_greatest_height pm_greatest_height an_greatest_height cd_greatest_height ct_greatest_height), sl_greatest_height⟩)
    (y310 : PySem.W.codeIn K cd_greatest_height "greatest_height" = true)
    (y311 : PySem.W.keepIn K (.ref f_greatest_height) = true)
    (y312 : PySem.W.nsIn K mainGlobals "heights" = some (some (.ref f_heights)))
    (y313 : K.lookup f_heights = some ⟨oc_heights, od_heights, .func (PySem.W.fnOf "heights" "heights" (C8.fnArgs (top 32)) (C8.fnBody (top 32)) (C8.fnScope (top 32)) .none kV_heights dc_heights pm_heights an_heights cd_heights ct_heights), sl_heights⟩)
    (y314 : PySem.W.codeIn K cd_heights "heights" = true)
    (y315 : PySem.W.keepIn K (.ref f_heights) = true)
    (y316 : PySem.W.nsIn K mainGlobals "least_keys" = some (some (.ref f_least_keys)))
    (y317 : K.lookup f_least_keys = some ⟨oc_least_keys, od_least_keys, .func (PySem.W.fnOf "least_keys" "least_keys" (C8.fnArgs (top 31)) (C8.fnBody (top 31)) (C8.fnScope (top 31)) .none kV_least_keys dc_least_keys pm_least_keys an_least_keys cd_least_keys ct_least_keys), sl_least_keys⟩)
    (y318 : PySem.W.codeIn K cd_least_keys "least_keys" = true)
    (y319 : PySem.W.keepIn K (.ref f_least_keys) = true)
    (y320 : PySem.W.nsIn K mainGlobals "_law_right" = some (some (.ref f_law_right)))
    (y321 : K.lookup f_law_right = some ⟨oc_law_right, od_law_right, .func (PySem.W.fnOf "_law_right" "_law_right" (C8.fnArgs (top 45)) (C8.fnBody (top 45)) (C8.fnScope (top 45)) .none kV_law_right dc_law_right pm_law_right an_law_right cd_law_right ct_law_right), sl_law_right⟩)
    (y322 : PySem.W.codeIn K cd_law_right "_law_right" = true)
    (y323 : PySem.W.keepIn K (.ref f_law_right) = true)
    (y324 : PySem.W.findIn K (.ref X_BadRule) "__init__" = some (some (.ref f_BadRule_init)))
    (y325 : K.lookup f_BadRule_init = some ⟨oc_BadRule_init, od_BadRule_init, .func (PySem.W.fnOf "__init__" "BadRule.__init__" (C8.fnArgs (inClass (top 2) 0)) (C8.fnBody (inClass (top 2) 0)) (C8.fnScope (inClass (top 2) 0)) .none kV_BadRule_init dc_BadRule_init pm_BadRule_init an_BadRule_init cd_BadRule_init ct_BadRule_init), sl_BadRule_init⟩)
    (y326 : PySem.W.codeIn K cd_BadRule_init "BadRule.__init__" = true)
    (y327 : PySem.W.keepIn K (.ref f_BadRule_init) = true)
    (y328 : PySem.W.isFn K (.ref f_BadRule_init) = true)
    (y329 : PySem.W.findIn K (.ref X_NoHalves) "__init__" = some (some (.ref f_NoHalves_init)))
    (y330 : K.lookup f_NoHalves_init = some ⟨oc_NoHalves_init, od_NoHalves_init, .func (PySem.W.fnOf "__init__" "NoHalves.__init__" (C8.fnArgs (inClass (top 3) 0)) (C8.fnBody (inClass (top 3) 0)) (C8.fnScope (inClass (top 3) 0)) .none kV_NoHalves_init dc_NoHalves_init pm_NoHalves_init an_NoHalves_init cd_NoHalves_init ct_NoHalves_init), sl_NoHalves_init⟩)
    (y331 : PySem.W.codeIn K cd_NoHalves_init "NoHalves.__init__" = true)
    (y332 : PySem.W.keepIn K (.ref f_NoHalves_init) = true)
    (y333 : PySem.W.isFn K (.ref f_NoHalves_init) = true)
    (y334 : PySem.W.findIn K (.ref X_BadNumber) "__init__" = some (some (.ref f_BadNumber_init)))
    (y335 : K.lookup f_BadNumber_init = some ⟨oc_BadNumber_init, od_BadNumber_init, .func (PySem.W.fnOf "__init__" "BadNumber.__init__" (C8.fnArgs (inClass (top 4) 0)) (C8.fnBody (inClass (top 4) 0)) (C8.fnScope (inClass (top 4) 0)) .none kV_BadNumber_init dc_BadNumber_init pm_BadNumber_init an_BadNumber_init cd_BadNumber_init ct_BadNumber_init), sl_BadNumber_init⟩)
    (y336 : PySem.W.codeIn K cd_BadNumber_init "BadNumber.__init__" = true)
    (y337 : PySem.W.keepIn K (.ref f_BadNumber_init) = true)
    (y338 : PySem.W.isFn K (.ref f_BadNumber_init) = true)
    (y339 : PySem.W.nsIn K mainGlobals "law" = some (some (.ref f_law)))
    (y340 : K.lookup f_law = some ⟨oc_law, od_law, .func (PySem.W.fnOf "law" "law" (C8.fnArgs (top 46)) (C8.fnBody (top 46)) (C8.fnScope (top 46)) .none kV_law dc_law pm_law an_law cd_law ct_law), sl_law⟩)
    (y341 : PySem.W.codeIn K cd_law "law" = true)
    (y342 : PySem.W.keepIn K (.ref f_law) = true)
    (y343 : PySem.W.typeIn K (.ref f_BadRule_init) = some (.type "function"))
    (y344 : PySem.W.findIn K (.ref C_TurnRule) "need_numbers" = some (some (.ref p_WeightRule_need_numbers)))
    (y345 : PySem.W.findIn K (.ref C_TurnRule) "need_numbers" = some (some (.ref p_WeightRule_need_numbers)))
    (y346 : PySem.W.findIn K (.ref C_TryRule) "need_numbers" = some (some (.ref p_WeightRule_need_numbers)))
    (y347 : PySem.W.findIn K (.ref C_TurnRule) "beside" = some (some (.ref f_WeightRule_beside)))
    (y348 : PySem.W.findIn K (.ref C_TryRule) "beside" = some (some (.ref f_WeightRule_beside)))
    (y349 : PySem.W.typeIn K (.ref f_NoHalves_init) = some (.type "function"))
    (y350 : PySem.W.nsIn K mainGlobals "super" = some none)
    (y351 : (l.prog.main.scope.names.lookup ("super" : Str)).isSome = false)
    (y352 : PySem.W.nsIn K cStatics "thirdparty.any" = some none)
    (y353 : PySem.W.ks_superIn K C_TurnRule C_TurnRule "__init__" = some (some (.ref f_WeightRule_init)))
    (y354 : PySem.W.typeIn K (.ref f_WeightRule_init) = some (.type "function"))
    (y355 : PySem.W.fnIn K f_WeightRule_init = true)
    (y356 : PySem.W.makesIn K C_TurnRule = true)
    (y357 : PySem.W.keepIn K (.ref C_TurnRule) = true)
    (y358 : K.lookup DT_TurnRule_init = some ⟨.type "tuple", oT_TurnRule_init, .seq #[.int 0 u_TurnRule_init_0] nT_TurnRule_init, slT_TurnRule_init⟩)
    (y359 : PySem.W.nsIn K DK_TurnRule_init "turn_plus" = some (some (.int 0 u_TurnRule_init_50)))
    (y360 : PySem.W.nsIn K mainGlobals "super" = some none)
    (y361 : (l.prog.main.scope.names.lookup ("super" : Str)).isSome = false)
    (y362 : PySem.W.nsIn K cStatics "thirdparty.any" = some none)
    (y363 : PySem.W.ks_superIn K C_TryRule C_TryRule "__init__" = some (some (.ref f_WeightRule_init)))
    (y364 : PySem.W.typeIn K (.ref f_WeightRule_init) = some (.type "function"))
    (y365 : PySem.W.fnIn K f_WeightRule_init = true)
    (y366 : PySem.W.makesIn K C_TryRule = true)
    (y367 : PySem.W.keepIn K (.ref C_TryRule) = true)
    (y368 : K.lookup DT_TryRule_init = some ⟨.type "tuple", oT_TryRule_init, .seq #[.int 0 u_TryRule_init_0] nT_TryRule_init, slT_TryRule_init⟩)
    (y369 : PySem.W.typeIn K (.ref f_BadNumber_init) = some (.type "function")) :
    Ev.LawT l w K 10 63 "_law_script" mg fa [] := by
  have e : f_law = fa := Value.ref.inj (Option.some.inj ((PySem.W.mg_of X G y339).symm.trans hfa))
  subst e
  have ci_Rule : Ev.CI K C_Rule := ⟨⟨y13, y14, y15, y16⟩, y17, y18, y19, y20, Ev.it_of y21 y22⟩
  have ci_WeightRule : Ev.CI K C_WeightRule := ⟨⟨y24, y25, y26, y27⟩, y28, y29, y30, y31, Ev.it_of y32 y33⟩
  have ci_TurnRule : Ev.CI K C_TurnRule := ⟨⟨y35, y36, y37, y38⟩, y39, y40, y41, y42, Ev.it_of y43 y44⟩
  have ci_TryRule : Ev.CI K C_TryRule := ⟨⟨y46, y47, y48, y49⟩, y50, y51, y52, y53, Ev.it_of y54 y55⟩
  have r13 : ∀ c C, (⟨fun s => List.lookup s ([("Rule", C_Rule), ("WeightRule", C_WeightRule), ("TurnRule", C_TurnRule), ("TryRule", C_TryRule)] : List (Str × Addr)), fun s => List.lookup s ([("BadRule", X_BadRule), ("NoHalves", X_NoHalves), ("BadNumber", X_BadNumber), ("BadText", X_BadText)] : List (Str × Addr)), [], fun s => List.lookup s ([] : List (Str × Addr))⟩ : Pu.Md) c = some C → Ev.CI K C ∧ PySem.W.kitOne K (.ref C) (.ref C_Rule) = some (subs c "Rule") := (Pu.cm_cons (⟨ci_Rule, Ev.kit_self.trans (congrArg some s2_Rule_Rule.symm)⟩) (Pu.cm_cons (⟨ci_WeightRule, (Pu.ks_mro ci_Rule y59 y57).trans (congrArg some s2_WeightRule_Rule.symm)⟩) (Pu.cm_cons (⟨ci_TurnRule, (Pu.ks_mro ci_Rule y58 y57).trans (congrArg some s2_TurnRule_Rule.symm)⟩) (Pu.cm_cons (⟨ci_TryRule, (Pu.ks_mro ci_Rule y56 y57).trans (congrArg some s2_TryRule_Rule.symm)⟩) Pu.cm_nil))))
  have r16 : ∀ c C, (⟨fun s => List.lookup s ([("Rule", C_Rule), ("WeightRule", C_WeightRule), ("TurnRule", C_TurnRule), ("TryRule", C_TryRule)] : List (Str × Addr)), fun s => List.lookup s ([("BadRule", X_BadRule), ("NoHalves", X_NoHalves), ("BadNumber", X_BadNumber), ("BadText", X_BadText)] : List (Str × Addr)), [], fun s => List.lookup s ([] : List (Str × Addr))⟩ : Pu.Md) c = some C → Ev.CI K C ∧ PySem.W.kitOne K (.ref C) (.ref C_WeightRule) = some (subs c "WeightRule") := (Pu.cm_cons (⟨ci_Rule, (Pu.ks_mro ci_WeightRule y63 y61).trans (congrArg some s2_Rule_WeightRule.symm)⟩) (Pu.cm_cons (⟨ci_WeightRule, Ev.kit_self.trans (congrArg some s2_WeightRule_WeightRule.symm)⟩) (Pu.cm_cons (⟨ci_TurnRule, (Pu.ks_mro ci_WeightRule y62 y61).trans (congrArg some s2_TurnRule_WeightRule.symm)⟩) (Pu.cm_cons (⟨ci_TryRule, (Pu.ks_mro ci_WeightRule y60 y61).trans (congrArg some s2_TryRule_WeightRule.symm)⟩) Pu.cm_nil))))
  have r19 : ∀ c C, (⟨fun s => List.lookup s ([("Rule", C_Rule), ("WeightRule", C_WeightRule), ("TurnRule", C_TurnRule), ("TryRule", C_TryRule)] : List (Str × Addr)), fun s => List.lookup s ([("BadRule", X_BadRule), ("NoHalves", X_NoHalves), ("BadNumber", X_BadNumber), ("BadText", X_BadText)] : List (Str × Addr)), [], fun s => List.lookup s ([] : List (Str × Addr))⟩ : Pu.Md) c = some C → Ev.CI K C ∧ PySem.W.kitOne K (.ref C) (.ref C_TurnRule) = some (subs c "TurnRule") := (Pu.cm_cons (⟨ci_Rule, (Pu.ks_mro ci_TurnRule y67 y65).trans (congrArg some s2_Rule_TurnRule.symm)⟩) (Pu.cm_cons (⟨ci_WeightRule, (Pu.ks_mro ci_TurnRule y66 y65).trans (congrArg some s2_WeightRule_TurnRule.symm)⟩) (Pu.cm_cons (⟨ci_TurnRule, Ev.kit_self.trans (congrArg some s2_TurnRule_TurnRule.symm)⟩) (Pu.cm_cons (⟨ci_TryRule, (Pu.ks_mro ci_TurnRule y64 y65).trans (congrArg some s2_TryRule_TurnRule.symm)⟩) Pu.cm_nil))))
  have r20 : ∀ d D, (⟨fun s => List.lookup s ([("Rule", C_Rule), ("WeightRule", C_WeightRule), ("TurnRule", C_TurnRule), ("TryRule", C_TryRule)] : List (Str × Addr)), fun s => List.lookup s ([("BadRule", X_BadRule), ("NoHalves", X_NoHalves), ("BadNumber", X_BadNumber), ("BadText", X_BadText)] : List (Str × Addr)), [], fun s => List.lookup s ([] : List (Str × Addr))⟩ : Pu.Md) d = some D → Ev.CI K D ∧ PySem.W.notFirst K C_TurnRule (.ref D) = true := (Pu.cm_cons (⟨ci_Rule, Ev.nf_own y67⟩) (Pu.cm_cons (⟨ci_WeightRule, Ev.nf_own y66⟩) (Pu.cm_cons (⟨ci_TurnRule, Ev.nf_self⟩) (Pu.cm_cons (⟨ci_TryRule, Ev.nf_own y64⟩) Pu.cm_nil))))
  have r21 : Ev.NeO K C_TurnRule := ⟨y68, y42⟩
  have r24 : ∀ c C, (⟨fun s => List.lookup s ([("Rule", C_Rule), ("WeightRule", C_WeightRule), ("TurnRule", C_TurnRule), ("TryRule", C_TryRule)] : List (Str × Addr)), fun s => List.lookup s ([("BadRule", X_BadRule), ("NoHalves", X_NoHalves), ("BadNumber", X_BadNumber), ("BadText", X_BadText)] : List (Str × Addr)), [], fun s => List.lookup s ([] : List (Str × Addr))⟩ : Pu.Md) c = some C → Ev.CI K C ∧ PySem.W.kitOne K (.ref C) (.ref C_TryRule) = some (subs c "TryRule") := (Pu.cm_cons (⟨ci_Rule, (Pu.ks_mro ci_TryRule y72 y70).trans (congrArg some s2_Rule_TryRule.symm)⟩) (Pu.cm_cons (⟨ci_WeightRule, (Pu.ks_mro ci_TryRule y71 y70).trans (congrArg some s2_WeightRule_TryRule.symm)⟩) (Pu.cm_cons (⟨ci_TurnRule, (Pu.ks_mro ci_TryRule y69 y70).trans (congrArg some s2_TurnRule_TryRule.symm)⟩) (Pu.cm_cons (⟨ci_TryRule, Ev.kit_self.trans (congrArg some s2_TryRule_TryRule.symm)⟩) Pu.cm_nil))))
  have r25 : ∀ d D, (⟨fun s => List.lookup s ([("Rule", C_Rule), ("WeightRule", C_WeightRule), ("TurnRule", C_TurnRule), ("TryRule", C_TryRule)] : List (Str × Addr)), fun s => List.lookup s ([("BadRule", X_BadRule), ("NoHalves", X_NoHalves), ("BadNumber", X_BadNumber), ("BadText", X_BadText)] : List (Str × Addr)), [], fun s => List.lookup s ([] : List (Str × Addr))⟩ : Pu.Md) d = some D → Ev.CI K D ∧ PySem.W.notFirst K C_TryRule (.ref D) = true := (Pu.cm_cons (⟨ci_Rule, Ev.nf_own y72⟩) (Pu.cm_cons (⟨ci_WeightRule, Ev.nf_own y71⟩) (Pu.cm_cons (⟨ci_TurnRule, Ev.nf_own y69⟩) (Pu.cm_cons (⟨ci_TryRule, Ev.nf_self⟩) Pu.cm_nil))))
  have r26 : Ev.NeO K C_TryRule := ⟨y73, y53⟩
  have r27 : ∀ c C, (⟨fun s => List.lookup s ([("Rule", C_Rule), ("WeightRule", C_WeightRule), ("TurnRule", C_TurnRule), ("TryRule", C_TryRule)] : List (Str × Addr)), fun s => List.lookup s ([("BadRule", X_BadRule), ("NoHalves", X_NoHalves), ("BadNumber", X_BadNumber), ("BadText", X_BadText)] : List (Str × Addr)), [], fun s => List.lookup s ([] : List (Str × Addr))⟩ : Pu.Md) c = some C → Ev.CI K C ∧ ∀ T ∈ Pu.BTys, PySem.W.kitOne K (.ref C) (.type T) = some false := (Pu.cm_cons (⟨ci_Rule, Pu.kt_of y74 y75 y76 y77 y78 y79 y80⟩) (Pu.cm_cons (⟨ci_WeightRule, Pu.kt_of y81 y82 y83 y84 y85 y86 y87⟩) (Pu.cm_cons (⟨ci_TurnRule, Pu.kt_of y88 y89 y90 y91 y92 y93 y94⟩) (Pu.cm_cons (⟨ci_TryRule, Pu.kt_of y95 y96 y97 y98 y99 y100 y101⟩) Pu.cm_nil))))
  have r28 : ∀ c C, (⟨fun s => List.lookup s ([("Rule", C_Rule), ("WeightRule", C_WeightRule), ("TurnRule", C_TurnRule), ("TryRule", C_TryRule)] : List (Str × Addr)), fun s => List.lookup s ([("BadRule", X_BadRule), ("NoHalves", X_NoHalves), ("BadNumber", X_BadNumber), ("BadText", X_BadText)] : List (Str × Addr)), [], fun s => List.lookup s ([] : List (Str × Addr))⟩ : Pu.Md) c = some C → Cls K C ∧ NoAttr K C "turn" := (Pu.cm_cons (⟨ci_Rule.cl, y105⟩) (Pu.cm_cons (⟨ci_WeightRule.cl, y104⟩) (Pu.cm_cons (⟨ci_TurnRule.cl, y103⟩) (Pu.cm_cons (⟨ci_TryRule.cl, y102⟩) Pu.cm_nil))))
  have r29 : ∀ c C, (⟨fun s => List.lookup s ([("Rule", C_Rule), ("WeightRule", C_WeightRule), ("TurnRule", C_TurnRule), ("TryRule", C_TryRule)] : List (Str × Addr)), fun s => List.lookup s ([("BadRule", X_BadRule), ("NoHalves", X_NoHalves), ("BadNumber", X_BadNumber), ("BadText", X_BadText)] : List (Str × Addr)), [], fun s => List.lookup s ([] : List (Str × Addr))⟩ : Pu.Md) c = some C → Cls K C ∧ NoAttr K C "turn_plus" := (Pu.cm_cons (⟨ci_Rule.cl, y109⟩) (Pu.cm_cons (⟨ci_WeightRule.cl, y108⟩) (Pu.cm_cons (⟨ci_TurnRule.cl, y107⟩) (Pu.cm_cons (⟨ci_TryRule.cl, y106⟩) Pu.cm_nil))))
  have r30 : ∀ c C, (⟨fun s => List.lookup s ([("Rule", C_Rule), ("WeightRule", C_WeightRule), ("TurnRule", C_TurnRule), ("TryRule", C_TryRule)] : List (Str × Addr)), fun s => List.lookup s ([("BadRule", X_BadRule), ("NoHalves", X_NoHalves), ("BadNumber", X_BadNumber), ("BadText", X_BadText)] : List (Str × Addr)), [], fun s => List.lookup s ([] : List (Str × Addr))⟩ : Pu.Md) c = some C → Cls K C ∧ NoAttr K C "times" := (Pu.cm_cons (⟨ci_Rule.cl, y113⟩) (Pu.cm_cons (⟨ci_WeightRule.cl, y112⟩) (Pu.cm_cons (⟨ci_TurnRule.cl, y111⟩) (Pu.cm_cons (⟨ci_TryRule.cl, y110⟩) Pu.cm_nil))))
  have r31 : ∀ c C, (⟨fun s => List.lookup s ([("Rule", C_Rule), ("WeightRule", C_WeightRule), ("TurnRule", C_TurnRule), ("TryRule", C_TryRule)] : List (Str × Addr)), fun s => List.lookup s ([("BadRule", X_BadRule), ("NoHalves", X_NoHalves), ("BadNumber", X_BadNumber), ("BadText", X_BadText)] : List (Str × Addr)), [], fun s => List.lookup s ([] : List (Str × Addr))⟩ : Pu.Md) c = some C → Cls K C ∧ NoAttr K C "plus" := (Pu.cm_cons (⟨ci_Rule.cl, y117⟩) (Pu.cm_cons (⟨ci_WeightRule.cl, y116⟩) (Pu.cm_cons (⟨ci_TurnRule.cl, y115⟩) (Pu.cm_cons (⟨ci_TryRule.cl, y114⟩) Pu.cm_nil))))
  have r32 : ∃ t, mg "MOST_PLUS" = some (.int (6) t) := ⟨_, PySem.W.mg_of X G y118⟩
  have r33 : ∃ t, mg "MOST_TURN" = some (.int (8) t) := ⟨_, PySem.W.mg_of X G y119⟩
  have r34 : ∃ t, mg "MOST_WEIGHT" = some (.int (1000000000000000000000000000000000000000000000000000000000000) t) := ⟨_, PySem.W.mg_of X G y120⟩
  have r35 : ∃ t, mg "MOST_HEIGHT" = some (.int (1000) t) := ⟨_, PySem.W.mg_of X G y121⟩
  have r36 : ∃ t, mg "MOST_KEYS" = some (.int (1000000000000000000000000000000) t) := ⟨_, PySem.W.mg_of X G y122⟩
  have r37 : ∃ mc u, ClX.CRead K C_WeightRule mc ∧ ClX.CVal K C_WeightRule mc "MOST" (.int (6)) u := ⟨_, _, ⟨y123, y124⟩, ⟨y125, ⟨_, rfl⟩⟩⟩
  have r44 : OexC K X_BadRule := ⟨⟨_, _, _, _, _, _, _, _, _, _, _, _, _, _, _, y146, y147⟩, y149, y127, y129, y148⟩
  have r46 : OexC K X_NoHalves := ⟨⟨_, _, _, _, _, _, _, _, _, _, _, _, _, _, _, y150, y151⟩, y153, y131, y133, y152⟩
  have r48 : OexC K X_BadNumber := ⟨⟨_, _, _, _, _, _, _, _, _, _, _, _, _, _, _, y154, y155⟩, y157, y135, y137, y156⟩
  have r50 : OexC K X_BadText := ⟨⟨_, _, _, _, _, _, _, _, _, _, _, _, _, _, _, y158, y159⟩, y161, y139, y141, y160⟩
  have r51 : ∀ c C, (⟨fun s => List.lookup s ([("Rule", C_Rule), ("WeightRule", C_WeightRule), ("TurnRule", C_TurnRule), ("TryRule", C_TryRule)] : List (Str × Addr)), fun s => List.lookup s ([("BadRule", X_BadRule), ("NoHalves", X_NoHalves), ("BadNumber", X_BadNumber), ("BadText", X_BadText)] : List (Str × Addr)), [], fun s => List.lookup s ([] : List (Str × Addr))⟩ : Pu.Md).cx c = some C → ExcC K C := (Pu.cm_cons (⟨y180, y181, y127, y128, y182, y183, y184, y185⟩) (Pu.cm_cons (⟨y174, y175, y131, y132, y176, y177, y178, y179⟩) (Pu.cm_cons (⟨y168, y169, y135, y136, y170, y171, y172, y173⟩) (Pu.cm_cons (⟨y162, y163, y139, y140, y164, y165, y166, y167⟩) Pu.cm_nil))))
  have r52 : ∀ c C, (⟨fun s => List.lookup s ([("Rule", C_Rule), ("WeightRule", C_WeightRule), ("TurnRule", C_TurnRule), ("TryRule", C_TryRule)] : List (Str × Addr)), fun s => List.lookup s ([("BadRule", X_BadRule), ("NoHalves", X_NoHalves), ("BadNumber", X_BadNumber), ("BadText", X_BadText)] : List (Str × Addr)), [], fun s => List.lookup s ([] : List (Str × Addr))⟩ : Pu.Md).cx c = some C → PySem.W.subIn K (.ref C) (.type "StopIteration") = some false := (Pu.cm_cons (y189) (Pu.cm_cons (y188) (Pu.cm_cons (y187) (Pu.cm_cons (y186) Pu.cm_nil))))
  have r53 : ∀ c C, (⟨fun s => List.lookup s ([("Rule", C_Rule), ("WeightRule", C_WeightRule), ("TurnRule", C_TurnRule), ("TryRule", C_TryRule)] : List (Str × Addr)), fun s => List.lookup s ([("BadRule", X_BadRule), ("NoHalves", X_NoHalves), ("BadNumber", X_BadNumber), ("BadText", X_BadText)] : List (Str × Addr)), [], fun s => List.lookup s ([] : List (Str × Addr))⟩ : Pu.Md).cx c = some C → PySem.W.findIn K (.ref C) "part" = some none := (Pu.cm_cons (y193) (Pu.cm_cons (y192) (Pu.cm_cons (y191) (Pu.cm_cons (y190) Pu.cm_nil))))
  have r54 : ∀ c C, (⟨fun s => List.lookup s ([("Rule", C_Rule), ("WeightRule", C_WeightRule), ("TurnRule", C_TurnRule), ("TryRule", C_TryRule)] : List (Str × Addr)), fun s => List.lookup s ([("BadRule", X_BadRule), ("NoHalves", X_NoHalves), ("BadNumber", X_BadNumber), ("BadText", X_BadText)] : List (Str × Addr)), [], fun s => List.lookup s ([] : List (Str × Addr))⟩ : Pu.Md).cx c = some C → PySem.W.findIn K (.ref C) "value" = some none := (Pu.cm_cons (y197) (Pu.cm_cons (y196) (Pu.cm_cons (y195) (Pu.cm_cons (y194) Pu.cm_nil))))
  have r55 : ∀ c C, (⟨fun s => List.lookup s ([("Rule", C_Rule), ("WeightRule", C_WeightRule), ("TurnRule", C_TurnRule), ("TryRule", C_TryRule)] : List (Str × Addr)), fun s => List.lookup s ([("BadRule", X_BadRule), ("NoHalves", X_NoHalves), ("BadNumber", X_BadNumber), ("BadText", X_BadText)] : List (Str × Addr)), [], fun s => List.lookup s ([] : List (Str × Addr))⟩ : Pu.Md).cx c = some C → PySem.W.findIn K (.ref C) "weight" = some none := (Pu.cm_cons (y201) (Pu.cm_cons (y200) (Pu.cm_cons (y199) (Pu.cm_cons (y198) Pu.cm_nil))))
  obtain ⟨cm, hT, T⟩ : ∃ cm : Pu.Md, cm.T = [] ∧ Tx K mg cm C_Rule C_WeightRule C_TurnRule C_TryRule X_BadRule X_NoHalves X_BadNumber X_BadText X_FairError := ⟨(⟨fun s => List.lookup s ([("Rule", C_Rule), ("WeightRule", C_WeightRule), ("TurnRule", C_TurnRule), ("TryRule", C_TryRule)] : List (Str × Addr)), fun s => List.lookup s ([("BadRule", X_BadRule), ("NoHalves", X_NoHalves), ("BadNumber", X_BadNumber), ("BadText", X_BadText)] : List (Str × Addr)), [], fun s => List.lookup s ([] : List (Str × Addr))⟩ : Pu.Md), rfl, ⟨PySem.W.mg_none_of X G y1, PySem.W.mg_none_of X G y2, PySem.W.mg_none_of X G y3, PySem.W.mg_none_of X G y4, PySem.W.mg_none_of X G y5, PySem.W.mg_none_of X G y6, PySem.W.mg_none_of X G y7, PySem.W.mg_none_of X G y8, PySem.W.mg_none_of X G y9, PySem.W.mg_none_of X G y10, PySem.W.mg_none_of X G y11, PySem.W.mg_of X G y12, rfl, r13, PySem.W.mg_of X G y23, rfl, r16, PySem.W.mg_of X G y34, rfl, r19, r20, r21, PySem.W.mg_of X G y45, rfl, r24, r25, r26, r27, r28, r29, r30, r31, r32, r33, r34, r35, r36, r37, PySem.W.mg_of X G y126, PySem.W.mg_of X G y130, PySem.W.mg_of X G y134, PySem.W.mg_of X G y138, PySem.W.mg_of X G y142, rfl, r44, rfl, r46, rfl, r48, rfl, r50, r51, r52, r53, r54, r55⟩⟩
  have F_draw : Ev.Fn K "_law_draw" "_law_draw" (top 38) f_draw (PySem.W.fnOf "_law_draw" "_law_draw" (C8.fnArgs (top 38)) (C8.fnBody (top 38)) (C8.fnScope (top 38)) .none kV_draw dc_draw pm_draw an_draw cd_draw ct_draw) := ⟨⟨_, _, _, _, _, _, _, _, _, _, rfl, y203, y204⟩⟩
  have b_draw : Binds K (PySem.W.fnOf "_law_draw" "_law_draw" (C8.fnArgs (top 38)) (C8.fnBody (top 38)) (C8.fnScope (top 38)) .none kV_draw dc_draw pm_draw an_draw cd_draw ct_draw) ["_law_pen_here", "_law_many"] [] := Binds.all fun us hl => match us, hl with | [_, _], _ => rfl
  have F_pen : Ev.Fn K "_law_pen" "_law_pen" (top 37) f_pen (PySem.W.fnOf "_law_pen" "_law_pen" (C8.fnArgs (top 37)) (C8.fnBody (top 37)) (C8.fnScope (top 37)) .none kV_pen dc_pen pm_pen an_pen cd_pen ct_pen) := ⟨⟨_, _, _, _, _, _, _, _, _, _, rfl, y207, y208⟩⟩
  have b_pen : Binds K (PySem.W.fnOf "_law_pen" "_law_pen" (C8.fnArgs (top 37)) (C8.fnBody (top 37)) (C8.fnScope (top 37)) .none kV_pen dc_pen pm_pen an_pen cd_pen ct_pen) ["_law_script"] [] := Binds.all fun us hl => match us, hl with | [_], _ => rfl
  have F_law_pick : Ev.Fn K "_law_pick" "_law_pick" (top 39) f_law_pick (PySem.W.fnOf "_law_pick" "_law_pick" (C8.fnArgs (top 39)) (C8.fnBody (top 39)) (C8.fnScope (top 39)) .none kV_law_pick dc_law_pick pm_law_pick an_law_pick cd_law_pick ct_law_pick) := ⟨⟨_, _, _, _, _, _, _, _, _, _, rfl, y211, y212⟩⟩
  have b_law_pick : Binds K (PySem.W.fnOf "_law_pick" "_law_pick" (C8.fnArgs (top 39)) (C8.fnBody (top 39)) (C8.fnScope (top 39)) .none kV_law_pick dc_law_pick pm_law_pick an_law_pick cd_law_pick ct_law_pick) ["_law_pen_here", "_law_some"] [] := Binds.all fun us hl => match us, hl with | [_, _], _ => rfl
  have F_law_numbers : Ev.Fn K "_law_numbers" "_law_numbers" (top 40) f_law_numbers (PySem.W.fnOf "_law_numbers" "_law_numbers" (C8.fnArgs (top 40)) (C8.fnBody (top 40)) (C8.fnScope (top 40)) .none kV_law_numbers dc_law_numbers pm_law_numbers an_law_numbers cd_law_numbers ct_law_numbers) := ⟨⟨_, _, _, _, _, _, _, _, _, _, rfl, y215, y216⟩⟩
  have b_law_numbers : Binds K (PySem.W.fnOf "_law_numbers" "_law_numbers" (C8.fnArgs (top 40)) (C8.fnBody (top 40)) (C8.fnScope (top 40)) .none kV_law_numbers dc_law_numbers pm_law_numbers an_law_numbers cd_law_numbers ct_law_numbers) ["_law_pen_here"] [] := Binds.all fun us hl => match us, hl with | [_], _ => rfl
  have F_is_integer : Ev.Fn K "is_integer" "is_integer" (top 7) f_is_integer (PySem.W.fnOf "is_integer" "is_integer" (C8.fnArgs (top 7)) (C8.fnBody (top 7)) (C8.fnScope (top 7)) .none kV_is_integer dc_is_integer pm_is_integer an_is_integer cd_is_integer ct_is_integer) := ⟨⟨_, _, _, _, _, _, _, _, _, _, rfl, y219, y220⟩⟩
  have b_is_integer : Binds K (PySem.W.fnOf "is_integer" "is_integer" (C8.fnArgs (top 7)) (C8.fnBody (top 7)) (C8.fnScope (top 7)) .none kV_is_integer dc_is_integer pm_is_integer an_is_integer cd_is_integer ct_is_integer) ["value"] [] := Binds.all fun us hl => match us, hl with | [_], _ => rfl
  have F_is_within : Ev.Fn K "is_within" "is_within" (top 8) f_is_within (PySem.W.fnOf "is_within" "is_within" (C8.fnArgs (top 8)) (C8.fnBody (top 8)) (C8.fnScope (top 8)) .none kV_is_within dc_is_within pm_is_within an_is_within cd_is_within ct_is_within) := ⟨⟨_, _, _, _, _, _, _, _, _, _, rfl, y223, y224⟩⟩
  have b_is_within : Binds K (PySem.W.fnOf "is_within" "is_within" (C8.fnArgs (top 8)) (C8.fnBody (top 8)) (C8.fnScope (top 8)) .none kV_is_within dc_is_within pm_is_within an_is_within cd_is_within ct_is_within) ["value", "least", "most"] [] := Binds.all fun us hl => match us, hl with | [_, _, _], _ => rfl
  have F_is_times : Ev.Fn K "is_times" "is_times" (top 14) f_is_times (PySem.W.fnOf "is_times" "is_times" (C8.fnArgs (top 14)) (C8.fnBody (top 14)) (C8.fnScope (top 14)) .none kV_is_times dc_is_times pm_is_times an_is_times cd_is_times ct_is_times) := ⟨⟨_, _, _, _, _, _, _, _, _, _, rfl, y227, y228⟩⟩
  have b_is_times : Binds K (PySem.W.fnOf "is_times" "is_times" (C8.fnArgs (top 14)) (C8.fnBody (top 14)) (C8.fnScope (top 14)) .none kV_is_times dc_is_times pm_is_times an_is_times cd_is_times ct_is_times) ["value", "most"] [] := Binds.all fun us hl => match us, hl with | [_, _], _ => rfl
  have F_need_plus : Ev.Fn K "need_plus" "need_plus" (top 15) f_need_plus (PySem.W.fnOf "need_plus" "need_plus" (C8.fnArgs (top 15)) (C8.fnBody (top 15)) (C8.fnScope (top 15)) .none kV_need_plus dc_need_plus pm_need_plus an_need_plus cd_need_plus ct_need_plus) := ⟨⟨_, _, _, _, _, _, _, _, _, _, rfl, y231, y232⟩⟩
  have b_need_plus : Binds K (PySem.W.fnOf "need_plus" "need_plus" (C8.fnArgs (top 15)) (C8.fnBody (top 15)) (C8.fnScope (top 15)) .none kV_need_plus dc_need_plus pm_need_plus an_need_plus cd_need_plus ct_need_plus) ["value", "part"] [] := Binds.all fun us hl => match us, hl with | [_, _], _ => rfl
  have F_WeightRule_need_numbers : Ev.Fn K "need_numbers" "WeightRule.need_numbers" (inClass (top 17) 2) f_WeightRule_need_numbers (PySem.W.fnOf "need_numbers" "WeightRule.need_numbers" (C8.fnArgs (inClass (top 17) 2)) (C8.fnBody (inClass (top 17) 2)) (C8.fnScope (inClass (top 17) 2)) .none kV_WeightRule_need_numbers dc_WeightRule_need_numbers pm_WeightRule_need_numbers an_WeightRule_need_numbers cd_WeightRule_need_numbers ct_WeightRule_need_numbers) := ⟨⟨_, _, _, _, _, _, _, _, _, _, rfl, y236, y237⟩⟩
  have b_WeightRule_need_numbers : Binds K (PySem.W.fnOf "need_numbers" "WeightRule.need_numbers" (C8.fnArgs (inClass (top 17) 2)) (C8.fnBody (inClass (top 17) 2)) (C8.fnScope (inClass (top 17) 2)) .none kV_WeightRule_need_numbers dc_WeightRule_need_numbers pm_WeightRule_need_numbers an_WeightRule_need_numbers cd_WeightRule_need_numbers ct_WeightRule_need_numbers) ["times", "plus"] [] := Binds.all fun us hl => match us, hl with | [_, _], _ => rfl
  have F_WeightRule_beside : Ev.Fn K "beside" "WeightRule.beside" (inClass (top 17) 4) f_WeightRule_beside (PySem.W.fnOf "beside" "WeightRule.beside" (C8.fnArgs (inClass (top 17) 4)) (C8.fnBody (inClass (top 17) 4)) (C8.fnScope (inClass (top 17) 4)) .none kV_WeightRule_beside dc_WeightRule_beside pm_WeightRule_beside an_WeightRule_beside cd_WeightRule_beside ct_WeightRule_beside) := ⟨⟨_, _, _, _, _, _, _, _, _, _, rfl, y243, y244⟩⟩
  have b_WeightRule_beside : Binds K (PySem.W.fnOf "beside" "WeightRule.beside" (C8.fnArgs (inClass (top 17) 4)) (C8.fnBody (inClass (top 17) 4)) (C8.fnScope (inClass (top 17) 4)) .none kV_WeightRule_beside dc_WeightRule_beside pm_WeightRule_beside an_WeightRule_beside cd_WeightRule_beside ct_WeightRule_beside) ["self", "weight"] [] := Binds.all fun us hl => match us, hl with | [_, _], _ => rfl
  have F_WeightRule_init : Ev.Fn K "__init__" "WeightRule.__init__" (inClass (top 17) 1) f_WeightRule_init (PySem.W.fnOf "__init__" "WeightRule.__init__" (C8.fnArgs (inClass (top 17) 1)) (C8.fnBody (inClass (top 17) 1)) (C8.fnScope (inClass (top 17) 1)) .none kV_WeightRule_init dc_WeightRule_init pm_WeightRule_init an_WeightRule_init cd_WeightRule_init ct_WeightRule_init) := ⟨⟨_, _, _, _, _, _, _, _, _, _, rfl, y248, y249⟩⟩
  have b_WeightRule_init : Binds K (PySem.W.fnOf "__init__" "WeightRule.__init__" (C8.fnArgs (inClass (top 17) 1)) (C8.fnBody (inClass (top 17) 1)) (C8.fnScope (inClass (top 17) 1)) .none kV_WeightRule_init dc_WeightRule_init pm_WeightRule_init an_WeightRule_init cd_WeightRule_init ct_WeightRule_init) ["self", "times", "plus"] [] := Binds.all fun us hl => match us, hl with | [_, _, _], _ => rfl
  have FS_TurnRule_init : Ev.FnS l.prog K "__init__" "TurnRule.__init__" (inClass (top 18) 0) f_TurnRule_init cc_TurnRule_init C_TurnRule (PySem.W.ksFn "__init__" "TurnRule.__init__" (C8.fnArgs (inClass (top 18) 0)) (C8.fnBody (inClass (top 18) 0)) (C8.fnScope (inClass (top 18) 0)) (.ref DT_TurnRule_init) (.ref DK_TurnRule_init) dc_TurnRule_init pm_TurnRule_init an_TurnRule_init (.ref ca_TurnRule_init) ct_TurnRule_init cc_TurnRule_init) := ⟨⟨_, _, _, _, _, _, _, _, _, _, _, _, _, _, _, _, _, _, _, _, rfl, y253, y254, y257, y258, y259, y260, y261⟩⟩
  have FS_TryRule_init : Ev.FnS l.prog K "__init__" "TryRule.__init__" (inClass (top 19) 0) f_TryRule_init cc_TryRule_init C_TryRule (PySem.W.ksFn "__init__" "TryRule.__init__" (C8.fnArgs (inClass (top 19) 0)) (C8.fnBody (inClass (top 19) 0)) (C8.fnScope (inClass (top 19) 0)) (.ref DT_TryRule_init) kV_TryRule_init dc_TryRule_init pm_TryRule_init an_TryRule_init (.ref ca_TryRule_init) ct_TryRule_init cc_TryRule_init) := ⟨⟨_, _, _, _, _, _, _, _, _, _, _, _, _, _, _, _, _, _, _, _, rfl, y263, y264, y267, y268, y269, y270, y271⟩⟩
  have F_law_rule : Ev.Fn K "_law_rule" "_law_rule" (top 41) f_law_rule (PySem.W.fnOf "_law_rule" "_law_rule" (C8.fnArgs (top 41)) (C8.fnBody (top 41)) (C8.fnScope (top 41)) .none kV_law_rule dc_law_rule pm_law_rule an_law_rule cd_law_rule ct_law_rule) := ⟨⟨_, _, _, _, _, _, _, _, _, _, rfl, y273, y274⟩⟩
  have b_law_rule : Binds K (PySem.W.fnOf "_law_rule" "_law_rule" (C8.fnArgs (top 41)) (C8.fnBody (top 41)) (C8.fnScope (top 41)) .none kV_law_rule dc_law_rule pm_law_rule an_law_rule cd_law_rule ct_law_rule) ["_law_some", "_law_is_turn"] [] := Binds.all fun us hl => match us, hl with | [_, _], _ => rfl
  have F_law_top : Ev.Fn K "_law_top" "_law_top" (top 42) f_law_top (PySem.W.fnOf "_law_top" "_law_top" (C8.fnArgs (top 42)) (C8.fnBody (top 42)) (C8.fnScope (top 42)) .none kV_law_top dc_law_top pm_law_top an_law_top cd_law_top ct_law_top) := ⟨⟨_, _, _, _, _, _, _, _, _, _, rfl, y277, y278⟩⟩
  have b_law_top : Binds K (PySem.W.fnOf "_law_top" "_law_top" (C8.fnArgs (top 42)) (C8.fnBody (top 42)) (C8.fnScope (top 42)) .none kV_law_top dc_law_top pm_law_top an_law_top cd_law_top ct_law_top) ["_law_some", "_law_x"] [] := Binds.all fun us hl => match us, hl with | [_, _], _ => rfl
  have F_law_is_even : Ev.Fn K "_law_is_even" "_law_is_even" (top 43) f_law_is_even (PySem.W.fnOf "_law_is_even" "_law_is_even" (C8.fnArgs (top 43)) (C8.fnBody (top 43)) (C8.fnScope (top 43)) .none kV_law_is_even dc_law_is_even pm_law_is_even an_law_is_even cd_law_is_even ct_law_is_even) := ⟨⟨_, _, _, _, _, _, _, _, _, _, rfl, y281, y282⟩⟩
  have b_law_is_even : Binds K (PySem.W.fnOf "_law_is_even" "_law_is_even" (C8.fnArgs (top 43)) (C8.fnBody (top 43)) (C8.fnScope (top 43)) .none kV_law_is_even dc_law_is_even pm_law_is_even an_law_is_even cd_law_is_even ct_law_is_even) ["_law_some", "_law_x", "_law_y"] [] := Binds.all fun us hl => match us, hl with | [_, _, _], _ => rfl
  have F_law_seen : Ev.Fn K "_law_seen" "_law_seen" (top 44) f_law_seen (PySem.W.fnOf "_law_seen" "_law_seen" (C8.fnArgs (top 44)) (C8.fnBody (top 44)) (C8.fnScope (top 44)) .none kV_law_seen dc_law_seen pm_law_seen an_law_seen cd_law_seen ct_law_seen) := ⟨⟨_, _, _, _, _, _, _, _, _, _, rfl, y285, y286⟩⟩
  have b_law_seen : Binds K (PySem.W.fnOf "_law_seen" "_law_seen" (C8.fnArgs (top 44)) (C8.fnBody (top 44)) (C8.fnScope (top 44)) .none kV_law_seen dc_law_seen pm_law_seen an_law_seen cd_law_seen ct_law_seen) ["_law_some", "_law_most"] [] := Binds.all fun us hl => match us, hl with | [_, _], _ => rfl
  have F_need_number : Ev.Fn K "need_number" "need_number" (top 29) f_need_number (PySem.W.fnOf "need_number" "need_number" (C8.fnArgs (top 29)) (C8.fnBody (top 29)) (C8.fnScope (top 29)) .none kV_need_number dc_need_number pm_need_number an_need_number cd_need_number ct_need_number) := ⟨⟨_, _, _, _, _, _, _, _, _, _, rfl, y289, y290⟩⟩
  have b_need_number : Binds K (PySem.W.fnOf "need_number" "need_number" (C8.fnArgs (top 29)) (C8.fnBody (top 29)) (C8.fnScope (top 29)) .none kV_need_number dc_need_number pm_need_number an_need_number cd_need_number ct_need_number) ["value", "most"] [] := Binds.all fun us hl => match us, hl with | [_, _], _ => rfl
  have F_least_height : Ev.Fn K "least_height" "least_height" (top 35) f_least_height (PySem.W.fnOf "least_height" "least_height" (C8.fnArgs (top 35)) (C8.fnBody (top 35)) (C8.fnScope (top 35)) .none kV_least_height dc_least_height pm_least_height an_least_height cd_least_height ct_least_height) := ⟨⟨_, _, _, _, _, _, _, _, _, _, rfl, y293, y294⟩⟩
  have b_least_height : Binds K (PySem.W.fnOf "least_height" "least_height" (C8.fnArgs (top 35)) (C8.fnBody (top 35)) (C8.fnScope (top 35)) .none kV_least_height dc_least_height pm_least_height an_least_height cd_least_height ct_least_height) ["keys"] [] := Binds.all fun us hl => match us, hl with | [_], _ => rfl
  have F_need_weight_rule : Ev.Fn K "need_weight_rule" "need_weight_rule" (top 25) f_need_weight_rule (PySem.W.fnOf "need_weight_rule" "need_weight_rule" (C8.fnArgs (top 25)) (C8.fnBody (top 25)) (C8.fnScope (top 25)) .none kV_need_weight_rule dc_need_weight_rule pm_need_weight_rule an_need_weight_rule cd_need_weight_rule ct_need_weight_rule) := ⟨⟨_, _, _, _, _, _, _, _, _, _, rfl, y297, y298⟩⟩
  have b_need_weight_rule : Binds K (PySem.W.fnOf "need_weight_rule" "need_weight_rule" (C8.fnArgs (top 25)) (C8.fnBody (top 25)) (C8.fnScope (top 25)) .none kV_need_weight_rule dc_need_weight_rule pm_need_weight_rule an_need_weight_rule cd_need_weight_rule ct_need_weight_rule) ["rule"] [] := Binds.all fun us hl => match us, hl with | [_], _ => rfl
  have F_higher : Ev.Fn K "higher" "higher" (top 30) f_higher (PySem.W.fnOf "higher" "higher" (C8.fnArgs (top 30)) (C8.fnBody (top 30)) (C8.fnScope (top 30)) .none kV_higher dc_higher pm_higher an_higher cd_higher ct_higher) := ⟨⟨_, _, _, _, _, _, _, _, _, _, rfl, y301, y302⟩⟩
  have b_higher : Binds K (PySem.W.fnOf "higher" "higher" (C8.fnArgs (top 30)) (C8.fnBody (top 30)) (C8.fnScope (top 30)) .none kV_higher dc_higher pm_higher an_higher cd_higher ct_higher) ["rule", "weight"] [] := Binds.all fun us hl => match us, hl with | [_, _], _ => rfl
  have F_highest : Ev.Fn K "highest" "highest" (top 33) f_highest (PySem.W.fnOf "highest" "highest" (C8.fnArgs (top 33)) (C8.fnBody (top 33)) (C8.fnScope (top 33)) .none kV_highest dc_highest pm_highest an_highest cd_highest ct_highest) := ⟨⟨_, _, _, _, _, _, _, _, _, _, rfl, y305, y306⟩⟩
  have b_highest : Binds K (PySem.W.fnOf "highest" "highest" (C8.fnArgs (top 33)) (C8.fnBody (top 33)) (C8.fnScope (top 33)) .none kV_highest dc_highest pm_highest an_highest cd_highest ct_highest) ["rule", "weight"] [] := Binds.all fun us hl => match us, hl with | [_, _], _ => rfl
  have F_greatest_height : Ev.Fn K "greatest_height" "greatest_height" (top 34) f_greatest_height (PySem.W.fnOf "greatest_height" "greatest_height" (C8.fnArgs (top 34)) (C8.fnBody (top 34)) (C8.fnScope (top 34)) .none kV_greatest_height dc_greatest_height pm_greatest_height an_greatest_height cd_greatest_height ct_greatest_height) := ⟨⟨_, _, _, _, _, _, _, _, _, _, rfl, y309, y310⟩⟩
  have b_greatest_height : Binds K (PySem.W.fnOf "greatest_height" "greatest_height" (C8.fnArgs (top 34)) (C8.fnBody (top 34)) (C8.fnScope (top 34)) .none kV_greatest_height dc_greatest_height pm_greatest_height an_greatest_height cd_greatest_height ct_greatest_height) ["rule", "keys"] [] := Binds.all fun us hl => match us, hl with | [_, _], _ => rfl
  have F_heights : Ev.Fn K "heights" "heights" (top 32) f_heights (PySem.W.fnOf "heights" "heights" (C8.fnArgs (top 32)) (C8.fnBody (top 32)) (C8.fnScope (top 32)) .none kV_heights dc_heights pm_heights an_heights cd_heights ct_heights) := ⟨⟨_, _, _, _, _, _, _, _, _, _, rfl, y313, y314⟩⟩
  have b_heights : Binds K (PySem.W.fnOf "heights" "heights" (C8.fnArgs (top 32)) (C8.fnBody (top 32)) (C8.fnScope (top 32)) .none kV_heights dc_heights pm_heights an_heights cd_heights ct_heights) ["rule"] [] := Binds.all fun us hl => match us, hl with | [_], _ => rfl
  have F_least_keys : Ev.Fn K "least_keys" "least_keys" (top 31) f_least_keys (PySem.W.fnOf "least_keys" "least_keys" (C8.fnArgs (top 31)) (C8.fnBody (top 31)) (C8.fnScope (top 31)) .none kV_least_keys dc_least_keys pm_least_keys an_least_keys cd_least_keys ct_least_keys) := ⟨⟨_, _, _, _, _, _, _, _, _, _, rfl, y317, y318⟩⟩
  have b_least_keys : Binds K (PySem.W.fnOf "least_keys" "least_keys" (C8.fnArgs (top 31)) (C8.fnBody (top 31)) (C8.fnScope (top 31)) .none kV_least_keys dc_least_keys pm_least_keys an_least_keys cd_least_keys ct_least_keys) ["rule", "height"] [] := Binds.all fun us hl => match us, hl with | [_, _], _ => rfl
  have F_law_right : Ev.Fn K "_law_right" "_law_right" (top 45) f_law_right (PySem.W.fnOf "_law_right" "_law_right" (C8.fnArgs (top 45)) (C8.fnBody (top 45)) (C8.fnScope (top 45)) .none kV_law_right dc_law_right pm_law_right an_law_right cd_law_right ct_law_right) := ⟨⟨_, _, _, _, _, _, _, _, _, _, rfl, y321, y322⟩⟩
  have b_law_right : Binds K (PySem.W.fnOf "_law_right" "_law_right" (C8.fnArgs (top 45)) (C8.fnBody (top 45)) (C8.fnScope (top 45)) .none kV_law_right dc_law_right pm_law_right an_law_right cd_law_right ct_law_right) ["_law_pen_here", "_law_most"] [] := Binds.all fun us hl => match us, hl with | [_, _], _ => rfl
  have F_BadRule_init : Ev.Fn K "__init__" "BadRule.__init__" (inClass (top 2) 0) f_BadRule_init (PySem.W.fnOf "__init__" "BadRule.__init__" (C8.fnArgs (inClass (top 2) 0)) (C8.fnBody (inClass (top 2) 0)) (C8.fnScope (inClass (top 2) 0)) .none kV_BadRule_init dc_BadRule_init pm_BadRule_init an_BadRule_init cd_BadRule_init ct_BadRule_init) := ⟨⟨_, _, _, _, _, _, _, _, _, _, rfl, y325, y326⟩⟩
  have b_BadRule_init : Binds K (PySem.W.fnOf "__init__" "BadRule.__init__" (C8.fnArgs (inClass (top 2) 0)) (C8.fnBody (inClass (top 2) 0)) (C8.fnScope (inClass (top 2) 0)) .none kV_BadRule_init dc_BadRule_init pm_BadRule_init an_BadRule_init cd_BadRule_init ct_BadRule_init) ["self", "part"] [] := Binds.all fun us hl => match us, hl with | [_, _], _ => rfl
  have F_NoHalves_init : Ev.Fn K "__init__" "NoHalves.__init__" (inClass (top 3) 0) f_NoHalves_init (PySem.W.fnOf "__init__" "NoHalves.__init__" (C8.fnArgs (inClass (top 3) 0)) (C8.fnBody (inClass (top 3) 0)) (C8.fnScope (inClass (top 3) 0)) .none kV_NoHalves_init dc_NoHalves_init pm_NoHalves_init an_NoHalves_init cd_NoHalves_init ct_NoHalves_init) := ⟨⟨_, _, _, _, _, _, _, _, _, _, rfl, y330, y331⟩⟩
  have b_NoHalves_init : Binds K (PySem.W.fnOf "__init__" "NoHalves.__init__" (C8.fnArgs (inClass (top 3) 0)) (C8.fnBody (inClass (top 3) 0)) (C8.fnScope (inClass (top 3) 0)) .none kV_NoHalves_init dc_NoHalves_init pm_NoHalves_init an_NoHalves_init cd_NoHalves_init ct_NoHalves_init) ["self", "weight"] [] := Binds.all fun us hl => match us, hl with | [_, _], _ => rfl
  have F_BadNumber_init : Ev.Fn K "__init__" "BadNumber.__init__" (inClass (top 4) 0) f_BadNumber_init (PySem.W.fnOf "__init__" "BadNumber.__init__" (C8.fnArgs (inClass (top 4) 0)) (C8.fnBody (inClass (top 4) 0)) (C8.fnScope (inClass (top 4) 0)) .none kV_BadNumber_init dc_BadNumber_init pm_BadNumber_init an_BadNumber_init cd_BadNumber_init ct_BadNumber_init) := ⟨⟨_, _, _, _, _, _, _, _, _, _, rfl, y335, y336⟩⟩
  have b_BadNumber_init : Binds K (PySem.W.fnOf "__init__" "BadNumber.__init__" (C8.fnArgs (inClass (top 4) 0)) (C8.fnBody (inClass (top 4) 0)) (C8.fnScope (inClass (top 4) 0)) .none kV_BadNumber_init dc_BadNumber_init pm_BadNumber_init an_BadNumber_init cd_BadNumber_init ct_BadNumber_init) ["self", "value"] [] := Binds.all fun us hl => match us, hl with | [_, _], _ => rfl
  have F_law : Ev.Fn K "law" "law" (top 46) f_law (PySem.W.fnOf "law" "law" (C8.fnArgs (top 46)) (C8.fnBody (top 46)) (C8.fnScope (top 46)) .none kV_law dc_law pm_law an_law cd_law ct_law) := ⟨⟨_, _, _, _, _, _, _, _, _, _, rfl, y340, y341⟩⟩
  have b_law : Binds K (PySem.W.fnOf "law" "law" (C8.fnArgs (top 46)) (C8.fnBody (top 46)) (C8.fnScope (top 46)) .none kV_law dc_law pm_law an_law cd_law ct_law) ["_law_script"] [] := Binds.all fun us hl => match us, hl with | [_], _ => rfl
  have HD_TurnRule_init : DflV K (.ref DT_TurnRule_init) [.int 0] := Or.inr ⟨by simp, DT_TurnRule_init, _, [.int 0 u_TurnRule_init_0], _, rfl, y358, rfl, (.cons ⟨_, rfl⟩ .nil)⟩
  have HK_TurnRule_init : KwdV K (.ref DK_TurnRule_init) [("turn_plus", .int 0)] := Or.inr ⟨DK_TurnRule_init, rfl, fun q hq => by
    rcases List.mem_cons.mp hq with rfl | hq
    · exact ⟨_, y359, ⟨_, rfl⟩⟩
    · cases hq⟩
  obtain ⟨_, kb_TurnRule_init_2_turn_turn_plus⟩ : ∃ g, KBn K (PySem.W.ksFn "__init__" "TurnRule.__init__" (C8.fnArgs (inClass (top 18) 0)) (C8.fnBody (inClass (top 18) 0)) (C8.fnScope (inClass (top 18) 0)) (.ref DT_TurnRule_init) (.ref DK_TurnRule_init) dc_TurnRule_init pm_TurnRule_init an_TurnRule_init (.ref ca_TurnRule_init) ct_TurnRule_init cc_TurnRule_init) ["self", "times", "plus", "turn", "turn_plus"] 3 ["turn", "turn_plus"] g (Pu.pkS [.int 0] (List.map (fun q => q.2) ([] : List (Str × V))) [(0, 0), (0, 1), (3, 0), (3, 1)]) := Pu.kbC_DK HD_TurnRule_init HK_TurnRule_init [] [(0, 0), (0, 1), (3, 0), (3, 1)] (by simp) (by simp) (fun q hq => by simp at hq ⊢; try (rcases hq with rfl | hq <;> simp_all)) (fun T D doc pm an cdv ct us its mv ws l1 l2 l3 l4 => match us, its, mv, ws, l1, l2, l3, l4 with | [_, _, _], [_], [], [_, _], _, _, _, _ => ⟨_, rfl, rfl⟩)
  have HD_TryRule_init : DflV K (.ref DT_TryRule_init) [.int 0] := Or.inr ⟨by simp, DT_TryRule_init, _, [.int 0 u_TryRule_init_0], _, rfl, y368, rfl, (.cons ⟨_, rfl⟩ .nil)⟩
  obtain ⟨_, kb_TryRule_init_2_⟩ : ∃ g, KBn K (PySem.W.ksFn "__init__" "TryRule.__init__" (C8.fnArgs (inClass (top 19) 0)) (C8.fnBody (inClass (top 19) 0)) (C8.fnScope (inClass (top 19) 0)) (.ref DT_TryRule_init) kV_TryRule_init dc_TryRule_init pm_TryRule_init an_TryRule_init (.ref ca_TryRule_init) ct_TryRule_init cc_TryRule_init) ["self", "times", "plus"] 3 [] g (Pu.pkS [.int 0] (List.map (fun q => q.2) ([] : List (Str × V))) [(0, 0), (0, 1)]) := Pu.kbC_D0 HD_TryRule_init [(0, 0), (0, 1)] (by simp) (fun T us its ws l1 l2 l3 => match us, its, ws, l1, l2, l3 with | [_, _, _], [_], [], _, _, _ => ⟨_, rfl, rfl⟩)
  refine ⟨(PySem.W.fnOf "law" "law" (C8.fnArgs (top 46)) (C8.fnBody (top 46)) (C8.fnScope (top 46)) .none kV_law dc_law pm_law an_law cd_law ct_law), [], spLaw K cm.T, (fun q hq => by cases hq), fun s v => .of_eq rfl, fun H a ns hl hH hS => ⟨a, ns, rfl, hS, hl, fun p hp => ?_, fun _ => rfl⟩, fun base _ _ hTB SM0 => ?_⟩
  · rw [hT] at hp
    cases hp
  have g_draw := ok_draw (P := l.prog) (w := w) (base := base) F_draw T
  have c_draw : Ev.GC l.prog w K mg base 1 "_law_draw" spDraw [] := ⟨⟨_, _, _, _, g_draw, PySem.W.mg_of X G y202, y205, b_draw, .nil⟩⟩
  have g_pen := ok_pen (P := l.prog) (w := w) (base := base) F_pen T
  have c_pen : Ev.GC l.prog w K mg base 1 "_law_pen" (spPen K) [] := ⟨⟨_, _, _, _, g_pen, PySem.W.mg_of X G y206, y209, b_pen, .nil⟩⟩
  have g_law_pick := ok_law_pick (P := l.prog) (w := w) (base := base) F_law_pick T c_draw
  have c_law_pick : Ev.GC l.prog w K mg base 2 "_law_pick" (spP K cm 2 m_law_pick) [] := ⟨⟨_, _, _, _, g_law_pick, PySem.W.mg_of X G y210, y213, b_law_pick, .nil⟩⟩
  have g_law_numbers := ok_law_numbers (P := l.prog) (w := w) (base := base) F_law_numbers T c_draw c_law_pick
  have c_law_numbers : Ev.GC l.prog w K mg base 3 "_law_numbers" (spP K cm 1 m_law_numbers) [] := ⟨⟨_, _, _, _, g_law_numbers, PySem.W.mg_of X G y214, y217, b_law_numbers, .nil⟩⟩
  have g_is_integer := ok_is_integer (P := l.prog) (w := w) (base := base) F_is_integer T
  have c_is_integer : Ev.GC l.prog w K mg base 1 "is_integer" (spP K cm 1 m_is_integer) [] := ⟨⟨_, _, _, _, g_is_integer, PySem.W.mg_of X G y218, y221, b_is_integer, .nil⟩⟩
  have g_is_within := ok_is_within (P := l.prog) (w := w) (base := base) F_is_within T c_is_integer
  have c_is_within : Ev.GC l.prog w K mg base 2 "is_within" (spP K cm 3 m_is_within) [] := ⟨⟨_, _, _, _, g_is_within, PySem.W.mg_of X G y222, y225, b_is_within, .nil⟩⟩
  have g_is_times := ok_is_times (P := l.prog) (w := w) (base := base) F_is_times T c_is_within
  have c_is_times : Ev.GC l.prog w K mg base 3 "is_times" (spP K cm 2 m_is_times) [] := ⟨⟨_, _, _, _, g_is_times, PySem.W.mg_of X G y226, y229, b_is_times, .nil⟩⟩
  have xc_BadRule : Ev.XC l.prog w K mg base "BadRule" X_BadRule (Ev.spX1 K "part") 1 := ⟨⟨_, _, _, T.oe_BadRule, y324, y343, ok_BadRule_init F_BadRule_init, b_BadRule_init, PySem.W.mg_of X G y126⟩⟩
  have g_need_plus := ok_need_plus (P := l.prog) (w := w) (base := base) F_need_plus T c_is_within xc_BadRule
  have c_need_plus : Ev.GC l.prog w K mg base 3 "need_plus" (spP K cm 2 m_need_plus) [] := ⟨⟨_, _, _, _, g_need_plus, PySem.W.mg_of X G y230, y233, b_need_plus, .nil⟩⟩
  have g_WeightRule_need_numbers := ok_WeightRule_need_numbers (P := l.prog) (w := w) (base := base) F_WeightRule_need_numbers T c_is_times xc_BadRule c_need_plus
  have c_sneed_numbers_TurnRule : ∀ C, (C = C_TurnRule) → Ev.GS l.prog w K mg base 4 C "need_numbers" (spP K cm 2 m_WeightRule_need_numbers) [] := by
    rintro C h
    rcases h with rfl
    · exact ⟨⟨p_WeightRule_need_numbers, _, _, _, [], ci_TurnRule.cl, y344, y239, y240, y241, by decide +kernel, ⟨_, y235⟩, y238, g_WeightRule_need_numbers, b_WeightRule_need_numbers, .nil⟩⟩
  have c_sneed_numbers_TurnRule_TryRule : ∀ C, (C = C_TurnRule ∨ C = C_TryRule) → Ev.GS l.prog w K mg base 4 C "need_numbers" (spP K cm 2 m_WeightRule_need_numbers) [] := by
    rintro C h
    rcases h with rfl | rfl
    · exact ⟨⟨p_WeightRule_need_numbers, _, _, _, [], ci_TurnRule.cl, y345, y239, y240, y241, by decide +kernel, ⟨_, y235⟩, y238, g_WeightRule_need_numbers, b_WeightRule_need_numbers, .nil⟩⟩
    · exact ⟨⟨p_WeightRule_need_numbers, _, _, _, [], ci_TryRule.cl, y346, y239, y240, y241, by decide +kernel, ⟨_, y235⟩, y238, g_WeightRule_need_numbers, b_WeightRule_need_numbers, .nil⟩⟩
  have g_WeightRule_beside := ok_WeightRule_beside (P := l.prog) (w := w) (base := base) F_WeightRule_beside T
  have c_TurnRule_WeightRule_beside : Ev.GM l.prog w K mg base 1 C_TurnRule "beside" (spP K cm 2 m_WeightRule_beside) [] := ⟨⟨_, _, _, _, ci_TurnRule.cl, ⟨y347, y246, y245⟩, g_WeightRule_beside, b_WeightRule_beside, .nil⟩⟩
  have c_TryRule_WeightRule_beside : Ev.GM l.prog w K mg base 1 C_TryRule "beside" (spP K cm 2 m_WeightRule_beside) [] := ⟨⟨_, _, _, _, ci_TryRule.cl, ⟨y348, y246, y245⟩, g_WeightRule_beside, b_WeightRule_beside, .nil⟩⟩
  have c_pbeside_TurnRule_TryRule : ∀ C sp, ((C = C_TurnRule ∧ sp = spP K cm 2 m_WeightRule_beside) ∨ (C = C_TryRule ∧ sp = spP K cm 2 m_WeightRule_beside)) → Ev.GM l.prog w K mg base 1 C "beside" sp [] := by
    rintro C sp h
    rcases h with ⟨rfl, rfl⟩ | ⟨rfl, rfl⟩
    · exact c_TurnRule_WeightRule_beside.mono (by decide)
    · exact c_TryRule_WeightRule_beside.mono (by decide)
  have xc_NoHalves : Ev.XC l.prog w K mg base "NoHalves" X_NoHalves (Ev.spX1 K "weight") 1 := ⟨⟨_, _, _, T.oe_NoHalves, y329, y349, ok_NoHalves_init F_NoHalves_init, b_NoHalves_init, PySem.W.mg_of X G y130⟩⟩
  have g_WeightRule_init := ok_WeightRule_init (P := l.prog) (w := w) (base := base) F_WeightRule_init T c_sneed_numbers_TurnRule_TryRule c_pbeside_TurnRule_TryRule xc_NoHalves
  have SP_TurnRule_init : Ev.Sup l.prog K mg C_TurnRule "__init__" f_WeightRule_init := ⟨PySem.W.mg_none_of X G y350, y351, Ev.boot_super, y65, y352, y353, y354, y355⟩
  have g_TurnRule_init := ok_TurnRule_init (P := l.prog) (w := w) (base := base) FS_TurnRule_init SP_TurnRule_init g_WeightRule_init b_WeightRule_init T c_sneed_numbers_TurnRule c_is_times xc_BadRule c_need_plus
  have c_mk_TurnRule_2_turn_turn_plus : Ev.GN l.prog w K mg base 6 "TurnRule" C_TurnRule (spI K cm 5 m_TurnRule_init) 2 ["turn", "turn_plus"] (pkS [.int 0] [] [(0, 0), (0, 1), (3, 0), (3, 1)]) := ⟨⟨_, _, _, _, ⟨y356, y252, y256, y357⟩, g_TurnRule_init, PySem.W.mg_of X G y34, kb_TurnRule_init_2_turn_turn_plus⟩⟩
  have SP_TryRule_init : Ev.Sup l.prog K mg C_TryRule "__init__" f_WeightRule_init := ⟨PySem.W.mg_none_of X G y360, y361, Ev.boot_super, y70, y362, y363, y364, y365⟩
  have g_TryRule_init := ok_TryRule_init (P := l.prog) (w := w) (base := base) FS_TryRule_init SP_TryRule_init g_WeightRule_init b_WeightRule_init T
  have c_mk_TryRule_2_ : Ev.GN l.prog w K mg base 6 "TryRule" C_TryRule (spI K cm 3 m_TryRule_init) 2 [] (pkS [.int 0] [] [(0, 0), (0, 1)]) := ⟨⟨_, _, _, _, ⟨y366, y262, y266, y367⟩, g_TryRule_init, PySem.W.mg_of X G y45, kb_TryRule_init_2_⟩⟩
  have g_law_rule := ok_law_rule (P := l.prog) (w := w) (base := base) F_law_rule T c_mk_TurnRule_2_turn_turn_plus c_mk_TryRule_2_
  have c_law_rule : Ev.GC l.prog w K mg base 8 "_law_rule" (spP K cm 2 m_law_rule) [] := ⟨⟨_, _, _, _, g_law_rule, PySem.W.mg_of X G y272, y275, b_law_rule, .nil⟩⟩
  have g_law_top := ok_law_top (P := l.prog) (w := w) (base := base) F_law_top T
  have c_law_top : Ev.GC l.prog w K mg base 1 "_law_top" (spP K cm 2 m_law_top) [] := ⟨⟨_, _, _, _, g_law_top, PySem.W.mg_of X G y276, y279, b_law_top, .nil⟩⟩
  have g_law_is_even := ok_law_is_even (P := l.prog) (w := w) (base := base) F_law_is_even T c_law_top
  have c_law_is_even : Ev.GC l.prog w K mg base 2 "_law_is_even" (spP K cm 3 m_law_is_even) [] := ⟨⟨_, _, _, _, g_law_is_even, PySem.W.mg_of X G y280, y283, b_law_is_even, .nil⟩⟩
  have g_law_seen := ok_law_seen (P := l.prog) (w := w) (base := base) F_law_seen T c_law_is_even
  have c_law_seen : Ev.GC l.prog w K mg base 3 "_law_seen" (spP K cm 2 m_law_seen) [] := ⟨⟨_, _, _, _, g_law_seen, PySem.W.mg_of X G y284, y287, b_law_seen, .nil⟩⟩
  have xc_BadNumber : Ev.XC l.prog w K mg base "BadNumber" X_BadNumber (Ev.spX1 K "value") 1 := ⟨⟨_, _, _, T.oe_BadNumber, y334, y369, ok_BadNumber_init F_BadNumber_init, b_BadNumber_init, PySem.W.mg_of X G y134⟩⟩
  have g_need_number := ok_need_number (P := l.prog) (w := w) (base := base) F_need_number T c_is_within xc_BadNumber
  have c_need_number : Ev.GC l.prog w K mg base 3 "need_number" (spP K cm 2 m_need_number) [] := ⟨⟨_, _, _, _, g_need_number, PySem.W.mg_of X G y288, y291, b_need_number, .nil⟩⟩
  have g_least_height := ok_least_height (P := l.prog) (w := w) (base := base) F_least_height T c_need_number
  have c_least_height : Ev.GC l.prog w K mg base 4 "least_height" (spP K cm 1 m_least_height) [] := ⟨⟨_, _, _, _, g_least_height, PySem.W.mg_of X G y292, y295, b_least_height, .nil⟩⟩
  have g_need_weight_rule := ok_need_weight_rule (P := l.prog) (w := w) (base := base) F_need_weight_rule T xc_BadRule
  have c_need_weight_rule : Ev.GC l.prog w K mg base 3 "need_weight_rule" (spP K cm 1 m_need_weight_rule) [] := ⟨⟨_, _, _, _, g_need_weight_rule, PySem.W.mg_of X G y296, y299, b_need_weight_rule, .nil⟩⟩
  have g_higher := ok_higher (P := l.prog) (w := w) (base := base) F_higher T
  have c_higher : Ev.GC l.prog w K mg base 1 "higher" (spP K cm 2 m_higher) [] := ⟨⟨_, _, _, _, g_higher, PySem.W.mg_of X G y300, y303, b_higher, .nil⟩⟩
  have g_highest := ok_highest (P := l.prog) (w := w) (base := base) F_highest T c_higher
  have c_highest : Ev.GC l.prog w K mg base 2 "highest" (spP K cm 2 m_highest) [] := ⟨⟨_, _, _, _, g_highest, PySem.W.mg_of X G y304, y307, b_highest, .nil⟩⟩
  have g_greatest_height := ok_greatest_height (P := l.prog) (w := w) (base := base) F_greatest_height T c_need_weight_rule c_need_number c_highest
  have c_greatest_height : Ev.GC l.prog w K mg base 4 "greatest_height" (spP K cm 2 m_greatest_height) [] := ⟨⟨_, _, _, _, g_greatest_height, PySem.W.mg_of X G y308, y311, b_greatest_height, .nil⟩⟩
  have g_heights := ok_heights (P := l.prog) (w := w) (base := base) F_heights T c_need_weight_rule c_higher
  have c_heights : EvG.GnC l.prog w K mg base 4 "heights" (spG K cm 1 m_heights) := ⟨⟨_, _, _, g_heights, PySem.W.mg_of X G y312, y315, b_heights⟩⟩
  have g_least_keys := ok_least_keys (P := l.prog) (w := w) (base := base) F_least_keys T c_need_weight_rule c_need_number c_higher
  have c_least_keys : Ev.GC l.prog w K mg base 4 "least_keys" (spP K cm 2 m_least_keys) [] := ⟨⟨_, _, _, _, g_least_keys, PySem.W.mg_of X G y316, y319, b_least_keys, .nil⟩⟩
  have g_law_right := ok_law_right (P := l.prog) (w := w) (base := base) F_law_right T c_law_numbers c_draw c_law_rule c_law_seen c_least_height c_greatest_height c_heights c_least_keys
  have c_law_right : Ev.GC l.prog w K mg base 9 "_law_right" (spP K cm 2 m_law_right) [] := ⟨⟨_, _, _, _, g_law_right, PySem.W.mg_of X G y320, y323, b_law_right, .nil⟩⟩
  exact ok_law (P := l.prog) (w := w) (base := base) F_law T pure c_draw c_law_right c_pen
end K29
open PySem PySem.W PyProof.Rows
set_option maxRecDepth 100000 in
set_option maxHeartbeats 0 in
theorem PySem.Challenge.cw_evenrules_k29_whole_heights_by_all_split_holds : PySem.Challenge.rw_evenrules_k29_whole_heights_by_all_split.Holds := by
  refine K29.head ?_
  k_fill
  refine Ev.walk_gT (l := PySem.Challenge.rw_evenrules_k29_whole_heights_by_all_split) (n := 63) (k := 10) (x := "_law_script") [] rfl (by decide) rfl ⟨rfl, by decide, by decide⟩ (by decide +kernel) (by decide +kernel) (fun w h Y => by first | exact PySem.W.kIn_of Y | exact PySem.W.km_in_of Y) ?F
  case F =>
    intro w mg fa h KX G hmg
    refine' K29.all_mk K29.law_pure KX G hmg ?y1 ?y2 ?y3 ?y4 ?y5 ?y6 ?y7 ?y8 ?y9 ?y10 ?y11 ?y12 ?y13 ?y14 ?y15 ?y16 ?y17 ?y18 ?y19 ?y20 ?y21 ?y22 ?y23 ?y24 ?y25 ?y26 ?y27 ?y28 ?y29 ?y30 ?y31 ?y32 ?y33 ?y34 ?y35 ?y36 ?y37 ?y38 ?y39 ?y40 ?y41 ?y42 ?y43 ?y44 ?y45 ?y46 ?y47 ?y48 ?y49 ?y50 ?y51 ?y52 ?y53 ?y54 ?y55 ?y56 ?y57 ?y58 ?y59 ?y60 ?y61 ?y62 ?y63 ?y64 ?y65 ?y66 ?y67 ?y68 ?y69 ?y70 ?y71 ?y72 ?y73 ?y74 ?y75 ?y76 ?y77 ?y78 ?y79 ?y80 ?y81 ?y82 ?y83 ?y84 ?y85 ?y86 ?y87 ?y88 ?y89 ?y90 ?y91 ?y92 ?y93 ?y94 ?y95 ?y96 ?y97 ?y98 ?y99 ?y100 ?y101 ?y102 ?y103 ?y104 ?y105 ?y106 ?y107 ?y108 ?y109 ?y110 ?y111 ?y112 ?y113 ?y114 ?y115 ?y116 ?y117 ?y118 ?y119 ?y120 ?y121 ?y122 ?y123 ?y124 ?y125 ?y126 ?y127 ?y128 ?y129 ?y130 ?y131 ?y132 ?y133 ?y134 ?y135 ?y136 ?y137 ?y138 ?y139 ?y140 ?y141 ?y142 ?y143 ?y144 ?y145 ?y146 ?y147 ?y148 ?y149 ?y150 ?y151 ?y152 ?y153 ?y154 ?y155 ?y156 ?y157 ?y158 ?y159 ?y160 ?y161 ?y162 ?y163 ?y164 ?y165 ?y166 ?y167 ?y168 ?y169 ?y170 ?y171 ?y172 ?y173 ?y174 ?y175 ?y176 ?y177 ?y178 ?y179 ?y180 ?y181 ?y182 ?y183 ?y184 ?y185 ?y186 ?y187 ?y188 ?y189 ?y190 ?y191 ?y192 ?y193 ?y194 ?y195 ?y196 ?y197 ?y198 ?y199 ?y200 ?y201 ?y202 ?y203 ?y204 ?y205 ?y206 ?y207 ?y208 ?y209 ?y210 ?y211 ?y212 ?y213 ?y214 ?y215 ?y216 ?y217 ?y218 ?y219 ?y220 ?y221 ?y222 ?y223 ?y224 ?y225 ?y226 ?y227 ?y228 ?y229 ?y230 ?y231 ?y232 ?y233 ?y234 ?y235 ?y236 ?y237 ?y238 ?y239 ?y240 ?y241 ?y242 ?y243 ?y244 ?y245 ?y246 ?y247 ?y248 ?y249 ?y250 ?y251 ?y252 ?y253 ?y254 ?y255 ?y256 ?y257 ?y258 ?y259 ?y260 ?y261 ?y262 ?y263 ?y264 ?y265 ?y266 ?y267 ?y268 ?y269 ?y270 ?y271 ?y272 ?y273 ?y274 ?y275 ?y276 ?y277 ?y278 ?y279 ?y280 ?y281 ?y282 ?y283 ?y284 ?y285 ?y286 ?y287 ?y288 ?y289 ?y290 ?y291 ?y292 ?y293 ?y294 ?y295 ?y296 ?y297 ?y298 ?y299 ?y300 ?y301 ?y302 ?y303 ?y304 ?y305 ?y306 ?y307 ?y308 ?y309 ?y310 ?y311 ?y312 ?y313 ?y314 ?y315 ?y316 ?y317 ?y318 ?y319 ?y320 ?y321 ?y322 ?y323 ?y324 ?y325 ?y326 ?y327 ?y328 ?y329 ?y330 ?y331 ?y332 ?y333 ?y334 ?y335 ?y336 ?y337 ?y338 ?y339 ?y340 ?y341 ?y342 ?y343 ?y344 ?y345 ?y346 ?y347 ?y348 ?y349 ?y350 ?y351 ?y352 ?y353 ?y354 ?y355 ?y356 ?y357 ?y358 ?y359 ?y360 ?y361 ?y362 ?y363 ?y364 ?y365 ?y366 ?y367 ?y368 ?y369
    (case y1 => k_is)
    (case y2 => k_is)
    (case y3 => k_is)
    (case y4 => k_is)
    (case y5 => k_is)
    (case y6 => k_is)
    (case y7 => k_is)
    (case y8 => k_is)
    (case y9 => k_is)
    (case y10 => k_is)
    (case y11 => k_is)
    (case y12 => k_is)
    (case y13 => k_is)
    (case y14 => k_is)
    (case y15 => k_is)
    (case y16 => k_is)
    (case y17 => k_is)
    (case y18 => k_is)
    (case y19 => k_is)
    (case y20 => k_is)
    (case y21 => k_is)
    (case y22 => k_is)
    (case y23 => k_is)
    (case y24 => k_is)
    (case y25 => k_is)
    (case y26 => k_is)
    (case y27 => k_is)
    (case y28 => k_is)
    (case y29 => k_is)
    (case y30 => k_is)
    (case y31 => k_is)
    (case y32 => k_is)
    (case y33 => k_is)
    (case y34 => k_is)
    (case y35 => k_is)
    (case y36 => k_is)
    (case y37 => k_is)
    (case y38 => k_is)
    (case y39 => k_is)
    (case y40 => k_is)
    (case y41 => k_is)
    (case y42 => k_is)
    (case y43 => k_is)
    (case y44 => k_is)
    (case y45 => k_is)
    (case y46 => k_is)
    (case y47 => k_is)
    (case y48 => k_is)
    (case y49 => k_is)
    (case y50 => k_is)
    (case y51 => k_is)
    (case y52 => k_is)
    (case y53 => k_is)
    (case y54 => k_is)
    (case y55 => k_is)
    (case y56 => k_is)
    (case y57 => k_is)
    (case y58 => k_is)
    (case y59 => k_is)
    (case y60 => k_is)
    (case y61 => k_is)
    (case y62 => k_is)
    (case y63 => k_is)
    (case y64 => k_is)
    (case y65 => k_is)
    (case y66 => k_is)
    (case y67 => k_is)
    (case y68 => k_is)
    (case y69 => k_is)
    (case y70 => k_is)
    (case y71 => k_is)
    (case y72 => k_is)
    (case y73 => k_is)
    (case y74 => k_is)
    (case y75 => k_is)
    (case y76 => k_is)
    (case y77 => k_is)
    (case y78 => k_is)
    (case y79 => k_is)
    (case y80 => k_is)
    (case y81 => k_is)
    (case y82 => k_is)
    (case y83 => k_is)
    (case y84 => k_is)
    (case y85 => k_is)
    (case y86 => k_is)
    (case y87 => k_is)
    (case y88 => k_is)
    (case y89 => k_is)
    (case y90 => k_is)
    (case y91 => k_is)
    (case y92 => k_is)
    (case y93 => k_is)
    (case y94 => k_is)
    (case y95 => k_is)
    (case y96 => k_is)
    (case y97 => k_is)
    (case y98 => k_is)
    (case y99 => k_is)
    (case y100 => k_is)
    (case y101 => k_is)
    (case y102 => k_is)
    (case y103 => k_is)
    (case y104 => k_is)
    (case y105 => k_is)
    (case y106 => k_is)
    (case y107 => k_is)
    (case y108 => k_is)
    (case y109 => k_is)
    (case y110 => k_is)
    (case y111 => k_is)
    (case y112 => k_is)
    (case y113 => k_is)
    (case y114 => k_is)
    (case y115 => k_is)
    (case y116 => k_is)
    (case y117 => k_is)
    (case y118 => k_is)
    (case y119 => k_is)
    (case y120 => k_is)
    (case y121 => k_is)
    (case y122 => k_is)
    (case y123 => k_is)
    (case y124 => k_is)
    (case y125 => k_is)
    (case y126 => k_is)
    (case y127 => k_is)
    (case y128 => k_is)
    (case y129 => k_is)
    (case y130 => k_is)
    (case y131 => k_is)
    (case y132 => k_is)
    (case y133 => k_is)
    (case y134 => k_is)
    (case y135 => k_is)
    (case y136 => k_is)
    (case y137 => k_is)
    (case y138 => k_is)
    (case y139 => k_is)
    (case y140 => k_is)
    (case y141 => k_is)
    (case y142 => k_is)
    (case y143 => k_is)
    (case y144 => k_is)
    (case y145 => k_is)
    (case y146 => k_is)
    (case y147 => decide +kernel)
    (case y148 => k_is)
    (case y149 => k_is)
    (case y150 => k_is)
    (case y151 => decide +kernel)
    (case y152 => k_is)
    (case y153 => k_is)
    (case y154 => k_is)
    (case y155 => decide +kernel)
    (case y156 => k_is)
    (case y157 => k_is)
    (case y158 => k_is)
    (case y159 => decide +kernel)
    (case y160 => k_is)
    (case y161 => k_is)
    (case y162 => k_is)
    (case y163 => k_is)
    (case y164 => k_is)
    (case y165 => k_is)
    (case y166 => k_is)
    (case y167 => k_is)
    (case y168 => k_is)
    (case y169 => k_is)
    (case y170 => k_is)
    (case y171 => k_is)
    (case y172 => k_is)
    (case y173 => k_is)
    (case y174 => k_is)
    (case y175 => k_is)
    (case y176 => k_is)
    (case y177 => k_is)
    (case y178 => k_is)
    (case y179 => k_is)
    (case y180 => k_is)
    (case y181 => k_is)
    (case y182 => k_is)
    (case y183 => k_is)
    (case y184 => k_is)
    (case y185 => k_is)
    (case y186 => k_is)
    (case y187 => k_is)
    (case y188 => k_is)
    (case y189 => k_is)
    (case y190 => k_is)
    (case y191 => k_is)
    (case y192 => k_is)
    (case y193 => k_is)
    (case y194 => k_is)
    (case y195 => k_is)
    (case y196 => k_is)
    (case y197 => k_is)
    (case y198 => k_is)
    (case y199 => k_is)
    (case y200 => k_is)
    (case y201 => k_is)
    (case y202 => k_is)
    (case y203 => k_is)
    (case y204 => k_is)
    (case y205 => k_is)
    (case y206 => k_is)
    (case y207 => k_is)
    (case y208 => k_is)
    (case y209 => k_is)
    (case y210 => k_is)
    (case y211 => k_is)
    (case y212 => k_is)
    (case y213 => k_is)
    (case y214 => k_is)
    (case y215 => k_is)
    (case y216 => k_is)
    (case y217 => k_is)
    (case y218 => k_is)
    (case y219 => k_is)
    (case y220 => k_is)
    (case y221 => k_is)
    (case y222 => k_is)
    (case y223 => k_is)
    (case y224 => k_is)
    (case y225 => k_is)
    (case y226 => k_is)
    (case y227 => k_is)
    (case y228 => k_is)
    (case y229 => k_is)
    (case y230 => k_is)
    (case y231 => k_is)
    (case y232 => k_is)
    (case y233 => k_is)
    (case y234 => k_is)
    (case y235 => k_is)
    (case y236 => k_is)
    (case y237 => k_is)
    (case y238 => k_is)
    (case y239 => k_is)
    (case y240 => k_is)
    (case y241 => k_is)
    (case y242 => k_is)
    (case y243 => k_is)
    (case y244 => k_is)
    (case y245 => k_is)
    (case y246 => k_is)
    (case y247 => k_is)
    (case y248 => k_is)
    (case y249 => k_is)
    (case y250 => k_is)
    (case y251 => k_is)
    (case y252 => k_is)
    (case y253 => k_is)
    (case y254 => k_is)
    (case y255 => k_is)
    (case y256 => k_is)
    (case y257 => k_is)
    (case y258 => rfl)
    (case y259 => first | rfl | decide +kernel)
    (case y260 => k_is)
    (case y261 => k_is)
    (case y262 => k_is)
    (case y263 => k_is)
    (case y264 => k_is)
    (case y265 => k_is)
    (case y266 => k_is)
    (case y267 => k_is)
    (case y268 => rfl)
    (case y269 => first | rfl | decide +kernel)
    (case y270 => k_is)
    (case y271 => k_is)
    (case y272 => k_is)
    (case y273 => k_is)
    (case y274 => k_is)
    (case y275 => k_is)
    (case y276 => k_is)
    (case y277 => k_is)
    (case y278 => k_is)
    (case y279 => k_is)
    (case y280 => k_is)
    (case y281 => k_is)
    (case y282 => k_is)
    (case y283 => k_is)
    (case y284 => k_is)
    (case y285 => k_is)
    (case y286 => k_is)
    (case y287 => k_is)
    (case y288 => k_is)
    (case y289 => k_is)
    (case y290 => k_is)
    (case y291 => k_is)
    (case y292 => k_is)
    (case y293 => k_is)
    (case y294 => k_is)
    (case y295 => k_is)
    (case y296 => k_is)
    (case y297 => k_is)
    (case y298 => k_is)
    (case y299 => k_is)
    (case y300 => k_is)
    (case y301 => k_is)
    (case y302 => k_is)
    (case y303 => k_is)
    (case y304 => k_is)
    (case y305 => k_is)
    (case y306 => k_is)
    (case y307 => k_is)
    (case y308 => k_is)
    (case y309 => k_is)
    (case y310 => k_is)
    (case y311 => k_is)
    (case y312 => k_is)
    (case y313 => k_is)
    (case y314 => k_is)
    (case y315 => k_is)
    (case y316 => k_is)
    (case y317 => k_is)
    (case y318 => k_is)
    (case y319 => k_is)
    (case y320 => k_is)
    (case y321 => k_is)
    (case y322 => k_is)
    (case y323 => k_is)
    (case y324 => k_is)
    (case y325 => k_is)
    (case y326 => k_is)
    (case y327 => k_is)
    (case y328 => k_is)
    (case y329 => k_is)
    (case y330 => k_is)
    (case y331 => k_is)
    (case y332 => k_is)
    (case y333 => k_is)
    (case y334 => k_is)
    (case y335 => k_is)
    (case y336 => k_is)
    (case y337 => k_is)
    (case y338 => k_is)
    (case y339 => k_is)
    (case y340 => k_is)
    (case y341 => k_is)
    (case y342 => k_is)
    (case y343 => k_is)
    (case y344 => k_is)
    (case y345 => k_is)
    (case y346 => k_is)
    (case y347 => k_is)
    (case y348 => k_is)
    (case y349 => k_is)
    (case y350 => k_is)
    (case y351 => decide +kernel)
    (case y352 => k_is)
    (case y353 => ks_is)
    (case y354 => k_is)
    (case y355 => k_is)
    (case y356 => k_is)
    (case y357 => k_is)
    (case y358 => k_is)
    (case y359 => k_is)
    (case y360 => k_is)
    (case y361 => decide +kernel)
    (case y362 => k_is)
    (case y363 => ks_is)
    (case y364 => k_is)
    (case y365 => k_is)
    (case y366 => k_is)
    (case y367 => k_is)
    (case y368 => k_is)
    (case y369 => k_is)
#print axioms PySem.Challenge.cw_evenrules_k29_whole_heights_by_all_split_holds