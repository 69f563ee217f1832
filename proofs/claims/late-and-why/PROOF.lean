import PyProof.Rows.All
import Wide.All
import OpenK.AllK
import Wide.FinOn
import KE.KStateDown
import HandS.Base
import HandS.Call
import HandS.Ends
import HandS.More
import HandS.Words
import HandS.WordsExc
import HandS.Defaults
import HandS.ExcInit
import HandS.ClsMeth
import HandS.Head0
import HandS.Head1
import HandS.Head2
import HandS.HeadEnd
import HandS.HeadHook1
import HandS.HeadHook2
import PySem.Challenge.RW_beatplans_k96_whole_late_and_why
import HandS.ForMost
import HandS.Exc
import HandS.ExcOwn
import HandS.TryOnly
import HandS.IsInst
import HandS.TupAny
import HandS.Walk
import HandS.RaiseMore
import HandS.Flow
import KE.GoesMore
import KE.GoesEnum
import HandS.SortKw
import KE.DatumOrd
import PyProof.SumWalkG
import PyProof.WalksMore
import PyProof.ReprRoads
import PyProof.Rows.RegFStrParts
import HandS.TryMany
set_option Elab.async false
set_option linter.all false
set_option maxRecDepth 100000
set_option maxHeartbeats 8000000
namespace Bp
open PySem PyProof.Rows L2 PySem.Spec
/-! ### the text by places -/
def top (i : Nat) : Stmt := PySem.Challenge.pw_beatplans_k96_whole_late_and_why.main.body.getD i (.Pass ⟨0, 0, 0, 0⟩)
def dd (x : Str) (i : Nat) : He.DefD := ⟨(x, none), x, x, defArgs (top i), defBody (top i), defScope (top i), [], []⟩
def ddInit : He.DefD := ⟨("NoPaper", some "__init__"), "__init__", "NoPaper.__init__", defArgs (inClass (top 12) 0), defBody (inClass (top 12) 0), defScope (inClass (top 12) 0), [], []⟩
def names1 : List (Str × Nat) := [("length_of", 1), ("buffer_of", 3), ("step_of", 4), ("legs_of", 5), ("begun", 6), ("spread", 7), ("lateness_of", 8), ("buffer_left", 9), ("is_number", 15), ("is_turn", 16), ("is_table", 17), ("late_spots", 18), ("ask_shape", 19), ("is_followed", 20), ("end_of", 21), ("is_chain", 22), ("lets_late", 23), ("late_paper", 25)]
def names2 : List (Str × Nat) := [("_law_feed", 27), ("_law_draw", 28), ("_law_names", 29), ("_law_number", 30), ("_law_span", 31), ("_law_fitting", 32), ("_law_plan", 33), ("_law_beats", 34), ("_law_shuffle", 35), ("_law_given", 36), ("_law_legs", 37), ("_law_needs", 38), ("_law_table_right", 39), ("_law_is_let_by", 40), ("_law_least", 41), ("_law_other_tables", 42), ("_law_left_right", 43), ("law", 44)]
def fn : List He.DefD := ddInit :: ((names1 ++ names2).map fun p => dd p.1 p.2)
def loose : List Str := ((names1 ++ names2).map (·.1)).dropLast ++ (["PlanError", "NoPaper", "MOST_IN_ROW"] : List Str)
/-! ### the facts of the top -/
def oexB (K : PySem.W.Frag) (C : Addr) : Bool := match K.lookup C with
  | some ⟨Value.type "type", _, .cls cd, sl⟩ => (match cd.mro, sl.toList with
    | .ref D :: bm, [_, _, _, _, some (.builtin n), _] => decide (D = C) && (decide (n = "ValueError.__new__") && (!cd.hasDel && (cd.hasDict && PySem.HandSPX.refsVE bm)))
    | _, _ => false)
  | _ => false
def gloF : List He.Fa := ((names1 ++ names2).map fun p => He.Fa.glo p.1) ++ [.glo "PlanError", .glo "NoPaper"]
def freeF : List He.Fa := [.free "len", .free "range", .free "tuple", .free "int", .free "bool", .free "list", .free "str", .free "enumerate", .free "isinstance", .free "all", .free "max", .free "min", .free "sum", .free "repr"]
def elseF : List He.Fa := [.int "MOST_IN_ROW" 100, .keep "PlanError", .keep "NoPaper", .noat "NoPaper" "word", .noat "NoPaper" "at", .exm "NoPaper" "NoPaper" true]
def fa : List He.Fa := gloF ++ (freeF ++ elseF)
def excB (K : PySem.W.Frag) : Bool :=
  oexB K (He.ga K "NoPaper") && (decide (PySem.W.findIn K (.ref (He.ga K "NoPaper")) "__setattr__" = some (some (.builtin "object.__setattr__"))) &&
  (decide (PySem.W.subIn K (.ref (He.ga K "NoPaper")) (.type "BaseException") = some true) && (decide (PySem.W.typeIn K (.ref (He.ga K "NoPaper")) = some (.type "type")) &&
  (decide (PySem.W.findIn K (.ref (He.ga K "NoPaper")) "__init__" = some (some (.ref (He.ma K (He.ga K "NoPaper") "__init__")))) &&
  (decide (PySem.W.typeIn K (.ref (He.ma K (He.ga K "NoPaper") "__init__")) = some (.type "function")) &&
  (PySem.W.readsIn K (He.ga K "PlanError") (.type "type") && (decide (PySem.W.specialIn K (.ref (He.ga K "PlanError")) "__getattribute__" = some (some (.builtin "type.__getattribute__"))) &&
  (match PySem.W.findCls K (.ref (He.ga K "PlanError")) (.type "type") "__init__" with
    | some (.val (.builtin n)) => decide (n = "ValueError.__init__")
    | _ => false))))))))
/-! ### the Hook -/
def asX (g : Addr → Option Obj) : Nat → List Addr
  | 0 => [mainGlobals, PySem.cStatics]
  | n + 1 => He.growD g (asX g n)
def obsX (K : PySem.W.Frag) : He.AlD := ((fa.all fun f => f.ok K) && (excB K && fn.all fun d => d.ok K), fn.map fun d => He.fnW K d.at_)
def Says (K : PySem.W.Frag) : Prop := obsX K = He.valD fn
def obsXG (n : Nat) (g : Addr → Option Obj) : He.AlD := obsX (He.frG g (asX g n))
def hookX (n : Nat) : PySem.W.Hook where
  α := He.AlD
  obs := fun s => obsXG n s.heap.get?
  val := fun _ => He.valD fn
  says := fun _ h => ∃ K : PySem.W.Frag, K.In h ∧ Says K
  of := fun _ _ e => ⟨_, He.frG_in, e⟩
  keeps := fun _ _ _ ⟨K, inK, c⟩ k => ⟨K, PySem.W.Frag.In.keeps inK k, c⟩
theorem obsXG_eq {n : Nat} {g : Addr → Option Obj} {s : Shared} (h : ∀ a, g a = s.heap.get? a) : obsXG n g = (hookX n).obs s := by
  have e : g = s.heap.get? := (funext h)
  subst e
  rfl
theorem Says.both {K : PySem.W.Frag} (c : Says K) : (fa.all fun f => f.ok K) = true ∧ excB K = true ∧ (fn.all fun d => d.ok K) = true := by
  have c1 : ((fa.all fun f => f.ok K) && (excB K && fn.all fun d => d.ok K)) = true := congrArg (fun z : He.AlD => z.1) c
  obtain ⟨h1, h2⟩ := He.ba c1
  obtain ⟨h3, h4⟩ := He.ba h2
  exact ⟨h1, h3, h4⟩
theorem Says.fact {K : PySem.W.Frag} (c : Says K) {f : He.Fa} (h : f ∈ fa) : f.ok K = true := List.all_eq_true.mp c.both.1 f h
theorem Says.def_ {K : PySem.W.Frag} (c : Says K) {d : He.DefD} (h : d ∈ fn) : ∃ fd, FunD K d.name d.qual d.params d.body d.scope (d.dvs K) (d.kws K) (He.fAd K d.at_) fd := by
  have c2 := List.all_eq_true.mp c.both.2.2 d h
  have e : fn.map (fun d => He.fnW K d.at_) = fn.map He.DefD.val := congrArg (fun z : He.AlD => z.2) c
  obtain ⟨i, hi⟩ := List.mem_iff_getElem?.mp h
  have e2 : (fn.map fun d => He.fnW K d.at_)[i]? = (fn.map He.DefD.val)[i]? := by rw [e]
  rw [List.getElem?_map, List.getElem?_map, hi] at e2
  exact He.DefD.funD (Option.some.inj e2) c2
abbrev R : PySem.W.OpenRow := PySem.W.OpenLaw.row PySem.Challenge.rw_beatplans_k96_whole_late_and_why
abbrev hk : PySem.W.Hook := hookX 5
def ob (s : PySem.W.SharedT) : He.AlD := obsXG 5 (HandSHeadRun.getT s)
theorem ob_eq (s : PySem.W.SharedT) : ob s = hk.obs s.abs := obsXG_eq (HandSHeadRun.getT_eq s)
theorem run (w : World) : HandSHeadRun.RunEq R (PySem.W.view R.prog [44]) hk ob 4000 loose w := by
  intro os
  kernel_rfl
end Bp

/-! The plain law: lateness as a least solution, chains, papers. No program in sight. -/
namespace Bp
open PySem
structure Span where
  word : Str
  one : Nat
  other : Nat
  low : Int
  high : Int
structure Inst where
  names : List Str
  spans : List Span
  cycle : Int
  beats : List Int
  wait : List Nat
namespace Inst
def sp (I : Inst) (s : Nat) : Span := I.spans.getD s ⟨"", 0, 0, 0, 0⟩
def b (I : Inst) (w : Nat) : Int := I.beats.getD w 0
def buf (I : Inst) (s : Nat) : Int := (I.b (I.sp s).other - I.b (I.sp s).one - (I.sp s).low) % I.cycle
def len (I : Inst) (s : Nat) : Int := (I.sp s).low + I.buf s
def stepZ (I : Inst) (s : Nat) : Int := (I.b (I.sp s).one + I.len s - I.b (I.sp s).other) / I.cycle
def step (I : Inst) (s : Nat) : Nat := (I.stepZ s).toNat
structure Ok (I : Inst) : Prop where
  c0 : 0 < I.cycle
  c1 : I.cycle ≤ 600
  nb : I.names.length = I.beats.length
  w0 : 0 < I.beats.length
  w1 : I.beats.length ≤ 8
  bt : ∀ w, w < I.beats.length → 0 ≤ I.b w ∧ I.b w < I.cycle
  n1 : I.spans.length ≤ 24
  so : ∀ s, s < I.spans.length → (I.sp s).one < I.beats.length
  st : ∀ s, s < I.spans.length → (I.sp s).other < I.beats.length
  lo : ∀ s, s < I.spans.length → 0 ≤ (I.sp s).low ∧ (I.sp s).low ≤ 100000
  hi : ∀ s, s < I.spans.length → -100000 ≤ (I.sp s).high ∧ (I.sp s).high ≤ 100000
  wt : ∀ s ∈ I.wait, s < I.spans.length
  wl : I.wait.length ≤ 24
variable {I : Inst}
theorem buf0 (h : I.Ok) (s : Nat) : 0 ≤ I.buf s := Int.emod_nonneg _ (by have := h.c0; omega)
theorem buf1 (h : I.Ok) (s : Nat) : I.buf s < I.cycle := Int.emod_lt_of_pos _ h.c0
theorem stepMulZ (h : I.Ok) (s : Nat) : I.b (I.sp s).one + I.len s = I.b (I.sp s).other + I.cycle * I.stepZ s := by
  unfold stepZ len buf
  generalize I.b (I.sp s).other = y
  generalize I.b (I.sp s).one = x
  generalize (I.sp s).low = l
  have hc := h.c0
  generalize I.cycle = c at *
  have e := Int.emod_add_mul_ediv (y - x - l) c
  generalize hq : (y - x - l) / c = q at e
  generalize hr : (y - x - l) % c = r at e
  have e2 : x + (l + r) - y = c * (-q) := by
    rw [Int.mul_neg]; omega
  rw [e2, Int.mul_ediv_cancel_left _ (by omega)]
  omega
theorem step0 (h : I.Ok) {s : Nat} (hs : s < I.spans.length) : 0 ≤ I.stepZ s := by
  have e := stepMulZ h s
  have h1 := (h.bt _ (h.so s hs)).1
  have h2 := (h.bt _ (h.st s hs)).2
  have h3 := (h.lo s hs).1
  have h4 := buf0 h s
  have hc := h.c0
  unfold len at e
  by_cases hz : 0 ≤ I.stepZ s
  · exact hz
  · exfalso
    have : I.cycle * I.stepZ s ≤ I.cycle * (-1) := Int.mul_le_mul_of_nonneg_left (by omega) (by omega)
    omega
theorem stepN (h : I.Ok) {s : Nat} (hs : s < I.spans.length) : ((I.step s : Nat) : Int) = I.stepZ s := Int.toNat_of_nonneg (step0 h hs)
theorem stepMul (h : I.Ok) {s : Nat} (hs : s < I.spans.length) : I.b (I.sp s).one + I.len s = I.b (I.sp s).other + I.cycle * (I.step s : Nat) := by
  rw [stepN h hs]; exact stepMulZ h s
theorem stepTop (h : I.Ok) {s : Nat} (hs : s < I.spans.length) : I.step s ≤ 200000 := by
  have e := stepMul h hs
  have h1 := (h.bt _ (h.so s hs)).2
  have h2 := (h.bt _ (h.st s hs)).1
  have h3 := (h.lo s hs).2
  have h4 := buf1 h s
  have hc := h.c0
  have hc1 := h.c1
  unfold len at e
  have : (1 : Int) * (I.step s : Nat) ≤ I.cycle * (I.step s : Nat) := Int.mul_le_mul_of_nonneg_right (by omega) (by omega)
  omega
end Inst

/-! ### given: (work, turn, late) -/
abbrev Gv := Nat × Nat × Int
structure GvOk (I : Inst) (many : Nat) (gv : List Gv) : Prop where
  w : ∀ g ∈ gv, g.1 < I.beats.length
  t : ∀ g ∈ gv, g.2.1 < many
  l0 : ∀ g ∈ gv, 0 ≤ g.2.2
  l1 : ∀ g ∈ gv, g.2.2 ≤ 999

abbrev Tab := Nat → Nat → Int
structure Feas (I : Inst) (gv : List Gv) (many : Nat) (N : Tab) : Prop where
  nn : ∀ t w, 0 ≤ N t w
  gi : ∀ g ∈ gv, g.2.2 ≤ N g.2.1 g.1
  lg : ∀ s ∈ I.wait, ∀ t, t + I.step s < many → N t (I.sp s).one - I.buf s ≤ N (t + I.step s) (I.sp s).other
structure Least (I : Inst) (gv : List Gv) (many : Nat) (N : Tab) : Prop where
  fs : Feas I gv many N
  le : ∀ N', Feas I gv many N' → ∀ t w, N t w ≤ N' t w
section
variable {I : Inst} {gv gv' : List Gv} {many : Nat} {N N' : Tab}
theorem Least.unique (a : Least I gv many N) (c : Least I gv many N') : N = N' := by
  funext t w
  have h1 := a.le _ c.fs t w
  have h2 := c.le _ a.fs t w
  omega
theorem feas_const (ok : I.Ok) (h : GvOk I many gv) : Feas I gv many (fun _ _ => 999) :=
  ⟨fun _ _ => by omega, fun g hg => h.l1 g hg, fun s _ t _ => by have := Inst.buf0 ok s; omega⟩
theorem Feas.mono (f : Feas I gv many N) (h : ∀ g ∈ gv', ∃ g' ∈ gv, g'.1 = g.1 ∧ g'.2.1 = g.2.1 ∧ g.2.2 ≤ g'.2.2) : Feas I gv' many N :=
  ⟨f.nn, fun g hg => by
    obtain ⟨g', h1, h2, h3, h4⟩ := h g hg
    have := f.gi g' h1
    rw [h2, h3] at this
    omega, f.lg⟩
theorem Least.grid (ok : I.Ok) (h : GvOk I many gv) (a : Least I gv many N) {t w : Nat} (ho : ¬ (t < many ∧ w < I.beats.length)) : N t w = 0 := by
  have f : Feas I gv many (fun t w => if t < many ∧ w < I.beats.length then N t w else 0) := by
    refine ⟨fun t w => ?_, fun g hg => ?_, fun s hs t ht => ?_⟩
    · skip
      split
      · exact a.fs.nn t w
      · omega
    · skip
      rw [if_pos ⟨h.t g hg, h.w g hg⟩]
      exact a.fs.gi g hg
    · skip
      rw [if_pos (⟨by omega, ok.so s (ok.wt s hs)⟩ : t < many ∧ _), if_pos (⟨ht, ok.st s (ok.wt s hs)⟩ : t + I.step s < many ∧ _)]
      exact a.fs.lg s hs t ht
  have h1 := a.le _ f t w
  have h2 := a.fs.nn t w
  have e : (if t < many ∧ w < I.beats.length then N t w else 0) = 0 := if_neg ho
  rw [e] at h1
  omega
theorem Least.max (ok : I.Ok) (h : GvOk I many gv) (a : Least I gv many N) (t w : Nat) : N t w ≤ 999 := a.le _ (feas_const ok h) t w
/-- nothing is later than given or needed -/
theorem Least.tight (ok : I.Ok) (a : Least I gv many N) {t w : Nat} {m : Int} (h0 : 0 ≤ m) (hg : ∀ g ∈ gv, g.2.1 = t → g.1 = w → g.2.2 ≤ m)
    (hd : ∀ s ∈ I.wait, ∀ t0, t0 + I.step s = t → t < many → (I.sp s).other = w → N t0 (I.sp s).one - I.buf s ≤ m) : N t w ≤ m := by
  have low : ∀ t' w', (if t' = t ∧ w' = w then min (N t w) m else N t' w') ≤ N t' w' := fun t' w' => by
    split
    · rename_i e
      rw [e.1, e.2]; omega
    · exact Int.le_refl _
  have f : Feas I gv many (fun t' w' => if t' = t ∧ w' = w then min (N t w) m else N t' w') := by
    refine ⟨fun t' w' => ?_, fun g hgm => ?_, fun s hs t0 ht => ?_⟩
    · skip
      split
      · have := a.fs.nn t w
        omega
      · exact a.fs.nn t' w'
    · skip
      have h1 := a.fs.gi g hgm
      split
      · rename_i e
        have h2 := hg g hgm e.1 e.2
        rw [e.1, e.2] at h1
        omega
      · exact h1
    · skip
      have h1 := a.fs.lg s hs t0 ht
      have h2 := low t0 (I.sp s).one
      have h3 : N t0 (I.sp s).one - I.buf s ≤ (if t0 + I.step s = t ∧ (I.sp s).other = w then min (N t w) m else N (t0 + I.step s) (I.sp s).other) := by
        split
        · rename_i e
          have h4 := hd s hs t0 e.1 (by omega) e.2
          rw [e.1, e.2] at h1
          omega
        · exact h1
      omega
  have h1 := a.le _ f t w
  have e : (if t = t ∧ w = w then min (N t w) m else N t w) = min (N t w) m := if_pos ⟨rfl, rfl⟩
  rw [e] at h1
  omega
/-- given otherwise told: the same least -/
theorem Least.regive (a : Least I gv many N) (h1 : ∀ g ∈ gv', g.2.2 ≤ N g.2.1 g.1) (h2 : ∀ g ∈ gv, g ∈ gv') : Least I gv' many N :=
  ⟨⟨a.fs.nn, h1, a.fs.lg⟩, fun N' f => a.le N' ⟨f.nn, fun g hg => f.gi g (h2 g hg), f.lg⟩⟩
end

/-! ### chains -/
def endOf (I : Inst) : Gv → List Nat → Option Gv
  | st, [] => some st
  | st, s :: row => if s ∈ I.wait ∧ (I.sp s).one = st.1 then endOf I ((I.sp s).other, st.2.1 + I.step s, st.2.2 - I.buf s) row else none
theorem endOf_snoc {I : Inst} {s : Nat} (hs : s ∈ I.wait) : ∀ {row : List Nat} {st : Gv} {t : Nat} {n : Int}, endOf I st row = some ((I.sp s).one, t, n) → endOf I st (row ++ [s]) = some ((I.sp s).other, t + I.step s, n - I.buf s)
  | [], st, t, n, h => by
    have e : st = ((I.sp s).one, t, n) := Option.some.inj h
    subst e
    simp [endOf, hs]
  | r :: row, st, t, n, h => by
    have h1 : (if r ∈ I.wait ∧ (I.sp r).one = st.1 then endOf I ((I.sp r).other, st.2.1 + I.step r, st.2.2 - I.buf r) row else none) = some ((I.sp s).one, t, n) := h
    show (if r ∈ I.wait ∧ (I.sp r).one = st.1 then endOf I _ (row ++ [s]) else none) = _
    by_cases c : r ∈ I.wait ∧ (I.sp r).one = st.1
    · rw [if_pos c] at h1 ⊢
      exact endOf_snoc hs h1
    · rw [if_neg c] at h1
      cases h1
/-- a told chain: from the g-th given along row to (t, w) at num t w; vs its stations, each once -/
def ChainOk (I : Inst) (gv : List Gv) (many : Nat) (num : Tab) (t w : Nat) (g : Nat) (row : List Nat) : Prop :=
  (∃ x, gv[g]? = some x ∧ endOf I x row = some (w, t, num t w)) ∧ (∀ s ∈ row, s ∈ I.wait) ∧
  ∃ vs : List ((Nat × Nat) × Int), vs.length = row.length + 1 ∧ (vs.map (·.1)).Nodup ∧ ∀ p ∈ vs, p.1.1 < many ∧ p.1.2 < I.beats.length ∧ p.2 ≤ num p.1.1 p.1.2 ∧ num t w ≤ p.2
section
variable {I : Inst} {gv : List Gv} {many : Nat} {num num' : Tab} {t w g : Nat} {row : List Nat}
theorem ChainOk.mono (h : ChainOk I gv many num t w g row) (hm : ∀ t' w', num t' w' ≤ num' t' w') (e : num' t w = num t w) : ChainOk I gv many num' t w g row := by
  obtain ⟨⟨x, h1, h2⟩, h3, vs, h4, h5, h6⟩ := h
  refine ⟨⟨x, h1, by rw [e]; exact h2⟩, h3, vs, h4, h5, fun p hp => ?_⟩
  obtain ⟨a, b, c, d⟩ := h6 p hp
  have := hm p.1.1 p.1.2
  exact ⟨a, b, by omega, by rw [e]; exact d⟩
theorem ChainOk.base {x : Gv} (h : gv[g]? = some x) (ht : x.2.1 < many) (hw : x.1 < I.beats.length) (e : num x.2.1 x.1 = x.2.2) : ChainOk I gv many num x.2.1 x.1 g [] := by
  refine ⟨⟨x, h, ?_⟩, fun s hs => (by cases hs), [((x.2.1, x.1), x.2.2)], rfl, by simp, fun p hp => ?_⟩
  · rw [e]; rfl
  · rw [List.mem_singleton] at hp
    subst hp
    exact ⟨ht, hw, by show x.2.2 ≤ num x.2.1 x.1; omega, by show num x.2.1 x.1 ≤ x.2.2; omega⟩
theorem ChainOk.more (ok : I.Ok) {s : Nat} (hs : s ∈ I.wait) (h : ChainOk I gv many num t (I.sp s).one g row) (ht : t + I.step s < many)
    (hlt : num (t + I.step s) (I.sp s).other < num t (I.sp s).one - I.buf s) (hm : ∀ t' w', num t' w' ≤ num' t' w') (e : num' (t + I.step s) (I.sp s).other = num t (I.sp s).one - I.buf s) :
    ChainOk I gv many num' (t + I.step s) (I.sp s).other g (row ++ [s]) := by
  obtain ⟨⟨x, h1, h2⟩, h3, vs, h4, h5, h6⟩ := h
  have hb := Inst.buf0 ok s
  refine ⟨⟨x, h1, by rw [e]; exact endOf_snoc hs h2⟩, fun r hr => ?_, vs ++ [((t + I.step s, (I.sp s).other), num t (I.sp s).one - I.buf s)], by simp [h4], ?_, fun p hp => ?_⟩
  · rcases List.mem_append.1 hr with hr | hr
    · exact h3 r hr
    · rw [List.mem_singleton.mp hr]; exact hs
  · rw [List.map_append,List.nodup_append]
    refine ⟨h5, by simp, fun a ha b hb' => ?_⟩
    rw [List.map_cons, List.map_nil, List.mem_singleton] at hb'
    subst hb'
    rintro rfl
    obtain ⟨p, hp, hpe⟩ := List.mem_map.mp ha
    obtain ⟨_, _, c, d⟩ := h6 p hp
    have e1 : p.1.1 = t + I.step s := by rw [hpe]
    have e2 : p.1.2 = (I.sp s).other := by rw [hpe]
    rw [e1, e2] at c
    omega
  · rcases List.mem_append.1 hp with hp | hp
    · obtain ⟨a, b, c, d⟩ := h6 p hp
      have := hm p.1.1 p.1.2
      exact ⟨a, b, by omega, by rw [e]; omega⟩
    · rw [List.mem_singleton.1 hp]
      exact ⟨ht, ok.st s (ok.wt s hs), by show num t (I.sp s).one - I.buf s ≤ num' (t + I.step s) (I.sp s).other; omega, by show num' (t + I.step s) (I.sp s).other ≤ num t (I.sp s).one - I.buf s; omega⟩
end
theorem nodup_sub_len {α : Type} [DecidableEq α] : ∀ {l g : List α}, l.Nodup → (∀ x ∈ l, x ∈ g) → l.length ≤ g.length
  | [], g, _, _ => Nat.zero_le _
  | a :: l, g, hn, hs => by
    obtain ⟨h1, h2⟩ := List.nodup_cons.1 hn
    have ha : a ∈ g := hs a List.mem_cons_self
    have ih := nodup_sub_len (l := l) (g := g.erase a) h2 fun x hx => by
      have hx' := hs x (List.mem_cons_of_mem _ hx)
      have hne : x ≠ a := fun e => h1 (e ▸ hx)
      exact (List.mem_erase_of_ne hne).mpr hx'
    have hl := List.length_erase_of_mem ha
    have hpos : 0 < g.length := List.length_pos_of_mem ha
    simp only [List.length_cons]
    omega
/-! ### the grid -/
def grid (many works : Nat) : List (Nat × Nat) := (List.range many).flatMap fun t => (List.range works).map fun w => (t, w)
theorem mem_grid {many works : Nat} {p : Nat × Nat} : p ∈ grid many works ↔ p.1 < many ∧ p.2 < works := by
  unfold grid
  rw [List.mem_flatMap]
  constructor
  · rintro ⟨t, ht, h⟩
    obtain ⟨w, hw, rfl⟩ := List.mem_map.mp h
    exact ⟨List.mem_range.mp ht, List.mem_range.mp hw⟩
  · rintro ⟨h1, h2⟩
    exact ⟨p.1, List.mem_range.mpr h1, List.mem_map.mpr ⟨p.2, List.mem_range.mpr h2, rfl⟩⟩
theorem grid_succ (many works : Nat) : grid (many + 1) works = grid many works ++ (List.range works).map fun w => (many, w) := by
  unfold grid
  rw [List.range_succ, List.flatMap_append]
  simp
theorem grid_len (many works : Nat) : (grid many works).length = many * works := by
  induction many with
  | zero => simp [grid]
  | succ n ih => rw [grid_succ, List.length_append, ih, List.length_map, List.length_range, Nat.succ_mul]
theorem grid_nodup (works : Nat) : ∀ many, (grid many works).Nodup
  | 0 => by simp [grid]
  | n + 1 => by
    rw [grid_succ, List.nodup_append]
    refine ⟨grid_nodup works n, ?_, fun a ha b hb => ?_⟩
    · refine List.nodup_iff_pairwise_ne.mpr (List.pairwise_map.mpr ?_)
      exact (List.nodup_range (n := works)).imp fun h e => h (by injection e)
    · rintro rfl
      obtain ⟨w, _, e⟩ := List.mem_map.mp hb
      have h1 := (mem_grid.mp ha).1
      rw [← e] at h1
      exact absurd h1 (Nat.lt_irrefl _)
theorem ChainOk.short {I : Inst} {gv : List Gv} {many : Nat} {num : Tab} {t w g : Nat} {row : List Nat} (h : ChainOk I gv many num t w g row) : row.length + 1 ≤ many * I.beats.length := by
  obtain ⟨_, _, vs, h4, h5, h6⟩ := h
  rw [← h4, ← grid_len, ← List.length_map (f := (·.1)) (as := vs)]
  refine nodup_sub_len h5 fun x hx => ?_
  obtain ⟨p, hp, rfl⟩ := List.mem_map.mp hx
  obtain ⟨a, b, _⟩ := h6 p hp
  exact mem_grid.mpr ⟨a, b⟩

/-! ### the measure: what may still grow -/
def meas (l : List (Nat × Nat)) (N : Tab) : Nat := (l.map fun p => (999 - N p.1 p.2).toNat).sum
theorem meas_le {N N' : Tab} : ∀ (l : List (Nat × Nat)), (∀ p ∈ l, N p.1 p.2 ≤ N' p.1 p.2) → meas l N' ≤ meas l N
  | [], _ => Nat.le_refl _
  | p :: l, h => by
    have h1 := h p List.mem_cons_self
    have h2 := meas_le l fun q hq => h q (List.mem_cons_of_mem _ hq)
    simp only [meas, List.map_cons, List.sum_cons] at *
    omega
theorem meas_lt {N N' : Tab} {q : Nat × Nat} : ∀ (l : List (Nat × Nat)), (∀ p ∈ l, N p.1 p.2 ≤ N' p.1 p.2) → q ∈ l → N q.1 q.2 < N' q.1 q.2 → N' q.1 q.2 ≤ 999 → meas l N' < meas l N
  | [], _, hq, _, _ => by cases hq
  | p :: l, h, hq, hlt, h9 => by
    have h1 := h p List.mem_cons_self
    have h2 := meas_le l fun q hq => h q (List.mem_cons_of_mem _ hq)
    rcases List.mem_cons.mp hq with e | hq
    · subst e
      simp only [meas, List.map_cons, List.sum_cons] at *
      omega
    · have h3 := meas_lt l (fun q hq => h q (List.mem_cons_of_mem _ hq)) hq hlt h9
      simp only [meas, List.map_cons, List.sum_cons] at *
      omega

/-! ### papers -/
def spots (many works : Nat) (T : Tab) : List (Nat × Nat) := (grid many works).filter fun p => decide (0 < T p.1 p.2)
def chainRight (I : Inst) (gv : List Gv) (T : Tab) (p : Nat × Nat) (c : Nat × List Nat) : Prop :=
  c.2.length ≤ 100 ∧ ∃ x, gv[c.1]? = some x ∧ endOf I x c.2 = some (p.2, p.1, T p.1 p.2)
structure OkPaper (I : Inst) (gv : List Gv) (many : Nat) (T : Tab) (cs : List (Nat × List Nat)) : Prop where
  nn : ∀ t w, t < many → w < I.beats.length → 0 ≤ T t w
  ln : cs.length = (spots many I.beats.length T).length
  gi : ∀ g ∈ gv, g.2.2 ≤ T g.2.1 g.1
  lg : ∀ s ∈ I.wait, ∀ t, t + I.step s < many → T t (I.sp s).one - I.buf s ≤ T (t + I.step s) (I.sp s).other
  ch : ∀ (k : Nat) (p : Nat × Nat) (c : Nat × List Nat), (spots many I.beats.length T)[k]? = some p → cs[k]? = some c → chainRight I gv T p c
theorem filter_lt {α : Type} {p q : α → Bool} {x : α} : ∀ {l : List α}, (∀ y ∈ l, p y = true → q y = true) → x ∈ l → p x = false → q x = true → (l.filter p).length < (l.filter q).length
  | [], _, hx, _, _ => by cases hx
  | a :: l, h, hx, hp, hq => by
    have le : ∀ (l : List α), (∀ y ∈ l, p y = true → q y = true) → (l.filter p).length ≤ (l.filter q).length := by
      intro l
      induction l with
      | nil => intro _; exact Nat.le_refl _
      | cons b l ih =>
        intro h
        have ih := ih fun y hy => h y (List.mem_cons_of_mem _ hy)
        have hb := h b List.mem_cons_self
        rw [List.filter_cons,List.filter_cons]
        cases e1 : p b <;> cases e2 : q b
        · simpa using ih
        · simp; omega
        · rw [e1, e2] at hb; exact absurd (hb rfl) (by decide)
        · simpa using ih
    have h2 := le l fun y hy => h y (List.mem_cons_of_mem _ hy)
    have ha := h a List.mem_cons_self
    rcases List.mem_cons.1 hx with e | hx
    · subst e
      rw [List.filter_cons, List.filter_cons, hp, hq]
      simp; omega
    · have h3 := filter_lt (l := l) (fun y hy => h y (List.mem_cons_of_mem _ hy)) hx hp hq
      rw [List.filter_cons,List.filter_cons]
      cases e1 : p a <;> cases e2 : q a
      · simpa using h3
      · simp; omega
      · rw [e1, e2] at ha; exact absurd (ha rfl) (by decide)
      · simpa using h3
/-- with another number anywhere it is not let by -/
theorem OkPaper.other {I : Inst} {gv : List Gv} {many : Nat} {T T' : Tab} {cs : List (Nat × List Nat)} (h : OkPaper I gv many T cs) {t0 w0 : Nat} (ht : t0 < many) (hw : w0 < I.beats.length)
    (hs : ∀ t w, ¬ (t = t0 ∧ w = w0) → T' t w = T t w) (hne : T' t0 w0 ≠ T t0 w0) : ¬ OkPaper I gv many T' cs := by
  intro h'
  have n1 := h.nn t0 w0 ht hw
  have n2 := h'.nn t0 w0 ht hw
  have hm : (t0, w0) ∈ grid many I.beats.length := mem_grid.mpr ⟨ht, hw⟩
  have hl : (spots many I.beats.length T).length = (spots many I.beats.length T').length := h.ln.symm.trans h'.ln
  by_cases c1 : 0 < T t0 w0
  · by_cases c2 : 0 < T' t0 w0
    · have e : spots many I.beats.length T' = spots many I.beats.length T := by
        unfold spots
        refine List.filter_congr (fun p hp => ?_)
        by_cases q : p.1 = t0 ∧ p.2 = w0
        · rw [q.1, q.2, decide_eq_true c1, decide_eq_true c2]
        · rw [hs _ _ q]
      have hmem : (t0, w0) ∈ spots many I.beats.length T := List.mem_filter.mpr ⟨hm, decide_eq_true c1⟩
      obtain ⟨k, hk⟩ := List.mem_iff_getElem?.mp hmem
      have hkl := (List.getElem?_eq_some_iff.mp hk).1
      rw [← h.ln] at hkl
      have hc : cs[k]? = some cs[k] := List.getElem?_eq_getElem hkl
      obtain ⟨_, x, a1, a2⟩ := h.ch k _ _ hk hc
      obtain ⟨_, y, b1, b2⟩ := h'.ch k _ _ (by rw [e]; exact hk) hc
      rw [a1] at b1
      have exy := Option.some.inj b1
      rw [← exy, a2] at b2
      have := Option.some.inj b2
      injection this with _ z
      injection z with _ z
      exact hne z.symm
    · have := filter_lt (p := fun p : Nat × Nat => decide (0 < T' p.1 p.2)) (q := fun p => decide (0 < T p.1 p.2)) (x := (t0, w0)) (l := grid many I.beats.length) (fun p hp hpt => by
        by_cases q : p.1 = t0 ∧ p.2 = w0
        · rw [q.1, q.2]; exact decide_eq_true c1
        · rw [hs _ _ q] at hpt; exact hpt) hm (decide_eq_false c2) (decide_eq_true c1)
      unfold spots at hl
      omega
  · by_cases c2 : 0 < T' t0 w0
    · have := filter_lt (p := fun p : Nat × Nat => decide (0 < T p.1 p.2)) (q := fun p => decide (0 < T' p.1 p.2)) (x := (t0, w0)) (l := grid many I.beats.length) (fun p hp hpt => by
        by_cases q : p.1 = t0 ∧ p.2 = w0
        · rw [q.1, q.2]; exact decide_eq_true c2
        · rw [hs _ _ q]; exact hpt) hm (decide_eq_false c1) (decide_eq_true c2)
      unfold spots at hl
      omega
    · omega

/-! ### sums, and what is left to a work -/
def sumG (many works : Nat) (N : Tab) : Int := ((List.range many).map fun t => ((List.range works).map fun w => N t w).sum).sum
theorem sum_zero {α : Type} : ∀ (l : List α) (f : α → Int), (∀ x ∈ l, f x = 0) → (l.map f).sum = 0
  | [], _, _ => rfl
  | a :: l, f, h => by
    rw [List.map_cons, List.sum_cons, h a List.mem_cons_self, sum_zero l f fun x hx => h x (List.mem_cons_of_mem _ hx)]
    rfl
theorem sum_one {α : Type} : ∀ (l : List α) (f : α → Int) (a : α), l.Nodup → a ∈ l → (∀ x ∈ l, x ≠ a → f x = 0) → (l.map f).sum = f a
  | [], _, _, _, h, _ => by cases h
  | c :: l, f, a, hn, ha, h => by
    obtain ⟨h1, h2⟩ := List.nodup_cons.1 hn
    rw [List.map_cons,List.sum_cons]
    rcases List.mem_cons.1 ha with e | ha
    · subst e
      rw [sum_zero l f fun x hx => h x (List.mem_cons_of_mem _ hx) fun e => h1 (e ▸ hx)]
      omega
    · rw [sum_one l f a h2 ha fun x hx => h x (List.mem_cons_of_mem _ hx), h c List.mem_cons_self fun e => h1 (e ▸ ha)]
      omega
theorem sum_nn {α : Type} : ∀ (l : List α) (f : α → Int), (∀ x ∈ l, 0 ≤ f x) → 0 ≤ (l.map f).sum
  | [], _, _ => Int.le_refl _
  | a :: l, f, h => by
    have h1 := h a List.mem_cons_self
    have h2 := sum_nn l f fun x hx => h x (List.mem_cons_of_mem _ hx)
    rw [List.map_cons,List.sum_cons]
    omega
theorem sum_ge1 {α : Type} : ∀ (l : List α) (f : α → Int) (a : α), a ∈ l → (∀ x ∈ l, 0 ≤ f x) → f a ≤ (l.map f).sum
  | [], _, _, h, _ => by cases h
  | c :: l, f, a, ha, h => by
    have h1 := h c List.mem_cons_self
    have h2 := sum_nn l f fun x hx => h x (List.mem_cons_of_mem _ hx)
    rw [List.map_cons,List.sum_cons]
    rcases List.mem_cons.1 ha with e | ha
    · subst e; omega
    · have := sum_ge1 l f a ha fun x hx => h x (List.mem_cons_of_mem _ hx)
      omega
theorem sum_ge2 {α : Type} : ∀ (l : List α) (f : α → Int) (a b : α), a ≠ b → a ∈ l → b ∈ l → (∀ x ∈ l, 0 ≤ f x) → f a + f b ≤ (l.map f).sum
  | [], _, _, _, _, h, _, _ => by cases h
  | c :: l, f, a, b, hab, ha, hb, h => by
    have hl : ∀ x ∈ l, 0 ≤ f x := fun x hx => h x (List.mem_cons_of_mem _ hx)
    have h1 := h c List.mem_cons_self
    rw [List.map_cons,List.sum_cons]
    rcases List.mem_cons.1 ha with e | ha
    · subst e
      rcases List.mem_cons.1 hb with e | hb
      · exact absurd e.symm hab
      · have := sum_ge1 l f b hb hl
        omega
    · rcases List.mem_cons.1 hb with e | hb
      · have z := sum_ge1 l f a ha hl
        rw [e]
        omega
      · have := sum_ge2 l f a b hab ha hb hl
        omega
def lone (work : Nat) (v : Int) : Tab := fun t w => if t = 0 ∧ w = work then v else 0
theorem lone_sum {many works work : Nat} {v : Int} (hm : 0 < many) (hw : work < works) : sumG many works (lone work v) = v := by
  unfold sumG
  rw [sum_one (List.range many) _ 0 List.nodup_range (List.mem_range.mpr hm) fun t _ ht => sum_zero _ _ fun w _ => by show (if t = 0 ∧ w = work then v else 0) = 0; rw [if_neg (fun e => ht e.1)]]
  rw [sum_one (List.range works) _ work List.nodup_range (List.mem_range.mpr hw) fun w _ hw => by show (if 0 = 0 ∧ w = work then v else 0) = 0; rw [if_neg (fun e => hw e.2)]]
  show (if 0 = 0 ∧ work = work then v else 0) = v
  rw [if_pos ⟨rfl, rfl⟩]
theorem lone_least {I : Inst} (ok : I.Ok) {many work : Nat} {v : Int} (h0 : 0 ≤ v)
    (h : ∀ s ∈ I.wait, (I.sp s).one = work → ((I.sp s).other = work ∧ I.step s = 0) ∨ v ≤ I.buf s ∨ many ≤ I.step s) : Least I [(work, 0, v)] many (lone work v) := by
  refine ⟨⟨fun t w => ?_, fun g hg => ?_, fun s hs t ht => ?_⟩, fun N' f t w => ?_⟩
  · unfold lone
    split <;> omega
  · rw [List.mem_singleton.mp hg]
    show v ≤ if 0 = 0 ∧ work = work then v else 0
    rw [if_pos ⟨rfl, rfl⟩]
    omega
  · unfold lone
    have hb := Inst.buf0 ok s
    by_cases c : t = 0 ∧ (I.sp s).one = work
    · rw [if_pos c]
      rcases h s hs c.2 with e | e | e
      · rw [if_pos ⟨by omega, e.1⟩]; omega
      · split <;> omega
      · omega
    · rw [if_neg c]
      split <;> omega
  · unfold lone
    split
    · rename_i e
      have := f.gi (work, 0, v) (List.mem_singleton.mpr rfl)
      rw [e.1, e.2]
      exact this
    · exact f.nn t w
/-- one more makes another late -/
theorem more_late {I : Inst} (ok : I.Ok) {many works work : Nat} {v : Int} {N : Tab} (a : Least I [(work, 0, v + 1)] many N) (h0 : 0 ≤ v) (hwk : works = I.beats.length) (hm : 0 < many) (hw : work < works) {s : Nat} (hs : s ∈ I.wait) (h1 : (I.sp s).one = work) (hb : I.buf s = v)
    (hne : (I.sp s).other ≠ work ∨ 0 < I.step s) (hst : I.step s < many) : v + 1 < sumG many works N := by
  have g := a.fs.gi (work, 0, v + 1) (List.mem_singleton.mpr rfl)
  have l := a.fs.lg s hs 0 (by omega)
  rw [h1, hb] at l
  have e0 : 0 + I.step s = I.step s := Nat.zero_add _
  rw [e0] at l
  have g' : v + 1 ≤ N 0 work := g
  have ho : (I.sp s).other < works := by rw [hwk]; exact ok.st s (ok.wt s hs)
  have nn := a.fs.nn
  have rown : ∀ t, 0 ≤ ((List.range works).map fun w => N t w).sum := fun t => sum_nn _ _ fun w _ => nn t w
  unfold sumG
  by_cases c : I.step s = 0
  · have hne2 : work ≠ (I.sp s).other := by
      rcases hne with e | e
      · exact fun z => e z.symm
      · omega
    have z := sum_ge2 (List.range works) (fun w => N 0 w) work (I.sp s).other hne2 (List.mem_range.mpr hw) (List.mem_range.mpr ho) fun w _ => nn 0 w
    have z2 := sum_ge1 (List.range many) (fun t => ((List.range works).map fun w => N t w).sum) 0 (List.mem_range.mpr hm) fun t _ => rown t
    rw [c] at l
    omega
  · have z1 := sum_ge1 (List.range works) (fun w => N 0 w) work (List.mem_range.mpr hw) fun w _ => nn 0 w
    have z2 := sum_ge1 (List.range works) (fun w => N (I.step s) w) (I.sp s).other (List.mem_range.mpr ho) fun w _ => nn _ w
    have z3 := sum_ge2 (List.range many) (fun t => ((List.range works).map fun w => N t w).sum) 0 (I.step s) (by omega) (List.mem_range.mpr hm) (List.mem_range.mpr hst) fun t _ => rown t
    omega
end Bp

namespace Bp
open PySem PyProof.Rows L2 PySem.Spec

/-! ### what of the top the bodies lean on -/
structure Txt (K : PySem.W.Frag) (mg : Str → Option Value) : Prop where
  says : Says K
  glo : ∀ x, He.Fa.glo x ∈ fa → mg x = some (.ref (He.ga K x))
  free : ∀ x, He.Fa.free x ∈ fa → mg x = none
  most : ∃ t, mg "MOST_IN_ROW" = some (.int 100 t)
theorem in_fa (i : Nat) {f : He.Fa} (h : fa[i]? = some f) : f ∈ fa := List.mem_of_getElem? h
theorem Txt.of {K : PySem.W.Frag} {h : Heap} {mg : Str → Option Value} (X : K.In h) (G : h.Ns mainGlobals mg) (c : Says K) : Txt K mg :=
  ⟨c, fun _ hx => He.glo_ok X G (c.fact hx), fun _ hx => He.free_ok X G (c.fact hx), He.int_ok X G (c.fact (in_fa 52 rfl))⟩
section
variable {K : PySem.W.Frag} {mg : Str → Option Value}
theorem Txt.len (T : Txt K mg) : mg "len" = none := T.free _ (in_fa 38 rfl)
theorem Txt.range (T : Txt K mg) : mg "range" = none := T.free _ (in_fa 39 rfl)
theorem Txt.tuple (T : Txt K mg) : mg "tuple" = none := T.free _ (in_fa 40 rfl)
theorem Txt.int (T : Txt K mg) : mg "int" = none := T.free _ (in_fa 41 rfl)
theorem Txt.bool (T : Txt K mg) : mg "bool" = none := T.free _ (in_fa 42 rfl)
theorem Txt.list (T : Txt K mg) : mg "list" = none := T.free _ (in_fa 43 rfl)
theorem Txt.str (T : Txt K mg) : mg "str" = none := T.free _ (in_fa 44 rfl)
theorem Txt.enumerate (T : Txt K mg) : mg "enumerate" = none := T.free _ (in_fa 45 rfl)
theorem Txt.isinstance (T : Txt K mg) : mg "isinstance" = none := T.free _ (in_fa 46 rfl)
theorem Txt.all (T : Txt K mg) : mg "all" = none := T.free _ (in_fa 47 rfl)
theorem Txt.max (T : Txt K mg) : mg "max" = none := T.free _ (in_fa 48 rfl)
theorem Txt.min (T : Txt K mg) : mg "min" = none := T.free _ (in_fa 49 rfl)
theorem Txt.sum (T : Txt K mg) : mg "sum" = none := T.free _ (in_fa 50 rfl)
theorem Txt.repr (T : Txt K mg) : mg "repr" = none := T.free _ (in_fa 51 rfl)
end
/-- a def of the text, its promise kept -/
structure Cal (P : Program) (w : World) (K : PySem.W.Frag) (mg : Str → Option Value) (base : Heap) (CX : CXT) (x : Str) (k : Nat) (ps : List Str) (sp : Sp) : Prop where
  ex : ∃ fd, FnOk P w K mg base CX k (He.ga K x) fd ps sp ∧ Binds K fd ps []
  gl : mg x = some (.ref (He.ga K x))
  kp : PySem.W.keepIn K (.ref (He.ga K x)) = true
theorem Cal.of {P : Program} {w : World} {K : PySem.W.Frag} {mg : Str → Option Value} {base : Heap} {CX : CXT} {x : Str} {i k : Nat} {N ps : List Str} {sp : Sp} (T : Txt K mg) (hd : dd x i ∈ fn) (hg : He.Fa.glo x ∈ fa)
    (S : FnScope N ps (defScope (top i))) (len : ∀ vs H Q E, sp vs H Q E → vs.length = ps.length)
    (hb : ∀ (kV doc pm : Value) (an : Option Addr) (cdv ct : Value) (us : List Value), us.length = ps.length → bindArgs (PySem.W.fnOf x x (defArgs (top i)) (defBody (top i)) (defScope (top i)) .none kV doc pm an cdv ct) ⟨us, []⟩ = pure (ps.zip us))
    (hbody : ∀ (cdv : Value) (A : Around) (outer : List Env) (s : Shared) (H : Hp) (vs : List V) (Q : VK) (E : XK), Room k (A.deeper (envOfC x (defScope (top i)) s.heap.objs.size (He.ga K x) cdv)) → sp vs H Q E →
      ∃ t, PSs (cxOf CX P w K mg base N x (defScope (top i)) (He.ga K x) cdv A outer s H E) (defBody (top i)) t ∧ t { nx := fun _ H' => Q .non H', rt := Q } (start N vs) H) :
    Cal P w K mg base CX x (k + 1) ps sp := by
  obtain ⟨fd, F⟩ := T.says.def_ hd
  refine ⟨⟨fd, F.ok S len hbody, F.bindsN hb⟩, T.glo _ hg, F.kp⟩
section
variable {X : Cx} {CX : CXT} {k : Nat} {ps : List Str} {sp : Sp} {E : XK} {x : Str} {p pos : Pos} {e : Expr} {es : List Expr} {t : TA}
theorem pe_cal (C : Cal X.prog X.w X.K X.mg X.base CX x k ps sp) (hr : Room k X.A) (hx : Passes CX X E) (ha : PA X (e :: es) t) (hg : Gl X x := by rfl)
    (hdb : (x == ("__debug__" : Str)) = false := by decide) (he : (starEach (e :: es) X.env) = (false, eval e X.env) :: starEach es X.env := by rfl) (hpl : (backTo pos (starEach es X.env)).any (·.1) = false := by rfl) :
    PE X (.Call (.Name x p) (e :: es) [] pos) (tCall sp [] E t) := by
  obtain ⟨fd, F, b⟩ := C.ex
  exact pe_call F hr hg C.gl C.kp b .nil hx ha hdb he hpl
end

/-! ### heaps: all but the addresses S is as it was -/
def SameX (S : List Addr) (H H' : Hp) : Prop := ∀ a o, a ∉ S → H a = some o → H' a = some o
theorem SameX.refl (S : List Addr) (H : Hp) : SameX S H H := fun _ _ _ h => h
theorem SameX.trans {S : List Addr} {H H1 H2 : Hp} (a : SameX S H H1) (b : SameX S H1 H2) : SameX S H H2 := fun x o hx h => b x o hx (a x o hx h)
theorem _root_.L2.Same.x {S : List Addr} {H H' : Hp} (e : Same H H') : SameX S H H' := fun x o _ h => e x o h
theorem _root_.L2.Same.get {H H' : Hp} {a : Addr} {o : HO} (e : Same H H') (h : H a = some o) : H' a = some o := e a o h
theorem _root_.L2.Same.new {H : Hp} {p : Addr} {o : HO} (h : H p = none) : Same H (upd H p o) := fun a u q => by
  rw [upd_ne (ne_of_none q h)]
  exact q
theorem SameX.get1 {l a : Addr} {H H' : Hp} {u o : HO} (e : SameX [l] H H') (hl : H l = some u) (h : H a = some o) (hd : o ≠ u) : H' a = some o :=
  e a o (fun z => by
    rw [List.mem_singleton] at z
    subst z
    rw [hl] at h
    exact hd (Option.some.inj h).symm) h
theorem SameX.get2 {l l2 a : Addr} {H H' : Hp} {u u2 o : HO} (e : SameX [l, l2] H H') (hl : H l = some u) (hl2 : H l2 = some u2) (h : H a = some o) (hd : o ≠ u) (hd2 : o ≠ u2) : H' a = some o :=
  e a o (fun z => by
    rcases List.mem_cons.1 z with z | z
    · subst z
      rw [hl] at h
      exact hd (Option.some.inj h).symm
    · rw [List.mem_singleton] at z
      subst z
      rw [hl2] at h
      exact hd2 (Option.some.inj h).symm) h
theorem SameX.upd {H : Hp} {l : Addr} {o : HO} : SameX [l] H (upd H l o) := fun a u h e => by
  rw [upd_ne (fun z => h (by rw [z]; exact List.mem_singleton.mpr rfl))]
  exact e
/-- a new object is changed: to the outside nothing is -/
theorem SameX.out {S : List Addr} {H H1 H2 : Hp} (e : Same H H1) (h : SameX S H1 H2) (hn : ∀ l ∈ S, H l = none) : Same H H2 := fun a o q =>
  h a o (fun z => by rw [hn a z] at q; cases q) (e a o q)

/-! ### readings, one step each -/
section
variable {K : PySem.W.Frag} {σ : L2.St} {H : Hp} {D : Ends} {v x y : V} {ta tb te : TE} {t u : TS} {g : TG} {gs : TGs} {tt tu : TT} {Q : VK} {QB : Bool → Hp → Prop} {QA : List V → Hp → Prop} {QS : L2.St → Hp → Prop} {r : R2} {i : Nat} {a b : Addr} {xs : List V} {m n : Int}
theorem rd_seq (h : t { D with nx := u D } σ H) : tSeq t u D σ H := h
theorem rd_asg (h : te σ H fun x H1 => g x σ H1 D.nx) : tAsg te g D σ H := h
theorem rd_ret (h : te σ H D.rt) : tRet te D σ H := h
theorem rd_drop (h : te σ H fun _ H1 => D.nx σ H1) : tDrop te D σ H := h
theorem rd_next (h : D.nx σ H) : tNext D σ H := h
theorem rd_ifS (h : tt σ H fun b H1 => if b = true then t D σ H1 else u D σ H1) : tIfS tt t u D σ H := h
theorem rd_var (h : σ[i]? = some (some v)) (k : Q v H) : tVar i σ H Q := ⟨v, h, k⟩
theorem rd_c (k : Q v H) : tC v σ H Q := k
theorem rd_op (h : ta σ H fun x H1 => tb σ H1 fun y H2 => r x y H2 Q) : tOp r ta tb σ H Q := h
theorem rd_un {r : V → Hp → VK → Prop} (h : ta σ H fun x H1 => r x H1 Q) : tUn r ta σ H Q := h
theorem rd_I0 {f : Int → Int → V} (k : Q (f m n) H) : rI0 f (.int m) (.int n) H Q := ⟨m, n, rfl, rfl, k⟩
theorem rd_I {C : Int → Int → Prop} {f : Int → Int → V} (hc : C m n) (k : Q (f m n) H) : rI C f (.int m) (.int n) H Q := ⟨m, n, rfl, rfl, hc, k⟩
theorem rd_U {f : Int → V} (k : Q (f m) H) : rU f (.int m) H Q := ⟨m, rfl, k⟩
theorem rd_eq (h : scal x y = true) (k : Q (.bl (decide (x = y))) H) : rEq x y H Q := ⟨h, k⟩
theorem rd_ne (h : scal x y = true) (k : Q (.bl (!decide (x = y))) H) : rNe x y H Q := ⟨h, k⟩
theorem rd_test (h : te σ H fun x H' => ∃ k, x = .bl k ∧ QB k H') : tTest te σ H QB := h
theorem rd_B (h : te σ H fun x H' => ∃ k, x = .bl k ∧ QB k H') : tB te σ H QB := h
theorem rd_bl {c : Bool} {G : Bool → Prop} (k : G c) : ∃ d, V.bl c = .bl d ∧ G d := ⟨c, rfl, k⟩
theorem rd_and (h : tt σ H fun c H1 => if c = true then tu σ H1 QB else QB false H1) : tAnd tt tu σ H QB := h
theorem rd_or (h : tt σ H fun c H1 => if c = true then QB true H1 else tu σ H1 QB) : tOr tt tu σ H QB := h
theorem rd_not (h : tt σ H fun c H1 => QB (!c) H1) : tNot tt σ H QB := h
theorem rd_andV (h : ta σ H fun x H1 => ∃ c, x = .bl c ∧ if c = true then tb σ H1 Q else Q (.bl false) H1) : tAndV ta tb σ H Q := h
theorem rd_orV (h : ta σ H fun x H1 => ∃ c, x = .bl c ∧ if c = true then Q (.bl true) H1 else tb σ H1 Q) : tOrV ta tb σ H Q := h
theorem rd_notV (h : ta σ H fun x H1 => ∃ c, x = .bl c ∧ Q (.bl (!c)) H1) : tNotV ta σ H Q := h
theorem rd_name (k : QS (σ.set i (some v)) H) : gName i v σ H QS := k
theorem rd_ixT (hx : H a = some (.tup xs)) (ha : atI xs m = some v) (k : Q v H) : rIxT K (.ref a) (.int m) H Q := ⟨a, xs, m, v, rfl, rfl, SqT.of hx, ha, k⟩
theorem rd_ixL (hx : H a = some (.lst xs)) (ha : atI xs m = some v) (k : Q v H) : rIxL K (.ref a) (.int m) H Q := ⟨a, xs, m, v, rfl, rfl, SqL.of hx, ha, k⟩
theorem rd_anil (k : QA [] H) : tNil σ H QA := k
theorem rd_acons {tr : TA} (h : ta σ H fun x H1 => tr σ H1 fun vs H2 => QA (x :: vs) H2) : tCons ta tr σ H QA := h
theorem rd_gtup {n : Nat} (hx : H a = some (.tup xs)) (hn : xs.length = n) (k : gs xs σ H QS) : gTup K n gs (.ref a) σ H QS := ⟨a, xs, rfl, SqT.of hx, hn, k⟩
theorem rd_gcons {g : TG} {u : TGs} {v : V} {r : List V} (k : g v σ H fun σ' H' => u r σ' H' QS) : gCons g u (v :: r) σ H QS := ⟨v, r, rfl, k⟩
theorem rd_gnil (k : QS σ H) : gNil [] σ H QS := ⟨rfl, k⟩
theorem rd_call {sp : Sp} {E : XK} {tr : TA} (h : tr σ H fun vs H1 => sp (vs ++ []) H1 Q E) : tCall sp [] E tr σ H Q := h
theorem rd_cb {r : List V → Hp → VK → Prop} {tr : TA} (h : tr σ H fun vs H1 => r vs H1 Q) : tCB r tr σ H Q := h
end
theorem sz (n : Nat) (h : n ≤ 100000) : n ≤ sizeLine := Nat.le_trans h (by decide)
theorem szl (n : Nat) (h : n < 100000) : n < sizeLine := Nat.lt_of_lt_of_le h (by decide)
theorem at_map {α : Type} {f : α → V} {as : List α} {j : Nat} {q : α} (h : as[j]? = some q) : atI (as.map f) (j : Int) = some (f q) := atI_nat (by rw [List.getElem?_map, h]; rfl)
theorem iteb {c : Bool} {A B : Prop} (h1 : c = true → A) (h2 : c = false → B) : if c = true then A else B := by
  cases c with
  | true => exact h1 rfl
  | false => exact h2 rfl
end Bp

namespace Bp
open PySem PyProof.Rows L2 PySem.Spec
abbrev rAddI : R2 := rI0 fun i j => .int (i + j)
abbrev rSubI : R2 := rI0 fun i j => .int (i - j)
abbrev rMulI : R2 := rI CMul fun i j => .int (i * j)
abbrev rModI : R2 := rI (fun _ j => 0 < j) fun i j => .int (i % j)
abbrev rDivI : R2 := rI CDiv fun i j => .int (i / j)
abbrev rPowI : R2 := rI CPow fun i j => .int (i ^ j.toNat)
abbrev rLtI : R2 := rI0 fun i j => .bl (decide (i < j))
abbrev rLeI : R2 := rI0 fun i j => .bl (decide (i ≤ j))
abbrev rGtI : R2 := rI0 fun i j => .bl (decide (j < i))
abbrev rGeI : R2 := rI0 fun i j => .bl (decide (j ≤ i))

/-! ### tuples stay -/
def Tst (H H' : Hp) : Prop := ∀ a xs, H a = some (.tup xs) → H' a = some (.tup xs)
theorem Tst.refl (H : Hp) : Tst H H := fun _ _ h => h
theorem Tst.trans {H H1 H2 : Hp} (a : Tst H H1) (b : Tst H1 H2) : Tst H H2 := fun x xs h => b x xs (a x xs h)
theorem _root_.L2.Same.ts {H H' : Hp} (e : Same H H') : Tst H H' := fun a xs h => e a _ h
theorem SameX.ts1 {H H' : Hp} {l : Addr} {u : HO} (e : SameX [l] H H') (hl : H l = some u) (hu : ∀ xs, u ≠ .tup xs) : Tst H H' := fun a xs h => e.get1 hl h fun z => hu xs z.symm
theorem SameX.ts2 {H H' : Hp} {l l2 : Addr} {u u2 : HO} (e : SameX [l, l2] H H') (hl : H l = some u) (hl2 : H l2 = some u2) (hu : ∀ xs, u ≠ .tup xs) (hu2 : ∀ xs, u2 ≠ .tup xs) : Tst H H' := fun a xs h => e.get2 hl hl2 h (fun z => hu xs z.symm) fun z => hu2 xs z.symm

/-! ### data -/
abbrev Span.row (s : Span) : List V := [.str s.word, .int (s.one : Nat), .int (s.other : Nat), .int s.low, .int s.high]
/-- at as: tuples of these rows -/
structure Rows (H : Hp) (as : List Addr) (rs : List (List V)) : Prop where
  len : as.length = rs.length
  at_ : ∀ (i : Nat) (a : Addr) (r : List V), as[i]? = some a → rs[i]? = some r → H a = some (.tup r)
theorem Rows.mono {H H' : Hp} {as : List Addr} {rs : List (List V)} (t : Tst H H') (h : Rows H as rs) : Rows H' as rs := ⟨h.len, fun i a r h1 h2 => t _ _ (h.at_ i a r h1 h2)⟩
theorem Rows.get {H : Hp} {as : List Addr} {rs : List (List V)} (h : Rows H as rs) {i : Nat} {r : List V} (hr : rs[i]? = some r) : ∃ a, as[i]? = some a ∧ H a = some (.tup r) := by
  have hi : i < as.length := by rw [h.len]; exact (List.getElem?_eq_some_iff.mp hr).1
  exact ⟨as[i], List.getElem?_eq_getElem hi, h.at_ i _ r (List.getElem?_eq_getElem hi) hr⟩
theorem Rows.nil {H : Hp} : Rows H [] [] := ⟨rfl, fun i a r h => by simp at h⟩
theorem Rows.snoc {H : Hp} {as : List Addr} {rs : List (List V)} {a : Addr} {r : List V} (h : Rows H as rs) (ha : H a = some (.tup r)) : Rows H (as ++ [a]) (rs ++ [r]) := by
  refine ⟨by simp [h.len], fun i b q h1 h2 => ?_⟩
  by_cases hi : i < as.length
  · rw [List.getElem?_append_left hi] at h1
    rw [List.getElem?_append_left (by rw [← h.len]; exact hi)] at h2
    exact h.at_ i b q h1 h2
  · have e1 : i = as.length := by
      have := (List.getElem?_eq_some_iff.mp h1).1
      simp at this
      omega
    subst e1
    rw [List.getElem?_append_right (Nat.le_refl _)] at h1
    rw [h.len, List.getElem?_append_right (Nat.le_refl _)] at h2
    simp at h1 h2
    rw [← h1, ← h2]
    exact ha
/-- a tuple of tuples -/
def TupsA (H : Hp) (a : Addr) (rs : List (List V)) : Prop := ∃ as : List Addr, H a = some (.tup (as.map V.ref)) ∧ Rows H as rs
theorem TupsA.mono {H H' : Hp} {a : Addr} {rs : List (List V)} (t : Tst H H') (h : TupsA H a rs) : TupsA H' a rs := by
  obtain ⟨as, h1, h2⟩ := h
  exact ⟨as, t _ _ h1, h2.mono t⟩
structure PlanA (H : Hp) (I : Inst) (a : Addr) : Prop where
  ex : ∃ b c, H a = some (.tup [.ref b, .ref c]) ∧ H b = some (.tup (I.names.map V.str)) ∧ TupsA H c (I.spans.map Span.row)
theorem PlanA.mono {H H' : Hp} {I : Inst} {a : Addr} (t : Tst H H') (h : PlanA H I a) : PlanA H' I a := by
  obtain ⟨b, c, h1, h2, h3⟩ := h.ex
  exact ⟨b, c, t _ _ h1, t _ _ h2, h3.mono t⟩
theorem PlanA.span {H : Hp} {I : Inst} {a : Addr} (h : PlanA H I a) {s : Nat} (hs : s < I.spans.length) :
    ∃ (b c : Addr) (as : List Addr) (q : Addr), H a = some (.tup [.ref b, .ref c]) ∧ H c = some (.tup (as.map V.ref)) ∧ atI (as.map V.ref) (s : Int) = some (V.ref q) ∧ H q = some (.tup [.str (I.sp s).word, .int ((I.sp s).one : Nat), .int ((I.sp s).other : Nat), .int (I.sp s).low, .int (I.sp s).high]) := by
  obtain ⟨b, c, h1, h2, as, h3, h4⟩ := h.ex
  have e : (I.spans.map Span.row)[s]? = some (I.sp s).row := by
    rw [List.getElem?_map, List.getElem?_eq_getElem hs]
    show some _ = some _
    unfold Inst.sp
    rw [List.getD_eq_getElem?_getD, List.getElem?_eq_getElem hs]
    rfl
  obtain ⟨q, h5, h6⟩ := h4.get e
  exact ⟨b, c, as, q, h1, h3, at_map h5, h6⟩
def BeatsA (H : Hp) (I : Inst) (a : Addr) : Prop :=
  H a = some (.tup (I.beats.map V.int))
theorem BeatsA.mono {H H' : Hp} {I : Inst} {a : Addr} (t : Tst H H') (h : BeatsA H I a) : BeatsA H' I a := t _ _ h
theorem at_beat {I : Inst} {w : Nat} (h : w < I.beats.length) : atI (I.beats.map V.int) (w : Int) = some (V.int (I.b w)) := by
  have e : I.beats[w]? = some (I.b w) := by
    unfold Inst.b
    rw [List.getD_eq_getElem?_getD, List.getElem?_eq_getElem h]
    rfl
  exact at_map e
def WaitA (H : Hp) (I : Inst) (a : Addr) : Prop := H a = some (.tup (I.wait.map fun n : Nat => V.int n))
theorem WaitA.mono {H H' : Hp} {I : Inst} {a : Addr} (t : Tst H H') (h : WaitA H I a) : WaitA H' I a := t _ _ h
abbrev gvRow (g : Gv) : List V := [.int (g.1 : Nat), .int (g.2.1 : Nat), .int g.2.2]
def GivenA (H : Hp) (gv : List Gv) (a : Addr) : Prop := TupsA H a (gv.map gvRow)
theorem GivenA.mono {H H' : Hp} {gv : List Gv} {a : Addr} (t : Tst H H') (h : GivenA H gv a) : GivenA H' gv a := TupsA.mono t h
def tabRow (works : Nat) (N : Tab) (t : Nat) : List V := (List.range works).map fun w => V.int (N t w)
def tabRows (many works : Nat) (N : Tab) : List (List V) := (List.range many).map fun t => tabRow works N t
def TableA (H : Hp) (many works : Nat) (N : Tab) (a : Addr) : Prop := TupsA H a (tabRows many works N)
theorem TableA.mono {H H' : Hp} {many works : Nat} {N : Tab} {a : Addr} (t : Tst H H') (h : TableA H many works N a) : TableA H' many works N a := TupsA.mono t h
theorem TableA.row {H : Hp} {many works : Nat} {N : Tab} {a : Addr} (h : TableA H many works N a) {t : Nat} (ht : t < many) :
    ∃ (as : List Addr) (q : Addr), H a = some (.tup (as.map V.ref)) ∧ as.length = many ∧ atI (as.map V.ref) (t : Int) = some (V.ref q) ∧ H q = some (.tup (tabRow works N t)) := by
  obtain ⟨as, h1, h2⟩ := h
  have e : (tabRows many works N)[t]? = some (tabRow works N t) := by simp [tabRows, ht]
  obtain ⟨q, h3, h4⟩ := h2.get e
  exact ⟨as, q, h1, by rw [h2.len]; simp [tabRows], at_map h3, h4⟩
theorem at_tab {works : Nat} {N : Tab} {t w : Nat} (h : w < works) : atI (tabRow works N t) (w : Int) = some (V.int (N t w)) := at_map (f := fun w => V.int (N t w)) (as := List.range works) (by simp [h])
end Bp

namespace Bp
open PySem PyProof.Rows L2 PySem.Spec
/-! ### dicts by (turn, work) -/
def ky (t w : Int) : List Key := [.inl t, .inl w]
theorem ky_inj {a b c d : Int} (h : ky a b = ky c d) : a = c ∧ b = d := by
  unfold ky at h
  injection h with h1 h2
  injection h2 with h2 _
  injection h1 with h1
  injection h2 with h2
  exact ⟨h1, h2⟩
structure KeysOk (many works : Nat) (kvs : List (List Key × V)) : Prop where
  nd : (kvs.map (·.1)).Nodup
  sub : ∀ k ∈ kvs.map (·.1), ∃ t w : Nat, t < many ∧ w < works ∧ k = ky t w
theorem KeysOk.nil {many works : Nat} : KeysOk many works [] := ⟨List.nodup_nil, fun _ h => (by cases h)⟩
theorem KeysOk.len {many works : Nat} {kvs : List (List Key × V)} (h : KeysOk many works kvs) : kvs.length ≤ many * works := by
  have := nodup_sub_len (l := kvs.map (·.1)) (g := (grid many works).map fun p => ky (p.1 : Nat) (p.2 : Nat)) h.nd fun k hk => by
    obtain ⟨t, w, h1, h2, rfl⟩ := h.sub k hk
    exact List.mem_map.mpr ⟨(t, w), mem_grid.mpr ⟨h1, h2⟩, rfl⟩
  rwa [List.length_map, List.length_map, grid_len] at this
theorem keys_put (kvs : List (List Key × V)) (k : List Key) (v : V) : (k ∈ kvs.map (·.1) ∧ (putK kvs k v).map (·.1) = kvs.map (·.1)) ∨ (k ∉ kvs.map (·.1) ∧ (putK kvs k v).map (·.1) = kvs.map (·.1) ++ [k]) := by
  have hany : (kvs.any fun kv => decide (kv.1 = k)) = true ↔ k ∈ kvs.map (·.1) := by
    rw [List.any_eq_true, List.mem_map]
    constructor
    · rintro ⟨p, hp, e⟩
      exact ⟨p, hp, of_decide_eq_true e⟩
    · rintro ⟨p, hp, e⟩
      exact (⟨p, hp, decide_eq_true e⟩)
  unfold putK
  by_cases h : (kvs.any fun kv => decide (kv.1 = k)) = true
  · refine .inl ⟨hany.mp h, ?_⟩
    rw [if_pos h, List.map_map]
    refine List.map_congr_left (fun p _ => ?_)
    show (if p.1 = k then (p.1, v) else p).1 = p.1
    split <;> rfl
  · refine .inr ⟨fun z => h (hany.mpr z), ?_⟩
    rw [if_neg h, List.map_append]
    rfl
theorem KeysOk.put {many works : Nat} {kvs : List (List Key × V)} (h : KeysOk many works kvs) {t w : Nat} (ht : t < many) (hw : w < works) (v : V) : KeysOk many works (putK kvs (ky t w) v) := by
  rcases keys_put kvs (ky t w) v with ⟨_, e⟩ | ⟨hn, e⟩
  · exact ⟨by rw [e]; exact h.nd, fun k hk => h.sub k (by rw [e] at hk; exact hk)⟩
  · refine ⟨?_, fun k hk => ?_⟩
    · rw [e, List.nodup_append]
      exact ⟨h.nd, by simp, fun a ha b hb => by rw [List.mem_singleton.mp hb]; rintro rfl; exact hn ha⟩
    · rw [e] at hk
      rcases List.mem_append.1 hk with hk | hk
      · exact h.sub k hk
      · exact ⟨t, w, ht, hw, List.mem_singleton.mp hk⟩
/-- a dict of numbers, by turns and works; 0 where none is -/
def GetsN (kvs : List (List Key × V)) (N : Tab) : Prop := ∀ t w : Nat, (valV kvs (ky t w)).getD (.int 0) = .int (N t w)
theorem GetsN.nil : GetsN [] (fun _ _ => 0) := fun _ _ => rfl
def setT (N : Tab) (t w : Nat) (n : Int) : Tab := fun t' w' => if t' = t ∧ w' = w then n else N t' w'
theorem setT_same {N : Tab} {t w : Nat} {n : Int} : setT N t w n t w = n := if_pos ⟨rfl, rfl⟩
theorem setT_other {N : Tab} {t w t' w' : Nat} {n : Int} (h : ¬ (t' = t ∧ w' = w)) : setT N t w n t' w' = N t' w' := if_neg h
theorem ky_cast {t w t' w' : Nat} (h : ky t w = ky t' w') : t = t' ∧ w = w' := by
  obtain ⟨h1, h2⟩ := ky_inj h
  omega
theorem GetsN.put {kvs : List (List Key × V)} {N : Tab} (h : GetsN kvs N) (t w : Nat) (n : Int) : GetsN (putK kvs (ky t w) (.int n)) (setT N t w n) := fun t' w' => by
  rw [valV_put]
  by_cases e : t' = t ∧ w' = w
  · rw [e.1, e.2, if_pos rfl, setT_same]
    rfl
  · rw [if_neg (fun z => e (ky_cast z)), setT_other e]
    exact h t' w'

/-- a new tuple, list, dict -/
def NewT (xs : List V) (H : Hp) (Q : VK) : Prop := xs.length ≤ sizeLine ∧ ∀ p, H p = none → Q (.ref p) (upd H p (.tup xs))
def NewL (xs : List V) (H : Hp) (Q : VK) : Prop := xs.length ≤ sizeLine ∧ ∀ p, H p = none → Q (.ref p) (upd H p (.lst xs))
theorem newT {xs : List V} {H : Hp} {Q : VK} (k : ∀ p H1, H p = none → Same H H1 → H1 p = some (.tup xs) → Q (.ref p) H1) (hz : decide (xs.length ≤ 100000) = true) : NewT xs H Q :=
  ⟨sz _ (of_decide_eq_true hz), fun p hp => k p _ hp (Same.new hp) upd_same⟩
theorem newL {xs : List V} {H : Hp} {Q : VK} (k : ∀ p H1, H p = none → Same H H1 → H1 p = some (.lst xs) → Q (.ref p) H1) (hz : decide (xs.length ≤ 100000) = true) : NewL xs H Q :=
  ⟨sz _ (of_decide_eq_true hz), fun p hp => k p _ hp (Same.new hp) upd_same⟩
theorem rd_tup {σ : L2.St} {H : Hp} {Q : VK} {tr : TA} (h : tr σ H fun xs H1 => NewT xs H1 Q) : tTup tr σ H Q := h
theorem rd_lst {σ : L2.St} {H : Hp} {Q : VK} {tr : TA} (h : tr σ H fun xs H1 => NewL xs H1 Q) : tLst tr σ H Q := h
theorem newD {σ : L2.St} {H : Hp} {Q : VK} (k : ∀ p H1, H p = none → Same H H1 → H1 p = some (.dT []) → Q (.ref p) H1) : tDNewT σ H Q := fun p hp => k p _ hp (Same.new hp) upd_same
theorem ite_no {A B : Prop} (h : B) : if false = true then A else B := by rw [if_neg (by decide)]; exact h
theorem ite_nf {A B : Prop} (h : A) : if (!false) = true then A else B := by rw [if_pos (by decide)]; exact h
theorem ite_nt {A B : Prop} (h : B) : if (!true) = true then A else B := by rw [if_neg (by decide)]; exact h
theorem ite_yes {A B : Prop} (h : A) : if true = true then A else B := by rw [if_pos rfl]; exact h
theorem inV_nats (n : Nat) (ns : List Nat) : inV (.int (n : Nat)) (ns.map fun k : Nat => V.int k) = decide (n ∈ ns) := by
  unfold inV
  rw [List.any_map]
  by_cases h : n ∈ ns
  · rw [decide_eq_true h, List.any_eq_true]
    exact ⟨n, h, by show ((n : Int) == (n : Int)) = true; simp⟩
  · rw [decide_eq_false h, List.any_eq_false]
    intro k hk z
    have z2 : ((k : Int) == (n : Int)) = true := z
    have z3 : (k : Int) = n := beq_iff_eq.mp z2
    exact h (by rw [show n = k by omega]; exact hk)
theorem flat_nats (ns : List Nat) : (ns.map fun k : Nat => V.int k).all flatV = true := by
  rw [List.all_map, List.all_eq_true]
  intro k _
  rfl
/-! ### readings -/
section
variable {K : PySem.W.Frag} {σ : L2.St} {H : Hp} {D : Ends} {v x y z : V} {ta tb te tv : TE} {tr : TA} {t u : TS} {g : TG} {gs : TGs} {tt tu : TT} {Q : VK} {QB : Bool → Hp → Prop} {QA : List V → Hp → Prop} {QS : L2.St → Hp → Prop} {r : R2} {i j : Nat} {a b d l : Addr} {xs : List V} {m n : Int} {kvs : List (List Key × V)} {k : List Key}
theorem rd_call1 {sp : Sp} {E : XK} (h : tr σ H fun vs H1 => sp vs H1 Q E) : tCall sp [] E tr σ H Q := by
  have e : (fun (vs : List V) (H1 : Hp) => sp (vs ++ []) H1 Q E) = fun vs H1 => sp vs H1 Q E := by
    funext vs H1
    rw [List.append_nil]
  show tr σ H (fun vs H1 => sp (vs ++ []) H1 Q E)
  rw [e]
  exact h
theorem rd_yes (h : QB true H) : tYes σ H QB := h
/-- what a dict is read as: it stands, or is locked -/
def DT (H : Hp) (d : Addr) (kvs : List (List Key × V)) : Prop := Rd H d (.dT kvs)
theorem DT.same {H1 H2 : Hp} (e : Same H1 H2) (h : DT H1 d kvs) : DT H2 d kvs := by
  rcases h with h | ⟨o, h⟩
  · exact .inl (e _ _ h)
  · exact .inr ⟨o, e _ _ h⟩
theorem rd_get (hi : σ[i]? = some (some (.ref d))) (hd : DT H d kvs) (hA : ∀ H1 QA, QA [.int m, .int n] H1 → tr σ H1 QA) (hv : (valV kvs (ky m n)).getD z = v) (q : ∀ H1, Same H H1 → Q v H1) : tDGet2 (tVar i) (tTup tr) (tC z) σ H Q := by
  refine ⟨.ref d, hi, d, rfl, .inr ⟨kvs, hd⟩, hA H _ ⟨sz _ (by show 2 ≤ 100000; decide), fun p hp => ?_⟩⟩
  have s : Same H (upd H p (.tup [.int m, .int n])) := Same.new hp
  refine ⟨valV kvs (ky m n), .inr ⟨kvs, ky m n, p, DT.same s hd, rfl, upd_same, rfl⟩, ?_⟩
  rw [hv]
  exact q _ s
theorem rd_dget (hi : σ[i]? = some (some (.ref d))) (hd : DT H d kvs) (hA : ∀ H1 QA, QA [.int m, .int n] H1 → tr σ H1 QA) (hv : valV kvs (ky m n) = some v) (q : ∀ H1, Same H H1 → Q v H1) : tDGet (tVar i) (tTup tr) σ H Q := by
  refine ⟨.ref d, hi, hA H _ ⟨sz _ (by show 2 ≤ 100000; decide), fun p hp => ?_⟩⟩
  have s : Same H (upd H p (.tup [.int m, .int n])) := Same.new hp
  exact ⟨d, v, rfl, .inr ⟨kvs, ky m n, p, DT.same s hd, rfl, upd_same, hv.symm⟩, q _ s⟩
/-- d[p], p a tuple that stands -/
theorem rd_dgetV (hi : σ[i]? = some (some (.ref d))) (hj : σ[j]? = some (some (.ref b))) (hd : DT H d kvs) (hb : H b = some (.tup [.int m, .int n])) (hv : valV kvs (ky m n) = some v) (q : Q v H) : tDGet (tVar i) (tVar j) σ H Q :=
  ⟨.ref d, hi, .ref b, hj, d, v, rfl, .inr ⟨kvs, ky m n, b, hd, rfl, hb, hv.symm⟩, q⟩
def PutAt (td ty : TE) (v : V) (D : Ends) (σ : L2.St) (H1 : Hp) : Prop := td σ H1 fun x H2 => ty σ H2 fun y H3 => ∃ a H4, x = .ref a ∧ DPut H3 a y v H4 ∧ D.nx σ H4
theorem rd_sdput {td ty : TE} (h : tv σ H fun v H1 => PutAt td ty v D σ H1) : sDPut td ty tv D σ H := h
theorem rd_put (hi : σ[i]? = some (some (.ref d))) (hA : ∀ H1 QA, QA [.int m, .int n] H1 → tr σ H1 QA) (hd : H d = some (.dT kvs)) (hl : kvs.length < 100000) (q : ∀ H2, SameX [d] H H2 → H2 d = some (.dT (putK kvs (ky m n) v)) → D.nx σ H2) :
    PutAt (tVar i) (tTup tr) v D σ H := by
  refine ⟨.ref d, hi, hA H _ ⟨sz _ (by show 2 ≤ 100000; decide), fun p hp => ?_⟩⟩
  have s : Same H (upd H p (.tup [.int m, .int n])) := Same.new hp
  refine ⟨d, upd (upd H p (.tup [.int m, .int n])) d (.dT (putK kvs (ky m n) v)), rfl, DPut.t (k := ky m n) (s _ _ hd) upd_same (szl _ hl), q _ (fun c o hc e => ?_) upd_same⟩
  rw [upd_ne (fun z => hc (by rw [z]; exact List.mem_singleton.mpr rfl))]
  exact s _ _ e
theorem rd_append (hi : σ[i]? = some (some (.ref l))) (hx : H l = some (.lst xs)) (h : te σ H fun v H1 => rAppend (.ref l) [v] H1 fun _ H2 => D.nx σ H2) : tDrop (tBM K "list" rAppend (tVar i) (tCons te tNil)) D σ H :=
  ⟨.ref l, hi, .inl ⟨rfl, _, SqL.of hx⟩, h⟩
theorem rd_app (hx : H l = some (.lst xs)) (hz : xs.length < 100000) (q : ∀ H2, SameX [l] H H2 → H2 l = some (.lst (xs ++ [v])) → Q .non H2) : rAppend (.ref l) [v] H Q :=
  ⟨l, xs, v, rfl, rfl, hx, szl _ hz, q _ SameX.upd upd_same⟩
theorem rd_extend (hi : σ[i]? = some (some (.ref l))) (hx : H l = some (.lst xs)) (h : te σ H fun v H1 => rExtend (.ref l) [v] H1 fun _ H2 => D.nx σ H2) : tDrop (tBM K "list" rExtend (tVar i) (tCons te tNil)) D σ H :=
  ⟨.ref l, hi, .inl ⟨rfl, _, SqL.of hx⟩, h⟩
theorem rd_ext {zs : List V} (hx : H l = some (.lst xs)) (hb : H b = some (.lst zs)) (hz : xs.length + zs.length ≤ 100000) (q : ∀ H2, SameX [l] H H2 → H2 l = some (.lst (xs ++ zs)) → Q .non H2) : rExtend (.ref l) [.ref b] H Q :=
  ⟨l, b, xs, zs, rfl, rfl, hx, hb, sz _ hz, q _ SameX.upd upd_same⟩
theorem rd_notIn (hx : H a = some (.tup xs)) (hf : flatV x = true) (hs : xs.all flatV = true) (q : Q (.bl (!inV x xs)) H) : rIn K true x (.ref a) H Q := ⟨a, xs, rfl, .inr (SqT.of hx), hf, hs, q⟩
/-- loops -/
theorem rd_forI {wi : TI} {tb : TS} (h : wi σ H fun J H1 => ∃ W : Nat → Nat → L2.St → Hp → Prop, (∃ m, W 0 m σ H1) ∧ ∀ i m σ H, W i m σ H →
    (J.stop i H ∧ D.nx σ H) ∨ (J.go i H ∧ ∃ N : L2.St → Hp → Prop, (∀ σ' H', N σ' H' → ∃ m', m' < m ∧ W (i + 1) m' σ' H') ∧ ∀ x H', J.yld i H x H' → g x σ H' fun σ2 H2 => tb { D with nx := N, ct := N, bk := D.nx } σ2 H2)) : tFor wi g tb D σ H := h
theorem rd_iL {tl : TE} {R : It → Hp → Prop} (h : tl σ H fun x H1 => ∃ a, x = .ref a ∧ (∃ xs, SqL K H1 a xs) ∧ R (Itl K a) H1) : iList K tl σ H R := h
theorem rd_iT {tl : TE} {R : It → Hp → Prop} (h : tl σ H fun x H1 => ∃ a, x = .ref a ∧ (∃ xs, SqT K H1 a xs) ∧ R (Itt K a) H1) : iTup K tl σ H R := h
theorem rd_atL {R : It → Hp → Prop} (hx : H a = some (.lst xs)) (h : R (Itl K a) H) : ∃ b, V.ref a = .ref b ∧ (∃ xs, SqL K H b xs) ∧ R (Itl K b) H := ⟨a, rfl, ⟨xs, SqL.of hx⟩, h⟩
theorem rd_atT {R : It → Hp → Prop} (hx : H a = some (.tup xs)) (h : R (Itt K a) H) : ∃ b, V.ref a = .ref b ∧ (∃ xs, SqT K H b xs) ∧ R (Itt K b) H := ⟨a, rfl, ⟨xs, SqT.of hx⟩, h⟩
theorem rd_forTv {tb : TS} (hi : σ[i]? = some (some (.ref a))) (hx : H a = some (.tup xs)) (Pv : Nat → L2.St → Hp → Prop) (h0 : Pv 0 σ H) (hl : ∀ i σ' H', Pv i σ' H' → H' a = some (.tup xs))
    (hs : ∀ i x σ' H', xs[i]? = some x → Pv i σ' H' → g x σ' H' fun σ2 H2 => tb { D with nx := Pv (i + 1), ct := Pv (i + 1), bk := D.nx } σ2 H2) (hd : ∀ σ' H', Pv xs.length σ' H' → D.nx σ' H') : tFor (iTup K (tVar i)) g tb D σ H :=
  ⟨.ref a, hi, a, rfl, ⟨xs, SqT.of hx⟩, for_tup (xs := xs) Pv h0 (fun i σ' H' _ p => SqT.of (hl i σ' H' p)) hs hd⟩
theorem rd_forLv {tb : TS} (hi : σ[i]? = some (some (.ref a))) (hx : H a = some (.lst xs)) (Pv : Nat → L2.St → Hp → Prop) (h0 : Pv 0 σ H) (hl : ∀ i σ' H', Pv i σ' H' → H' a = some (.lst xs))
    (hs : ∀ i x σ' H', xs[i]? = some x → Pv i σ' H' → g x σ' H' fun σ2 H2 => tb { D with nx := Pv (i + 1), ct := Pv (i + 1), bk := D.nx } σ2 H2) (hd : ∀ σ' H', Pv xs.length σ' H' → D.nx σ' H') : tFor (iList K (tVar i)) g tb D σ H :=
  ⟨.ref a, hi, a, rfl, ⟨xs, SqL.of hx⟩, for_list (xs := xs) Pv h0 (fun i σ' H' _ p => SqL.of (hl i σ' H' p)) hs hd⟩
theorem rd_forR {tb : TS} (h : ∀ Q : VK, Q (.int n) H → te σ H Q) (hn : n ≤ 100000) (hn0 : -1000000000 ≤ n) (Pv : Nat → L2.St → Hp → Prop) (h0 : Pv 0 σ H)
    (hs : ∀ (i : Nat) σ' H', (i : Int) < n → Pv i σ' H' → g (.int (i : Nat)) σ' H' fun σ2 H2 => tb { D with nx := Pv (i + 1), ct := Pv (i + 1), bk := D.nx } σ2 H2) (hd : ∀ σ' H', Pv n.toNat σ' H' → D.nx σ' H') : tFor (iRng1 (tCons te tNil)) g tb D σ H := by
  refine h _ ⟨n, rfl, by omega, by omega, for_range (lo := 0) (n := n.toNat) Pv h0 (fun i σ' H' hi p => ?_) hd⟩
  have e0 : (0 : Int) + (i : Int) = (i : Int) := (Int.zero_add _)
  rw [e0]
  exact hs i σ' H' (by omega) p
/-- len, tuple, list of a list or a tuple -/
abbrev rLenS (K : PySem.W.Frag) : List V → Hp → VK → Prop := fun as H Q => ∃ c ys, as = [.ref c] ∧ (SqL K H c ys ∨ SqT K H c ys) ∧ Q (.int ys.length) H
abbrev rTupOf (K : PySem.W.Frag) : List V → Hp → VK → Prop := fun as H Q => ∃ c ys, as = [.ref c] ∧ ((SqL K H c ys ∧ ∀ q, H q = none → Q (.ref q) (upd H q (.tup ys))) ∨ (SqT K H c ys ∧ Q (.ref c) H))
abbrev rListOf (K : PySem.W.Frag) : List V → Hp → VK → Prop := fun as H Q => ∃ c ys, as = [.ref c] ∧ (SqL K H c ys ∨ SqT K H c ys) ∧ ∀ q, H q = none → Q (.ref q) (upd H q (.lst ys))
abbrev rMax2 : List V → Hp → VK → Prop := fun as H Q => ∃ i j, as = [.int i, .int j] ∧ Q (.int (if j > i then j else i)) H
abbrev rInt1 : List V → Hp → VK → Prop := fun as H Q => (∃ i, as = [.int i] ∧ Q (.int i) H) ∨ ∃ c, as = [.bl c] ∧ Q (.int (if c then 1 else 0)) H
theorem rd_lenT (hx : H a = some (.tup xs)) (q : Q (.int xs.length) H) : rLenS K [.ref a] H Q := ⟨a, xs, rfl, .inr (SqT.of hx), q⟩
theorem rd_lenL (hx : H a = some (.lst xs)) (q : Q (.int xs.length) H) : rLenS K [.ref a] H Q := ⟨a, xs, rfl, .inl (SqL.of hx), q⟩
theorem rd_tupOf (hx : H a = some (.lst xs)) (q : ∀ p H1, H p = none → Same H H1 → H1 p = some (.tup xs) → Q (.ref p) H1) : rTupOf K [.ref a] H Q := ⟨a, xs, rfl, .inl ⟨SqL.of hx, fun p hp => q p _ hp (Same.new hp) upd_same⟩⟩
theorem rd_listOf (hx : H a = some (.lst xs)) (q : ∀ p H1, H p = none → Same H H1 → H1 p = some (.lst xs) → Q (.ref p) H1) : rListOf K [.ref a] H Q := ⟨a, xs, rfl, .inl (SqL.of hx), fun p hp => q p _ hp (Same.new hp) upd_same⟩
theorem rd_max2 (q : Q (.int (max m n)) H) : rMax2 [.int m, .int n] H Q := ⟨m, n, rfl, by
  have e : (if n > m then n else m) = max m n := by split <;> omega
  rw [e]
  exact q⟩
theorem rd_isiI (q : Q (.bl true) H) : rIsi K [.int m, .ty "int"] H Q := ⟨.int m, .ty "int", .type "int", .type "int", true, rfl, .ty _, .base (.int m), kit_ty (by decide +kernel), q⟩
theorem rd_isiB (q : Q (.bl false) H) : rIsi K [.int m, .ty "bool"] H Q := ⟨.int m, .ty "bool", .type "int", .type "bool", false, rfl, .ty _, .base (.int m), kit_ty (by decide +kernel), q⟩
theorem rd_isiT (hx : H a = some (.tup xs)) (q : Q (.bl true) H) : rIsi K [.ref a, .ty "tuple"] H Q := ⟨.ref a, .ty "tuple", .type "tuple", .type "tuple", true, rfl, .ty _, .base (.tup hx), kit_ty (by decide +kernel), q⟩
theorem rd_all {bs : List Bool} (hx : H a = some (.lst (bs.map V.bl))) (q : Q (.bl (bs.all id)) H) : rAll K [.ref a] H Q := ⟨a, bs, rfl, SqL.of hx, q⟩
/-- while x, x a truth in a slot -/
theorem rd_whileV {tb : TS} (W : Nat → Bool → L2.St → Hp → Prop) {m0 : Nat} {b0 : Bool} (h0 : W m0 b0 σ H) (hv : ∀ m b σ' H', W m b σ' H' → σ'[i]? = some (some (.bl b)))
    (hs : ∀ m σ' H', W m true σ' H' → tb { D with nx := fun σ2 H2 => ∃ m2 b2, m2 < m ∧ W m2 b2 σ2 H2, ct := fun σ2 H2 => ∃ m2 b2, m2 < m ∧ W m2 b2 σ2 H2, bk := D.nx } σ' H') (hd : ∀ m σ' H', W m false σ' H' → D.nx σ' H') : tWhile (tB (tVar i)) tb D σ H := by
  refine ⟨fun m σ' H' => ∃ b, W m b σ' H', ⟨m0, b0, h0⟩, fun m σ' H' ⟨b, w⟩ => ?_⟩
  refine ⟨.bl b, hv m b σ' H' w, b, rfl, ?_⟩
  cases b with
  | true =>
    refine ite_yes ⟨_, fun σ2 H2 ⟨m2, b2, l2, w2⟩ => ⟨m2, l2, b2, w2⟩, hs m σ' H' w⟩
  | false =>
    show (if false = true then _ else _)
    rw [if_neg (by decide)]
    exact hd m σ' H' w
/-- t + u, tuples -/
theorem rd_catT {xs ys : List V} (ha : H a = some (.tup xs)) (hb : H b = some (.tup ys)) (hz : xs.length + ys.length ≤ 100000) (q : ∀ p H1, Same H H1 → H1 p = some (.tup (xs ++ ys)) → Q (.ref p) H1) : rCatA K (.ref a) (.ref b) H Q := by
  refine ⟨a, b, xs, ys, rfl, rfl, SqT.of ha, SqT.of hb, sz _ hz, fun e => ?_, fun e1 e2 => ?_, fun e1 e2 p hp => ?_⟩
  · subst e
    exact q b H (Same.refl H) hb
  · subst e2
    rw [List.append_nil] at q
    exact q a H (Same.refl H) ha
  · exact q p _ (Same.new hp) upd_same
/-- comprehensions of plain values -/
theorem rd_lcR {vs : List Nat} (f : Nat → V) (h : ∀ Q : VK, Q (.int n) H → te σ H Q) (hn : n ≤ 100000) (hn0 : -1000000000 ≤ n) (hw : ∀ x, wipe ((wipe σ vs).set j (some x)) vs = wipe σ vs)
    (he : ∀ (i : Nat) H1, (i : Int) < n → Same H H1 → ∀ Q : VK, (∀ H2, Same H1 H2 → Q (f i) H2) → tv ((wipe σ vs).set j (some (.int (i : Nat)))) H1 Q)
    (q : ∀ p H1, H p = none → Same H H1 → H1 p = some (.lst ((List.range n.toNat).map f)) → Q (.ref p) H1) : tLc (iRng1 (tCons te tNil)) (gName j) tYes tv vs σ H Q := by
  refine h _ ⟨n, rfl, by omega, by omega, fun Dl hD => ?_⟩
  refine lc_range (lo := 0) (n := n.toNat) (fun i H' => Same H H' ∧ H' Dl = some (.lst ((List.range i).map f))) ⟨Same.new hD, upd_same⟩ (fun i H' hi ⟨p1, p2⟩ => ?_) (fun H' ⟨p1, p2⟩ => q Dl H' hD p1 p2)
  have e0 : (0 : Int) + (i : Int) = (i : Int) := (Int.zero_add _)
  rw [e0]
  refine ⟨hw _, rd_yes ?_⟩
  refine ite_yes ?_
  refine he i H' (by omega) p1 _ fun H2 e2 => ⟨_, e2 _ _ p2, szl _ (by rw [List.length_map, List.length_range]; omega), ?_, ?_⟩
  · intro c o hc
    rw [upd_ne (ne_of_none hc hD)]
    exact e2 _ _ (p1 _ _ hc)
  · rw [upd_same, List.range_succ, List.map_append]
    rfl
theorem rd_lcT {vs : List Nat} (f : Nat → V) (hi : σ[i]? = some (some (.ref a))) (hx : H a = some (.tup xs)) (hz : xs.length ≤ 90000) (hw : ∀ x, wipe ((wipe σ vs).set j (some x)) vs = wipe σ vs)
    (he : ∀ (c : Nat) x H1, xs[c]? = some x → Same H H1 → ∀ Q : VK, (∀ H2, Same H1 H2 → Q (f c) H2) → tv ((wipe σ vs).set j (some x)) H1 Q)
    (q : ∀ p H1, H p = none → Same H H1 → H1 p = some (.lst ((List.range xs.length).map f)) → Q (.ref p) H1) : tLc (iTup K (tVar i)) (gName j) tYes tv vs σ H Q := by
  refine ⟨.ref a, hi, a, rfl, ⟨xs, SqT.of hx⟩, fun Dl hD => ?_⟩
  refine lc_tup (xs := xs) (fun c H' => Same H H' ∧ H' Dl = some (.lst ((List.range c).map f))) ⟨Same.new hD, upd_same⟩ (fun c H' _ ⟨p1, _⟩ => SqT.of (p1 _ _ hx)) (fun c x H' hc ⟨p1, p2⟩ => ?_) (fun H' ⟨p1, p2⟩ => q Dl H' hD p1 p2)
  have hcl := (List.getElem?_eq_some_iff.mp hc).1
  refine ⟨hw _, rd_yes ?_⟩
  refine ite_yes ?_
  refine he c x H' hc p1 _ fun H2 e2 => ⟨_, e2 _ _ p2, szl _ (by rw [List.length_map, List.length_range]; omega), ?_, ?_⟩
  · intro b o hb
    rw [upd_ne (ne_of_none hb hD)]
    exact e2 _ _ (p1 _ _ hb)
  · rw [upd_same, List.range_succ, List.map_append]
    rfl
end
end Bp

/-! enumerate(t), t a tuple, by a target of several names -/
namespace BpEnum
open PySem PyProof.Rows PySem.Spec
theorem new1 {v : Value} {ob : Obj} {Hv : Heap → Prop} (B : Begins v ob Hv) :
    Meets (Builtin.«enumerate.__new__» ⟨[.type "enumerate", v], []⟩) (fun _ R s => Hv s.heap ∧ R (.ok (.ret (.ref (s.heap.push ob).objs.size))) { s with heap := (s.heap.push ob).push { cls := .type "enumerate", data := .fields #[.none, .bool false, .ref s.heap.objs.size, rawInt 0, .none, .none] } }) :=
  .of_wp fun prog w A R s hh => by
    obtain ⟨hp, gs, dr, tk, os⟩ := s
    obtain ⟨hv, hr⟩ := hh
    have subE := sub_enumerate
    have it1 : ∀ {A1 : Around} {E : Value → Shared → Prop} {Q : Value → Shared → Prop}, Q (.ref hp.objs.size) ⟨hp.push ob, gs, dr, tk, os⟩ → wpAny (model prog w) A1 (pyIter v) Q E ⟨hp, gs, dr, tk, os⟩ := fun q => B.iter prog w _ _ ⟨hp, gs, dr, tk, os⟩ _ hv q
    wp_walk using it1
    refine wpAny_stack_any fun st1 => wpAny_pure ?_
    split
    · rename_i cl _ _ _ _ _
      cases (cl == Value.type "enumerate") <;> (wp_walk using it1; exact ⟨_, rfl, hr⟩)
    · wp_walk using it1; exact ⟨_, rfl, hr⟩
section
variable {s : Shared} {prog : Program} {w : World} {A : Around} {E : Value → Shared → Prop}
theorem called {v : Value} {ob : Obj} {Hv : Heap → Prop} {Q : Value → Shared → Prop} (B : Begins v ob Hv) (hv : Hv s.heap)
    (q : ∀ h2, IsEnum h2 (s.heap.objs.size + 1) s.heap.objs.size 0 .none → h2.get? s.heap.objs.size = some ob → (∀ b o, s.heap.get? b = some o → h2.get? b = some o) → Q (.ref (s.heap.objs.size + 1)) { s with heap := h2 }) :
    wpAny (model prog w) A (call (.type "enumerate") [v]) Q E s := by
  refine callType_new F.called_enumerate (by decide) (F.typeCall_enumerate_1 _) (F.newCall_enumerate_1 _) (fun x => F.args_object_init_2 x _) F.entry_enumerate_new (new1 B) ⟨hv, ?_⟩
  have zs : (s.heap.push ob).objs.size = s.heap.objs.size + 1 := Heap.size_push ..
  show _ ∧ _
  rw [zs]
  have en : IsEnum ((s.heap.push ob).push { cls := .type "enumerate", data := .fields #[.none, .bool false, .ref s.heap.objs.size, rawInt 0, .none, .none] }) (s.heap.objs.size + 1) s.heap.objs.size 0 .none := by
    have z := Heap.get?_push_size (s.heap.push ob) (o := { cls := .type "enumerate", data := .fields #[.none, .bool false, .ref s.heap.objs.size, rawInt 0, .none, .none] }) rfl
    rw [zs] at z; exact z
  exact ⟨⟨_, en, rfl⟩, q _ en (Heap.get?_push_of_some _ (Heap.get?_push_size _ B.free)) fun b o x => Heap.get?_push_of_some _ (Heap.get?_push_of_some _ x)⟩
end
end BpEnum
namespace Bp
open PySem PyProof.Rows L2 PySem.Spec
/-- the tuple at a, each item in a new pair with its number -/
def ItET (K : PySem.W.Frag) (a : Addr) : It where
  go := fun i H => ∃ (xs : List V) (x : V), SqT K H a xs ∧ xs[i]? = some x
  yld := fun i H v H' => ∃ tp x, v = .ref tp ∧ H tp = none ∧ H' = upd H tp (.tup [.int (i : Nat), x]) ∧ ∀ xs, SqT K H a xs → xs[i]? = some x
  stop := fun i H => ∃ xs : List V, SqT K H a xs ∧ xs.length = i
theorem turnET {P : Program} {w : World} {K : PySem.W.Frag} {elts : List Expr} {kk : Nat} {tpos : Pos} (a e it : Addr) :
    Turn P w K (.Tuple elts kk tpos) (ItET K a) [e, it] e (fun i h => (∃ old, IsEnum h e it ((i : Nat) : Int) old) ∧ h.IsTupleIter it a i ∧ e ≠ it ∧ a ≠ it ∧ a ≠ e) where
  mem := List.mem_cons_self ..
  obj := fun i h st b hb => by
    rcases st with ⟨⟨old, he⟩, ⟨o, ho, hc, hd⟩, _⟩
    rcases List.mem_cons.1 hb with z | z
    · rw [z]
      exact ⟨_, he, fun v q => (nomatch q)⟩
    · exact ⟨o, by rw [List.mem_singleton.mp z]; exact ho, fun v q => by rw [hd] at q; cases q⟩
  keep := fun i h h' ⟨⟨old, he⟩, hi, hr⟩ k => ⟨⟨old, k e (List.mem_cons_self ..) _ he⟩, hi.at fun o q => k it (List.mem_cons_of_mem _ (List.mem_singleton.mpr rfl)) o q, hr⟩
  item := by
    intro X hP hw hK hc i pins
    intro s σ H E I hf st hg
    subst hP hw hK
    obtain ⟨⟨old, he⟩, hit, ne1, ne2, ne3⟩ := st
    obtain ⟨xs, x, hq, hx⟩ := hg
    rcases I.tuple hq with ⟨its, rv, p, hz⟩
    rcases rv.get hx with ⟨u, hu, ru⟩
    have le : e < s.heap.objs.size := Heap.lt_size he
    have li : it < s.heap.objs.size := by
      obtain ⟨_, q, _⟩ := hit
      exact Heap.lt_size q
    have hilt : i < its.toArray.size := by
      have z := (List.getElem?_eq_some_iff.mp hu).1
      simpa using z
    have mem2 : ∀ {b : Addr}, b ∉ [e, it] → b ≠ e ∧ b ≠ it := fun {b} hb => ⟨fun z => hb (by rw [z]; exact List.mem_cons_self ..), fun z => hb (by rw [z]; exact List.mem_cons_of_mem _ (List.mem_singleton.mpr rfl))⟩
    refine wpAny_pyNext_enum_itemD (Draws.tuple (A := X.A.in1) (I.ok.hd hc) it a ne2 its.toArray) he ⟨hit, p⟩ hilt ne1 (fun z => by
      rcases List.mem_cons.1 z with z | z
      · exact ne1 z
      · exact ne3 (List.mem_singleton.mp z).symm) fun y h1 tk hy ho st1 hT hsz hk => ?_
    obtain rfl : y = u := by
      have z : its.toArray[i]? = some u := by simpa using hu
      rw [hy] at z
      exact Option.some.inj z
    refine ⟨_, rfl, wpAny_letOwnedTupleGo_enum (s := { s with heap := h1, toks := tk + 1 }) ho fun h2 he2 sb => ?_⟩
    have hT2 : h2.get? s.heap.objs.size = some { cls := .type "tuple", data := .seq #[.int i tk, y] } := (sb.2 _ (Nat.ne_of_gt le)).trans hT
    have new : ObjOk X.prog X.w (upd H s.heap.objs.size (.tup [.int (i : Nat), x])) h2 s.heap.objs.size (.tup [.int (i : Nat), x]) := ⟨by show 2 ≤ sizeLine; decide, [.int i tk, y], .cons ⟨_, rfl⟩ (.cons ru .nil), ⟨_, hT2, rfl, _, rfl⟩⟩
    have I1 : Inv X pins σ (upd H s.heap.objs.size (.tup [.int (i : Nat), x])) { s with heap := h2, toks := tk + 1 } :=
      I.turnedNew (ch := [e, it]) (fun b ob hb q => (sb.2 b (mem2 hb).1).trans (hk b ob (mem2 hb).1 (mem2 hb).2 q)) hf (Nat.le_refl _) new
    refine ⟨.ref s.heap.objs.size, _, I1, rfl, ⟨_, x, rfl, I.hok.fresh (Nat.le_refl _), rfl, fun ys hy2 => ?_⟩, ⟨⟨y, ?_⟩, st1.1.at fun o q => (sb.2 it (Ne.symm ne1)).trans q, ne1, ne2, ne3⟩, fun b hb => ?_⟩
    · rw [I.tuple_inj hy2 hq]
      exact hx
    · have e1 : ((i + 1 : Nat) : Int) = (i : Int) + 1 :=  by omega
      rw [e1]; exact he2
    · have lb : b < s.heap.objs.size := by
        rcases List.mem_cons.1 hb with z | z
        · rw [z]; exact le
        · rw [List.mem_singleton.mp z]; exact li
      rw [upd_ne (Nat.ne_of_lt lb)]
      exact (hf b hb).1
  done := by
    intro X hP hw hK hc i pins
    intro s σ H E I hf st hg
    subst hP hw hK
    obtain ⟨⟨old, he⟩, hit, ne1, ne2, ne3⟩ := st
    obtain ⟨xs, hq, hx⟩ := hg
    rcases I.tuple hq with ⟨its, rv, p, hz⟩
    obtain ⟨f0, f1, f2, f3, f4, f5⟩ := hf it (List.mem_cons_of_mem _ (List.mem_singleton.mpr rfl))
    have hl : i = its.toArray.size := by
      have z := rv.length
      simp
      omega
    subst hl
    exact wpAny_pyNext_enum_endD (Draws.tuple (A := X.A.in1) (I.ok.hd hc) it a ne2 its.toArray) he ⟨hit, p⟩ fun h1 eb => ⟨rfl, I.turned (t' := s.toks) (fun b o hb q => eb b o hb q) f0 f1 f3 f4 f5⟩
  self := fun A i s Q E ⟨⟨_, he⟩, _⟩ h => wpAny_pyIter_enum he h
def iEnumT (K : PySem.W.Frag) (ta : TA) : TI := fun σ H R => ta σ H fun vs H1 => ∃ a xs, vs = [.ref a] ∧ SqT K H1 a xs ∧ R (ItET K a) H1
theorem pi_enumT {X : Cx} {e : Expr} {ta : TA} {p pos tpos : Pos} {elts : List Expr} {kk : Nat} (hg : Gl X "enumerate") (hm : X.mg "enumerate" = none) (ha : PA X [e] ta) (hs : starEach [e] X.env = [(false, eval e X.env)] := by rfl) :
    PI X (.Tuple elts kk tpos) (.Call (.Name "enumerate" p) [e] [] pos) (iEnumT X.K ta) := ⟨fun pins s σ H R I h => by
  refine Call_ (ld_blt I hg hm boot_enumerate (PyProof.Rows.callWith_type1 (thn (ha.run pos pins s σ H _ I h) fun us s1 ⟨vs, H1, I1, r1, a, xs, ex, hq, q⟩ => ?_) hs rfl))
  subst ex
  cases r1 with
  | cons r rr =>
    cases rr
    cases r
    obtain ⟨its, rv, p1, hz⟩ := I1.tuple hq
    have la : a < s1.heap.objs.size := (p1.lt)
    refine BpEnum.called (begins_tuple a its.toArray) p1 fun h2 he hit hk => wpAny_pyIter_enum he ?_
    have I2 : Inv X pins σ H1 { s1 with heap := h2 } := I1.kept (t' := s1.toks) hk
    refine ⟨s1.heap.objs.size + 1, [s1.heap.objs.size + 1, s1.heap.objs.size], _, _, H1, rfl, I2, turnET a (s1.heap.objs.size + 1) s1.heap.objs.size, ⟨⟨.none, he⟩, ⟨_, hit, rfl, rfl⟩, Nat.succ_ne_self _, Nat.ne_of_lt la, Nat.ne_of_lt (Nat.lt_succ_of_lt la)⟩, fun b hb => ?_, q⟩
    have hle : s1.heap.objs.size ≤ b :=  by
      rcases List.mem_cons.1 hb with z | z
      · rw [z]; exact Nat.le_succ _
      · rw [List.mem_singleton.mp z]; exact Nat.le_refl _
    exact I1.fpOk hle (I1.hok.fresh hle)⟩
theorem walk_enumT {K : PySem.W.Frag} {a : Addr} {xs : List V} : Walk (ItET K a) xs.length (fun H => SqT K H a xs) (YPair (fun i => some (.int (i : Nat))) (fun i => xs[i]?)) := by
  refine ⟨fun i _ hi q => ⟨xs, xs[i], q, by simp [hi]⟩, fun _ q => ⟨xs, q, rfl⟩, fun i H v H' _ q y => ?_⟩
  obtain ⟨tp, x, h1, h2, h3, h4⟩ := y
  exact ⟨tp, .int (i : Nat), x, h1, h2, h3, rfl, h4 xs q⟩
end Bp

/-! NoPaper: its class, its making -/
namespace Bp
open PySem PyProof.Rows L2 PySem.Spec
abbrev aNP (K : PySem.W.Frag) : Addr := He.ga K "NoPaper"
abbrev aPE (K : PySem.W.Frag) : Addr := He.ga K "PlanError"
abbrev aIn (K : PySem.W.Frag) : Addr := He.ma K (aNP K) "__init__"
structure NpTxt (K : PySem.W.Frag) (mg : Str → Option Value) : Prop where
  oex : OexC K (aNP K)
  gl : mg "NoPaper" = some (.ref (aNP K))
  ini : PySem.W.findIn K (.ref (aNP K)) "__init__" = some (some (.ref (aIn K)))
  ity : PySem.W.typeIn K (.ref (aIn K)) = some (.type "function")
  nw : PySem.W.findIn K (.ref (aNP K)) "word" = some none
  na : PySem.W.findIn K (.ref (aNP K)) "at" = some none
  te : PySem.W.exmOne K (.ref (aNP K)) (.ref (aNP K)) = some true
  pgl : mg "PlanError" = some (.ref (aPE K))
  prd : PySem.W.readsIn K (aPE K) (.type "type") = true
  pga : PySem.W.specialIn K (.ref (aPE K)) "__getattribute__" = some (some (.builtin "type.__getattribute__"))
  pin : PySem.W.findCls K (.ref (aPE K)) (.type "type") "__init__" = some (.val (.builtin "ValueError.__init__"))
  pkp : PySem.W.keepIn K (.ref (aPE K)) = true
theorem oexB_ok {K : PySem.W.Frag} {C : Addr} (h : oexB K C = true) :
    ∃ nm q N bs bm sn sub ab col dd k0 k1 k2 k3 k5, K.lookup C = some (excClassObj nm q C N bs bm true sn sub ab col dd k0 k1 k2 k3 k5 "ValueError.__new__") ∧ PySem.HandSPX.refsVE bm = true := by
  unfold oexB at h
  split at h
  · rename_i dd cd sl ho
    split at h
    · rename_i D bm k0 k1 k2 k3 n k5 hm hs
      simp only [Bool.and_eq_true, decide_eq_true_eq, Bool.not_eq_true'] at h
      obtain ⟨rfl, rfl, hdel, hdict, hr⟩ := h
      rcases cd with ⟨nm, bs, mro, ns, qn, hd, sn, sub, ab, col, del⟩
      dsimp only at hm hdel hdict
      subst hm hdel hdict
      have e : sl = #[k0, k1, k2, k3, some (.builtin "ValueError.__new__"), k5] := by
        obtain ⟨l⟩ := sl
        simp only at hs
        rw [hs]
      subst e
      exact ⟨nm, qn, ns, bs, bm, sn, sub, ab, col, dd, k0, k1, k2, k3, k5, ho, hr⟩
    · cases h
  · cases h
theorem Txt.np {K : PySem.W.Frag} {mg : Str → Option Value} (T : Txt K mg) : NpTxt K mg := by
  have h := T.says.both.2.1
  unfold excB at h
  obtain ⟨h1, h⟩ := He.ba h
  obtain ⟨h2, h⟩ := He.ba h
  obtain ⟨h3, h⟩ := He.ba h
  obtain ⟨h4, h⟩ := He.ba h
  obtain ⟨h5, h⟩ := He.ba h
  obtain ⟨h6, h⟩ := He.ba h
  obtain ⟨h7, h⟩ := He.ba h
  obtain ⟨h8, h9⟩ := He.ba h
  have kn : PySem.W.keepIn K (.ref (aNP K)) = true := He.keep_ok (T.says.fact (f := .keep "NoPaper") (in_fa 54 rfl))
  have kp : PySem.W.keepIn K (.ref (aPE K)) = true := He.keep_ok (T.says.fact (f := .keep "PlanError") (in_fa 53 rfl))
  refine ⟨⟨oexB_ok h1, of_decide_eq_true h2, of_decide_eq_true h3, of_decide_eq_true h4, kn⟩, T.glo _ (in_fa 37 rfl), of_decide_eq_true h5, of_decide_eq_true h6, He.noat_ok (T.says.fact (f := .noat "NoPaper" "word") (in_fa 55 rfl)), He.noat_ok (T.says.fact (f := .noat "NoPaper" "at") (in_fa 56 rfl)),
    He.exm_ok (T.says.fact (f := .exm "NoPaper" "NoPaper" true) (in_fa 57 rfl)), T.glo _ (in_fa 36 rfl), h7, of_decide_eq_true h8, ?_, kp⟩
  split at h9
  · rename_i n hn
    rw [hn, of_decide_eq_true h9]
  · cases h9
section
variable {X : Cx} {e : Expr} {es : List Expr} {ta : TA} {p1 p2 pos p : Pos}
/-- PlanError.__init__(self, ..) is ValueError's -/
theorem pe_plinit {pl : Sem Bool} (T : NpTxt X.K X.mg) (ha : PA X (e :: es) ta) (hg : Gl X "PlanError" := by rfl)
    (hc : eval (.Call (.Attribute (.Name "PlanError" p1) "__init__" p2) (e :: es) [] pos) X.env = (do
      let v ← eval (.Name "PlanError" p1) X.env
      standAt p2.atName
      let (f, as) ← holding [v] (getMethod v "__init__" pl)
      callWith pos f as (backTo pos (starEach (e :: es) X.env)) (backToKw pos (keywordEach [] X.env))) := by rfl)
    (hst : starEach (e :: es) X.env = (false, eval e X.env) :: starEach es X.env := by rfl) (hpl : (backTo pos (starEach es X.env)).any (·.1) = false := by rfl) :
    PE X (.Call (.Attribute (.Name "PlanError" p1) "__init__" p2) (e :: es) [] pos) (tVeI X.K ta) := ⟨fun pins s σ H Q I h => by
  refine PySem.W.methodCall_KW (ld_glob I hg T.pgl ?_ (by decide)) hc
  refine PySem.W.method_cls I.kIn T.pga (PySem.W.cls_value I.kIn T.prd T.pin (by decide +kernel) ?_)
  show wpAny _ _ (callWith pos (.builtin "ValueError.__init__") [] (backTo pos (starEach (e :: es) X.env)) []) _ _ _
  refine PyProof.Rows.callWith_method1 (thn (ha.run pos pins _ σ H _ (I.tok _) h) fun us s1 ⟨vs, H1, I1, r1, a, C, ws, ev, hl, TC, ea, q⟩ => ?_) hst hpl
  subst ev
  cases r1 with
  | @cons _ u0 _ ur ra rw' =>
    have same0 : u0 = Value.ref a := ra
    subst same0
    have hz : ur.length ≤ sizeLine := by
      rw [← Paired.length rw']
      exact sz _ (by omega)
    exact oinit_ok TC I1 ea hz fun s2 J => ⟨.non, H1, J, rfl, q⟩⟩
end
/-! ### the def of __init__ -/
abbrev sIn : Stmt := inClass (top 12) 0
abbrev N_init : List Str := ["self", "word", "at"]
theorem sc_init : FnScope N_init ["self", "word", "at"] (defScope sIn) := ⟨rfl, rfl, rfl, by decide +kernel, rfl, by decide +kernel, by decide +kernel⟩
abbrev rAddS : R2 := fun x y H Q => ∃ a b, x = .str a ∧ y = .str b ∧ a.length + b.length ≤ sizeLine ∧ Q (.str (a ++ b)) H
abbrev rStrS : List V → Hp → VK → Prop := fun as H Q => ∃ z, as = [.str z] ∧ Q (.str z) H
abbrev rStrI : List V → Hp → VK → Prop := fun as H Q => ∃ j, as = [.int j] ∧ j.natAbs.log2 < 1920 ∧ Q (.str (toString j)) H
def t_init (K : PySem.W.Frag) : TS :=
  tSeq (tDrop (tVeI K (tCons (tVar 0) (tCons (tOp rAddS (tOp rAddS (tOp rAddS (tC (.str "no paper: ")) (tCB rStrS (tCons (tVar 1) tNil))) (tC (.str " "))) (tCB rStrI (tCons (tVar 2) tNil))) tNil))))
  (tSeq (tOst K "word" (tVar 0) (tVar 1)) (tOst K "at" (tVar 0) (tVar 2)))
/-- the making of NoPaper(word, at) -/
def spInit (K : PySem.W.Frag) : Sp := fun vs H Q _ => ∃ (a : Addr) (z : Str) (n : Int), vs = [.ref a, .str z, .int n] ∧ z.length ≤ 100 ∧ n.natAbs.log2 < 1920 ∧ (toString n : Str).length ≤ 1000 ∧ H a = some (exo a (aNP K) none) ∧
  ∀ d, H d = none → d ≠ a → Q .non (upd (upd (upd H d (exd d [("word", .str z)])) a (exo a (aNP K) (some d))) d (exd d [("at", .int n), ("word", .str z)]))
theorem len_app (a b : Str) : (a ++ b).length = a.length + b.length := by
  show (a ++ b).cps.size = a.cps.size + b.cps.size
  exact Array.size_append ..
theorem pure_init {K : PySem.W.Frag} {mg : Str → Option Value} (T : NpTxt K mg) (vs : List V) (H : Hp) (Q : VK) (E : XK) (h : spInit K vs H Q E) : t_init K { nx := fun _ H' => Q .non H', rt := Q } (start N_init vs) H := by
  obtain ⟨a, z, n, rfl, hz, hn, hl, ha, hQ⟩ := h
  refine ⟨_, rfl, _, rfl, _, rfl, _, _, rfl, rfl, ?_⟩
  have l0 : ("no paper: " : Str).length = 10 := by decide +kernel
  have l1 : (" " : Str).length = 1 := by decide +kernel
  refine ⟨sz _ (by omega), ?_⟩
  refine ⟨_, _, rfl, rfl, sz _ (by rw [len_app]; omega), ?_⟩
  refine ⟨_, rfl, n, rfl, hn, ?_⟩
  refine ⟨_, _, rfl, rfl, sz _ (by rw [len_app, len_app]; omega), ?_⟩
  refine ⟨a, aNP K, _, rfl, by simp, T.oex, ha, ?_⟩
  refine ⟨_, rfl, _, rfl, a, aNP K, rfl, T.oex, T.nw, .inl ⟨ha, fun d hd hda => ?_⟩⟩
  refine ⟨_, rfl, _, rfl, a, aNP K, rfl, T.oex, T.na, .inr ⟨d, [("word", .str z)], upd_same, ?_, by simp, hQ d hd hda⟩⟩
  rw [upd_ne hda, upd_same]
theorem ok_init {P : Program} {w : World} {K : PySem.W.Frag} {mg : Str → Option Value} {base : Heap} (T : Txt K mg) : ∃ fd, FnOk P w K mg base CX0 1 (aIn K) fd ["self", "word", "at"] (spInit K) ∧ Binds K fd ["self", "word", "at"] [] := by
  obtain ⟨fd, F⟩ := T.says.def_ (d := ddInit) (List.mem_of_getElem? (i := 0) rfl)
  refine ⟨fd, F.ok sc_init (fun vs H Q E h => ?_) (fun cdv A outer s H vs Q E hr h => ⟨t_init K, PSs.nox ?_, pure_init T.np vs H Q E h⟩), F.bindsN fun _ _ _ _ _ _ us hl => match us, hl with | [_, _, _], _ => rfl⟩
  · rcases h with ⟨a, z, n, rfl, _⟩
    rfl
  · have TN := T.np
    exact pss_cons (ps_expr (pe_plinit TN (pa_cons (pv 0) (pa_cons (pe_op op_add_str (pe_op op_add_str (pe_op op_add_str pe_str (pe_callTy SkE.call_str_str (by rfl) T.str (by decide +kernel) (pa_cons (pv 1) pa_nil))) pe_str) (pe_callTy call_str_int (by rfl) T.str (by decide +kernel) (pa_cons (pv 2) pa_nil))) pa_nil))))
      (pss_cons (ps_ost (pv 0) (pv 1)) (pss_one (ps_ost (pv 0) (pv 2))))
/-! ### raise NoPaper(word, at) -/
def tMkNP (K : PySem.W.Frag) (ta : TA) : L2.St → Hp → XK → Prop := tMkO (aNP K) (spInit K) [] ta
def tRaiseNP (K : PySem.W.Frag) (E : XK) (ta : TA) : TS := fun _ σ H => tMkNP K ta σ H fun cls d H' => E cls d H'
theorem pmk_np {X : Cx} {e : Expr} {es : List Expr} {ta : TA} {p pos : Pos} {k : Nat} (T : Txt X.K X.mg) (hr : Room k X.A) (hk : 2 ≤ k) (ha : PA X (e :: es) ta) (hg : Gl X "NoPaper" := by rfl)
    (he : (starEach (e :: es) X.env) = (false, eval e X.env) :: starEach es X.env := by rfl) (hpl : (backTo pos (starEach es X.env)).any (·.1) = false := by rfl) :
    PMk X (.Call (.Name "NoPaper" p) (e :: es) [] pos) (tMkNP X.K ta) := by
  obtain ⟨fd, F, b⟩ := ok_init (P := X.prog) (w := X.w) (base := X.base) T
  exact pmk_oex T.np.oex T.np.ini T.np.ity F (hr.mono hk) b .nil pass0 hg T.np.gl ha (by decide) he hpl
/-- what a raise leaves: all that stood stands; the error is of NoPaper -/
theorem rd_raise {K : PySem.W.Frag} {E : XK} {ta : TA} {D : Ends} {σ : L2.St} {H : Hp} (h : ta σ H fun vs H1 => ∃ (z : Str) (n : Int), vs = [.str z, .int n] ∧ z.length ≤ 100 ∧ n.natAbs.log2 < 1920 ∧ (toString n : Str).length ≤ 1000 ∧ ∀ d H2, Same H1 H2 → E (.ref (aNP K)) (some d) H2)
    (mono : ∀ H (Q Q' : List V → Hp → Prop), (∀ v H1, Q v H1 → Q' v H1) → ta σ H Q → ta σ H Q') : tRaiseNP K E ta D σ H := by
  refine mono H _ _ (fun vs H1 ⟨z, n, ev, hz, hn, hl, hE⟩ => ?_) h
  subst ev
  refine ⟨by show 2 ≤ 1000; decide, fun a ha => ⟨a, z, n, rfl, hz, hn, hl, upd_same, fun d hd hda => ⟨rfl, d, _, ?_, upd_same, ?_, hE d _ ?_⟩⟩⟩
  · rw [upd_ne hda.symm, upd_same]
  · rw [upd_ne hda] at hd
    exact hd
  · intro b o q
    have hd0 : H1 d = none := by
      rw [upd_ne hda] at hd
      exact hd
    have nd : b ≠ d := ne_of_none q hd0
    have na : b ≠ a := ne_of_none q ha
    rw [upd_ne nd, del_ne na, upd_ne nd, upd_ne na, upd_ne nd, upd_ne na]
    exact q
end Bp

/-! sum(t) of a tuple; min(xs, default=None); repr of data -/
namespace Bp
open PySem PyProof.Rows L2 PySem.Spec
section
variable {X : Cx}
theorem presum_take {ns : List Int} : ∀ j, PySem.preSum (fun i => ns.getD i 0) j = (ns.take j).sum
  | 0 => by simp [PySem.preSum]
  | j + 1 => by
    rw [PySem.preSum, presum_take j]
    by_cases h : j < ns.length
    · have e : ns.take (j + 1) = ns.take j ++ [ns[j]] := by
        rw [List.take_succ, List.getElem?_eq_getElem h]
        rfl
      rw [e, List.sum_append, List.getD_eq_getElem?_getD, List.getElem?_eq_getElem h]
      simp
    · rw [List.take_of_length_le (by omega), List.take_of_length_le (by omega), List.getD_eq_getElem?_getD, List.getElem?_eq_none (by omega)]
      simp
def rSumT (K : PySem.W.Frag) : List V → Hp → VK → Prop := fun as H Q => ∃ (a : Addr) (ns : List Int), as = [.ref a] ∧ SqT K H a (ns.map V.int) ∧ Q (.int ns.sum) H
theorem cr_sumT (hcalm : X.calm = true) : CallR X (.builtin "sum") (rSumT X.K) := by
  intro pins s σ H xs
  intro us Q I r h
  obtain ⟨a, ns, rfl, hq, q⟩ := h
  cases r with
  | cons r rr =>
    cases rr
    cases r
    obtain ⟨its, rv, pt, hz⟩ := I.tuple hq
    have hla : a < s.heap.objs.size := pt.lt
    have hh := I.ok.hd hcalm
    have ht : s.heap.IsTuple a its.toArray := pt
    refine call_sum_walkG (wpAny_pyIter_tuple ht ?_)
    refine ⟨s.heap.objs.size, _, _, _, _, _, fun i => ns.getD i 0, rfl, Walks.tuple (A := X.A.in1) hh s.heap.objs.size a (Nat.ne_of_lt hla) its.toArray, ⟨⟨_, Heap.get?_push_size _ rfl, rfl, rfl⟩, ht.at fun o e => Heap.get?_push_of_some _ e⟩, fun b hb => ?_, fun i v hv => ?_, fun h2 tk t2 hk => ?_⟩
    · have hzz : (s.heap.push { cls := .type "tuple_iterator", data := .fields #[.ref a, .int 0 0] }).objs.size = s.heap.objs.size + 1 := Heap.size_push ..
      show b < (s.heap.push { cls := .type "tuple_iterator", data := .fields #[.ref a, .int 0 0] }).objs.size
      rw [hzz]
      rcases List.mem_cons.1 hb with z | z
      · rw [z]; exact Nat.lt_succ_self _
      · rw [List.mem_singleton.mp z]; exact Nat.lt_succ_of_lt hla
    · have hv2 : its[i]? = some v := by simpa using hv
      have hil : i < ns.length := by
        have z := (List.getElem?_eq_some_iff.mp hv2).1
        have z2 := rv.length
        rw [List.length_map] at z2
        omega
      obtain ⟨u, hu, ru⟩ := rv.get (i := i) (x := .int (ns[i])) (by rw [List.getElem?_map, List.getElem?_eq_getElem hil]; rfl)
      rw [hv2] at hu
      cases hu
      obtain ⟨t, rfl⟩ := ru
      refine ⟨t, ?_⟩
      show Value.int (ns[i]) t = Value.int (ns.getD i 0) t
      rw [List.getD_eq_getElem?_getD, List.getElem?_eq_getElem hil]
      rfl
    · have e1 : PySem.preSum (fun i => ns.getD i 0) its.toArray.size = ns.sum := by
        have z2 := rv.length
        rw [List.length_map] at z2
        rw [presum_take, List.size_toArray, ← z2, List.take_length]
      rw [e1]
      have J : Inv X pins σ H { s with heap := h2, toks := tk } := I.kept (t' := tk) fun b o e => hk b o (fun z => by
        rw [List.mem_singleton.mp z] at e
        exact absurd (Heap.lt_size e) (Nat.lt_irrefl _)) (Heap.get?_push_of_some _ e)
      exact ⟨.int ns.sum, H, J, ⟨t2, rfl⟩, q⟩
/-- min(xs, default=None), whole numbers -/
def rMinD (K : PySem.W.Frag) : List V → List V → Hp → VK → Prop := fun as ws H Q => ∃ (a : Addr) (ns : List Int), as = [.ref a] ∧ ws = [.non] ∧ SqL K H a (ns.map V.int) ∧ (ns = [] → Q .non H) ∧ ∀ m, m ∈ ns → (∀ y ∈ ns, m ≤ y) → Q (.int m) H
theorem minOf_int : ∀ (xs : List Int) (x : Int), PySem.W.minOf x xs ∈ x :: xs ∧ ∀ y ∈ x :: xs, PySem.W.minOf x xs ≤ y
  | [], x => ⟨List.mem_singleton.mpr rfl, fun y hy => by rw [List.mem_singleton.mp hy]; exact Int.le_refl _⟩
  | z :: xs, x => by
    have e : PySem.W.minOf x (z :: xs) = PySem.W.minOf (if decide (z < x) = true then z else x) xs := rfl
    obtain ⟨h1, h2⟩ := minOf_int xs (if decide (z < x) = true then z else x)
    rw [e]
    by_cases c : z < x
    · rw [if_pos (decide_eq_true c)] at h1 h2 ⊢
      refine ⟨List.mem_cons_of_mem _ h1, fun y hy => ?_⟩
      have hz := h2 z List.mem_cons_self
      rcases List.mem_cons.1 hy with rfl | hy
      · omega
      · exact h2 y hy
    · rw [if_neg (fun q => c (of_decide_eq_true q))] at h1 h2 ⊢
      have hx := h2 x List.mem_cons_self
      refine ⟨?_, fun y hy => ?_⟩
      · rcases List.mem_cons.mp h1 with h | h
        · rw [h]; exact (List.mem_cons_self)
        · exact List.mem_cons_of_mem _ (List.mem_cons_of_mem _ h)
      · rcases List.mem_cons.1 hy with rfl | hy
        · exact hx
        · rcases List.mem_cons.1 hy with rfl | hy
          · omega
          · exact h2 y (List.mem_cons_of_mem _ hy)
theorem holds_ints {h : Heap} : ∀ {ns : List Int} {us : List Value}, Vals (ns.map V.int) us → PySem.W.HoldAll h us ns
  | [], _, r => by
    cases r
    exact PySem.W.HoldAll.nil
  | n :: ns, _, r => by
    cases r with
    | cons r1 r2 =>
      obtain ⟨t, rfl⟩ := r1
      exact PySem.W.HoldAll.cons ⟨_, Reads.int n t⟩ (holds_ints r2)
theorem call_minD (hcalm : X.calm = true) (hu : X.A.units + 200 < cLine) : CallRK X (.builtin "min") ["default"] (rMinD X.K) := by
  intro pins s σ H xs zs us ws Q I r1 r2 h
  obtain ⟨a, ns, rfl, rfl, hq, q0, q1⟩ := h
  cases r1 with
  | cons ra rb =>
    cases rb
    cases ra
    cases r2 with
    | cons rc rd =>
      cases rd
      obtain rfl := (show _ = Value.none from rc)
      rcases I.list hq with ⟨its, rv, pl, hz⟩
      have hd : PySem.W.Datum.depth Int ≤ 10 := by decide
      refine PySem.W.min_list_datum_default (α := Int) (I.ok.hd hcalm) pl.isList (by simpa using holds_ints rv) (by omega) (fun e h2 tk hk => ?_) (fun y ys i v h2 tk e hi hv hk => ?_)
      · exact ⟨.non, H, I.kept (t' := tk) hk, rfl, q0 e⟩
      · obtain ⟨as, hr⟩ := hv
        have J : Inv X pins σ H { s with heap := h2, toks := tk } := I.kept (t' := tk) hk
        obtain ⟨m1, m2⟩ := minOf_int ys y
        rw [← e] at m1 m2
        have hr2 : Reads h2 v (.int (PySem.W.minOf y ys)) as := hr
        cases hr2 with
        | int _ t => exact ⟨.int (PySem.W.minOf y ys), H, J, ⟨t, rfl⟩, q1 _ m1 m2⟩
theorem hu200 {k : Nat} {A : Around} (hr : Room k A) : A.units + 200 < cLine := by
  have := hr.un
  omega
/-- repr of data -/
def rRepr (K : PySem.W.Frag) : List V → Hp → VK → Prop := fun as H Q => ∃ (a : Addr) (d : PyData), as = [.ref a] ∧ Dp K H (.ref a) d ∧ d.showable = true ∧ d.hasDict = false ∧ d.depth ≤ 64 ∧ d.shown.length ≤ sizeLine ∧ Q (.str d.shown) H
theorem cr_repr (hg : X.A.guards = some []) (hu : X.A.units + 200 < cLine) : CallR X (.builtin "repr") (rRepr X.K) := by
  intro pins s σ H xs
  intro us Q I r h
  obtain ⟨a, d, rfl, hd, hs, hnd, hdp, hsz, q⟩ := h
  cases r with
  | cons ra rb =>
    cases rb
    cases ra
    obtain ⟨as, rr⟩ := Dp.reads I d _ _ hd rfl
    refine repr_of_reads' rr hs (fun z => by rw [hnd] at z; cases z) hg (by omega) (fun b o e => e) (fun h2 u tk hk => ?_) hsz
    exact ⟨.str d.shown, H, I.kept (t' := tk) hk, ⟨u, rfl⟩, q⟩
end
end Bp

namespace Bp
open PySem PyProof.Rows L2 PySem.Spec
local macro_rules | `(tactic| walk_at "side") => `(tactic| first | assumption | omega | decide)
local macro_rules | `(tactic| walk_at "carry") => `(tactic| first | assumption | (refine Same.get (by assumption) ?_; walk_at "carry"))
local macro_rules | `(tactic| walk_at "tst") => `(tactic| first | exact Same.ts (by assumption) | exact SameX.ts1 (by assumption) (by assumption) (by intro _ z; cases z))
local macro_rules | `(tactic| walk_at "dat") => `(tactic| first | assumption | (with_reducible refine PlanA.mono (by walk_at "tst") ?_; walk_at "dat") | (with_reducible refine BeatsA.mono (by walk_at "tst") ?_; walk_at "dat") | (with_reducible refine WaitA.mono (by walk_at "tst") ?_; walk_at "dat") | (with_reducible refine GivenA.mono (by walk_at "tst") ?_; walk_at "dat") | (with_reducible refine TableA.mono (by walk_at "tst") ?_; walk_at "dat"))
local macro_rules | `(tactic| walk_at "at") => `(tactic| first | exact rfl | assumption | exact at_beat (by assumption) | exact at_tab (by assumption) | exact at_map (by assumption))
local macro_rules | `(tactic| walk_at "go1") => `(tactic| first
  | with_reducible refine rd_seq ?_
  | with_reducible refine rd_asg ?_
  | with_reducible refine rd_ret ?_
  | with_reducible refine rd_drop ?_
  | ((with_reducible refine' rd_var ?x1 ?x2); (case x1 => exact rfl))
  | with_reducible refine rd_c ?_
  | with_reducible refine rd_op ?_
  | with_reducible refine rd_un ?_
  | with_reducible refine rd_name ?_
  | with_reducible refine rd_I0 ?_
  | with_reducible refine rd_gcons ?_
  | with_reducible refine rd_gnil ?_
  | with_reducible refine rd_test ?_
  | with_reducible refine rd_B ?_
  | with_reducible refine rd_bl ?_
  | with_reducible refine rd_anil ?_
  | with_reducible refine rd_acons ?_
  | with_reducible refine rd_tup ?_
  | with_reducible refine rd_lst ?_
  | with_reducible refine rd_sdput ?_
  | with_reducible refine rd_call1 ?_
  | with_reducible refine rd_cb ?_
  | with_reducible refine rd_ifS ?_
  | with_reducible refine rd_next ?_
  | ((with_reducible refine' rd_I ?x1 ?x2); (case x1 => walk_at "side"))
  | ((with_reducible refine' rd_ixT ?x1 ?x2 ?x3); (case x1 => walk_at "carry"); (case x2 => walk_at "at"))
  | ((with_reducible refine' rd_lenT ?x1 ?x2); (case x1 => walk_at "carry"))
  | ((with_reducible refine' rd_lenL ?x1 ?x2); (case x1 => walk_at "carry"))
  | with_reducible refine rd_max2 ?_
  | with_reducible refine rd_isiI ?_
  | with_reducible refine rd_isiB ?_
  | ((with_reducible refine' rd_isiT ?x1 ?x2); (case x1 => walk_at "carry"))
  | with_reducible refine ite_yes ?_
  | with_reducible refine ite_no ?_
  | with_reducible refine ite_nf ?_
  | with_reducible refine ite_nt ?_
  | with_reducible refine rd_andV ?_
  | with_reducible refine rd_orV ?_
  | with_reducible refine rd_notV ?_
  | with_reducible refine rd_and ?_
  | with_reducible refine rd_or ?_
  | with_reducible refine rd_not ?_
  | with_reducible refine rd_eq rfl ?_
  | with_reducible refine rd_ne rfl ?_
  | ((with_reducible refine' rd_gtup ?x1 ?x2 ?x3); (case x1 => walk_at "carry"); (case x2 => exact rfl)))
local macro_rules | `(tactic| walk_at "go") => `(tactic| repeat walk_at "go1")
section
variable {K : PySem.W.Frag} {P : Program} {w : World} {mg : Str → Option Value} {base : Heap}
/-! ### length_of -/
def sp_length_of : Sp := fun vs H Q _ => ∃ (I : Inst) (pa ba : Addr) (s : Nat), vs = [.ref pa, .int I.cycle, .ref ba, .int (s : Nat)] ∧ I.Ok ∧ PlanA H I pa ∧ BeatsA H I ba ∧ s < I.spans.length ∧ Q (.int (I.len s)) H
abbrev N_length_of : List Str := ["plan", "cycle", "beats", "s", "word", "one", "other", "low", "high"]
theorem sc_length_of : FnScope N_length_of ["plan", "cycle", "beats", "s"] (defScope (top 1)) := ⟨rfl, rfl, rfl, by decide +kernel, rfl, by decide +kernel, by decide +kernel⟩
def t_length_of (K : PySem.W.Frag) : TS :=
  (tSeq (tAsg (tOp (rIxT K) (tOp (rIxT K) (tVar 0) (tC (.int 1))) (tVar 3)) (gTup K 5 (gCons (gName 4) (gCons (gName 5) (gCons (gName 6) (gCons (gName 7) (gCons (gName 8) gNil)))))))
  (tRet (tOp rAddI (tVar 7) (tOp rModI (tOp rSubI (tOp rSubI (tOp (rIxT K) (tVar 2) (tVar 6)) (tOp (rIxT K) (tVar 2) (tVar 5))) (tVar 7)) (tVar 1)))))
theorem pure_length_of (vs : List V) (H : Hp) (Q : VK) (E : XK) (h : sp_length_of vs H Q E) : t_length_of K { nx := fun _ H' => Q .non H', rt := Q } (start N_length_of vs) H := by
  obtain ⟨I, pa, ba, s, rfl, ok, hP, hB, hs, hQ⟩ := h
  obtain ⟨b, c, as, q, h1, h2, h3, h4⟩ := hP.span hs
  have ho := ok.so s hs
  have ht := ok.st s hs
  have hc := ok.c0
  have hB' : H ba = some (.tup (I.beats.map V.int)) := hB
  unfold t_length_of
  walk_at "go"
  exact hQ
theorem ok_length_of (T : Txt K mg) : Cal P w K mg base CX0 "length_of" 1 ["plan", "cycle", "beats", "s"] sp_length_of := by
  refine Cal.of (i := 1) T (List.mem_of_getElem? (i := 1) rfl) (in_fa 0 rfl) sc_length_of (fun vs H Q E h => ?_) (fun _ _ _ _ _ _ us hl => match us, hl with | [_, _, _, _], _ => rfl) (fun cdv A outer s H vs Q E hr h => ⟨t_length_of K, PSs.nox ?_, pure_length_of vs H Q E h⟩)
  · obtain ⟨I, pa, ba, s, rfl, _⟩ := h
    rfl
  · exact (pss_cons (ps_asg (pe_ix ix_tup (pe_ix ix_tup (pv 0) pe_int (fun _ _ => rfl)) (pv 3) (fun _ _ => rfl)) (pg_tup rfl (pgs_cons (pg_name (i := 4) sc_length_of.nd rfl (by first | exact Or.inl rfl | exact Or.inr rfl)) (pgs_cons (pg_name (i := 5) sc_length_of.nd rfl (by first | exact Or.inl rfl | exact Or.inr rfl)) (pgs_cons (pg_name (i := 6) sc_length_of.nd rfl (by first | exact Or.inl rfl | exact Or.inr rfl)) (pgs_cons (pg_name (i := 7) sc_length_of.nd rfl (by first | exact Or.inl rfl | exact Or.inr rfl)) (pgs_cons (pg_name (i := 8) sc_length_of.nd rfl (by first | exact Or.inl rfl | exact Or.inr rfl)) pgs_nil)))))))
  (pss_one (ps_ret (pe_op op_add (pv 7) (pe_op op_mod (pe_op op_sub (pe_op op_sub (pe_ix ix_tup (pv 2) (pv 6) (fun _ _ => rfl)) (pe_ix ix_tup (pv 2) (pv 5) (fun _ _ => rfl))) (pv 7)) (pv 1))))))
end
end Bp

namespace Bp
open PySem PyProof.Rows L2 PySem.Spec
local macro_rules | `(tactic| walk_at "side") => `(tactic| first | assumption | omega | decide)
local macro_rules | `(tactic| walk_at "carry") => `(tactic| first | assumption | (refine Same.get (by assumption) ?_; walk_at "carry"))
local macro_rules | `(tactic| walk_at "tst") => `(tactic| first | exact Same.ts (by assumption) | exact SameX.ts1 (by assumption) (by assumption) (by intro _ z; cases z))
local macro_rules | `(tactic| walk_at "dat") => `(tactic| first | assumption | (with_reducible refine PlanA.mono (by walk_at "tst") ?_; walk_at "dat") | (with_reducible refine BeatsA.mono (by walk_at "tst") ?_; walk_at "dat") | (with_reducible refine WaitA.mono (by walk_at "tst") ?_; walk_at "dat") | (with_reducible refine GivenA.mono (by walk_at "tst") ?_; walk_at "dat") | (with_reducible refine TableA.mono (by walk_at "tst") ?_; walk_at "dat"))
local macro_rules | `(tactic| walk_at "at") => `(tactic| first | exact rfl | assumption | exact at_beat (by assumption) | exact at_tab (by assumption) | exact at_map (by assumption))
local macro_rules | `(tactic| walk_at "go1") => `(tactic| first
  | with_reducible refine rd_seq ?_
  | with_reducible refine rd_asg ?_
  | with_reducible refine rd_ret ?_
  | with_reducible refine rd_drop ?_
  | ((with_reducible refine' rd_var ?x1 ?x2); (case x1 => exact rfl))
  | with_reducible refine rd_c ?_
  | with_reducible refine rd_op ?_
  | with_reducible refine rd_un ?_
  | with_reducible refine rd_name ?_
  | with_reducible refine rd_I0 ?_
  | with_reducible refine rd_gcons ?_
  | with_reducible refine rd_gnil ?_
  | with_reducible refine rd_test ?_
  | with_reducible refine rd_B ?_
  | with_reducible refine rd_bl ?_
  | with_reducible refine rd_anil ?_
  | with_reducible refine rd_acons ?_
  | with_reducible refine rd_tup ?_
  | with_reducible refine rd_lst ?_
  | with_reducible refine rd_sdput ?_
  | with_reducible refine rd_call1 ?_
  | with_reducible refine rd_cb ?_
  | with_reducible refine rd_ifS ?_
  | with_reducible refine rd_next ?_
  | ((with_reducible refine' rd_I ?x1 ?x2); (case x1 => walk_at "side"))
  | ((with_reducible refine' rd_ixT ?x1 ?x2 ?x3); (case x1 => walk_at "carry"); (case x2 => walk_at "at"))
  | ((with_reducible refine' rd_lenT ?x1 ?x2); (case x1 => walk_at "carry"))
  | ((with_reducible refine' rd_lenL ?x1 ?x2); (case x1 => walk_at "carry"))
  | with_reducible refine rd_max2 ?_
  | with_reducible refine rd_isiI ?_
  | with_reducible refine rd_isiB ?_
  | ((with_reducible refine' rd_isiT ?x1 ?x2); (case x1 => walk_at "carry"))
  | with_reducible refine ite_yes ?_
  | with_reducible refine ite_no ?_
  | with_reducible refine ite_nf ?_
  | with_reducible refine ite_nt ?_
  | with_reducible refine rd_andV ?_
  | with_reducible refine rd_orV ?_
  | with_reducible refine rd_notV ?_
  | with_reducible refine rd_and ?_
  | with_reducible refine rd_or ?_
  | with_reducible refine rd_not ?_
  | with_reducible refine rd_eq rfl ?_
  | with_reducible refine rd_ne rfl ?_
  | ((with_reducible refine' rd_gtup ?x1 ?x2 ?x3); (case x1 => walk_at "carry"); (case x2 => exact rfl)))
local macro_rules | `(tactic| walk_at "go") => `(tactic| repeat walk_at "go1")
theorem get_map {α β : Type} {f : α → β} {xs : List α} {i : Nat} {y : β} (h : (xs.map f)[i]? = some y) : ∃ x, xs[i]? = some x ∧ y = f x := by
  rw [List.getElem?_map] at h
  cases e : xs[i]? with
  | none => (rw [e] at h; cases h)
  | some x => rw [e] at h; exact ⟨x, rfl, (Option.some.inj h).symm⟩
theorem take_snoc {α : Type} {xs : List α} {i : Nat} {x : α} (h : xs[i]? = some x) : xs.take (i + 1) = xs.take i ++ [x] := by
  rw [List.take_succ, h]
  rfl
section
variable {K : PySem.W.Frag} {P : Program} {w : World} {mg : Str → Option Value} {base : Heap}
theorem use_length_of {H : Hp} {Q : VK} {E : XK} {I : Inst} {pa ba : Addr} {s : Nat} (ok : I.Ok) (hP : PlanA H I pa) (hB : BeatsA H I ba) (hs : s < I.spans.length) (q : Q (.int (I.len s)) H) :
    sp_length_of [.ref pa, .int I.cycle, .ref ba, .int (s : Nat)] H Q E := ⟨I, pa, ba, s, rfl, ok, hP, hB, hs, q⟩
local macro_rules | `(tactic| walk_at "go1") => `(tactic| ((with_reducible refine' use_length_of ?x1 ?x2 ?x3 ?x4 ?x5); (case x1 => assumption); (case x2 => walk_at "dat"); (case x3 => walk_at "dat"); (case x4 => assumption)))
/-! ### buffer_of -/
def sp_buffer_of : Sp := fun vs H Q _ => ∃ (I : Inst) (pa ba : Addr) (s : Nat), vs = [.ref pa, .int I.cycle, .ref ba, .int (s : Nat)] ∧ I.Ok ∧ PlanA H I pa ∧ BeatsA H I ba ∧ s < I.spans.length ∧ Q (.int (I.buf s)) H
abbrev N_buffer_of : List Str := ["plan", "cycle", "beats", "s"]
theorem sc_buffer_of : FnScope N_buffer_of ["plan", "cycle", "beats", "s"] (defScope (top 3)) := ⟨rfl, rfl, rfl, by decide +kernel, rfl, by decide +kernel, by decide +kernel⟩
def t_buffer_of (K : PySem.W.Frag) : TS :=
  (tRet (tOp rSubI (tCall sp_length_of [] E0 (tCons (tVar 0) (tCons (tVar 1) (tCons (tVar 2) (tCons (tVar 3) tNil))))) (tOp (rIxT K) (tOp (rIxT K) (tOp (rIxT K) (tVar 0) (tC (.int 1))) (tVar 3)) (tC (.int 3)))))
theorem pure_buffer_of (vs : List V) (H : Hp) (Q : VK) (E : XK) (h : sp_buffer_of vs H Q E) : t_buffer_of K { nx := fun _ H' => Q .non H', rt := Q } (start N_buffer_of vs) H := by
  obtain ⟨I, pa, ba, s, rfl, ok, hP, hB, hs, hQ⟩ := h
  obtain ⟨b, c, as, q, h1, h2, h3, h4⟩ := hP.span hs
  unfold t_buffer_of
  walk_at "go"
  have e : I.len s - (I.sp s).low = I.buf s := by unfold Inst.len; omega
  show Q (.int (I.len s - (I.sp s).low)) H
  rw [e]
  exact hQ
theorem ok_buffer_of (T : Txt K mg) : Cal P w K mg base CX0 "buffer_of" 2 ["plan", "cycle", "beats", "s"] sp_buffer_of := by
  have C_length_of := ok_length_of (P := P) (w := w) (base := base) T
  refine Cal.of (i := 3) T (List.mem_of_getElem? (i := 2) rfl) (in_fa 1 rfl) sc_buffer_of (fun vs H Q E h => ?_) (fun _ _ _ _ _ _ us hl => match us, hl with | [_, _, _, _], _ => rfl) (fun cdv A outer s H vs Q E hr h => ⟨t_buffer_of K, PSs.nox ?_, pure_buffer_of vs H Q E h⟩)
  · obtain ⟨I, pa, ba, s, rfl, _⟩ := h
    rfl
  · exact (pss_one (ps_ret (pe_op op_sub (pe_cal C_length_of (hr.mono (by decide)) pass0 (pa_cons (pv 0) (pa_cons (pv 1) (pa_cons (pv 2) (pa_cons (pv 3) pa_nil))))) (pe_ix ix_tup (pe_ix ix_tup (pe_ix ix_tup (pv 0) pe_int (fun _ _ => rfl)) (pv 3) (fun _ _ => rfl)) pe_int (fun _ _ => rfl)))))
/-! ### step_of -/
def sp_step_of : Sp := fun vs H Q _ => ∃ (I : Inst) (pa ba : Addr) (s : Nat), vs = [.ref pa, .int I.cycle, .ref ba, .int (s : Nat)] ∧ I.Ok ∧ PlanA H I pa ∧ BeatsA H I ba ∧ s < I.spans.length ∧ Q (.int (I.step s : Nat)) H
abbrev N_step_of : List Str := ["plan", "cycle", "beats", "s", "word", "one", "other", "low", "high"]
theorem sc_step_of : FnScope N_step_of ["plan", "cycle", "beats", "s"] (defScope (top 4)) := ⟨rfl, rfl, rfl, by decide +kernel, rfl, by decide +kernel, by decide +kernel⟩
def t_step_of (K : PySem.W.Frag) : TS :=
  (tSeq (tAsg (tOp (rIxT K) (tOp (rIxT K) (tVar 0) (tC (.int 1))) (tVar 3)) (gTup K 5 (gCons (gName 4) (gCons (gName 5) (gCons (gName 6) (gCons (gName 7) (gCons (gName 8) gNil)))))))
  (tRet (tOp rDivI (tOp rSubI (tOp rAddI (tOp (rIxT K) (tVar 2) (tVar 5)) (tCall sp_length_of [] E0 (tCons (tVar 0) (tCons (tVar 1) (tCons (tVar 2) (tCons (tVar 3) tNil)))))) (tOp (rIxT K) (tVar 2) (tVar 6))) (tVar 1))))
theorem pure_step_of (vs : List V) (H : Hp) (Q : VK) (E : XK) (h : sp_step_of vs H Q E) : t_step_of K { nx := fun _ H' => Q .non H', rt := Q } (start N_step_of vs) H := by
  obtain ⟨I, pa, ba, s, rfl, ok, hP, hB, hs, hQ⟩ := h
  obtain ⟨b, c, as, q, h1, h2, h3, h4⟩ := hP.span hs
  have ho := ok.so s hs
  have ht := ok.st s hs
  have hc := ok.c0
  have hc1 := ok.c1
  have hB' : H ba = some (.tup (I.beats.map V.int)) := hB
  have hcd : CDiv (I.b (I.sp s).one + I.len s - I.b (I.sp s).other) I.cycle := ⟨hc, by omega⟩
  unfold t_step_of
  walk_at "go"
  show Q (.int (I.stepZ s)) H
  rw [← Inst.stepN ok hs]
  exact hQ
theorem ok_step_of (T : Txt K mg) : Cal P w K mg base CX0 "step_of" 2 ["plan", "cycle", "beats", "s"] sp_step_of := by
  have C_length_of := ok_length_of (P := P) (w := w) (base := base) T
  refine Cal.of (i := 4) T (List.mem_of_getElem? (i := 3) rfl) (in_fa 2 rfl) sc_step_of (fun vs H Q E h => ?_) (fun _ _ _ _ _ _ us hl => match us, hl with | [_, _, _, _], _ => rfl) (fun cdv A outer s H vs Q E hr h => ⟨t_step_of K, PSs.nox ?_, pure_step_of vs H Q E h⟩)
  · obtain ⟨I, pa, ba, s, rfl, _⟩ := h
    rfl
  · exact (pss_cons (ps_asg (pe_ix ix_tup (pe_ix ix_tup (pv 0) pe_int (fun _ _ => rfl)) (pv 3) (fun _ _ => rfl)) (pg_tup rfl (pgs_cons (pg_name (i := 4) sc_step_of.nd rfl (by first | exact Or.inl rfl | exact Or.inr rfl)) (pgs_cons (pg_name (i := 5) sc_step_of.nd rfl (by first | exact Or.inl rfl | exact Or.inr rfl)) (pgs_cons (pg_name (i := 6) sc_step_of.nd rfl (by first | exact Or.inl rfl | exact Or.inr rfl)) (pgs_cons (pg_name (i := 7) sc_step_of.nd rfl (by first | exact Or.inl rfl | exact Or.inr rfl)) (pgs_cons (pg_name (i := 8) sc_step_of.nd rfl (by first | exact Or.inl rfl | exact Or.inr rfl)) pgs_nil)))))))
  (pss_one (ps_ret (pe_op op_fdiv (pe_op op_sub (pe_op op_add (pe_ix ix_tup (pv 2) (pv 5) (fun _ _ => rfl)) (pe_cal C_length_of (hr.mono (by decide)) pass0 (pa_cons (pv 0) (pa_cons (pv 1) (pa_cons (pv 2) (pa_cons (pv 3) pa_nil)))))) (pe_ix ix_tup (pv 2) (pv 6) (fun _ _ => rfl))) (pv 1)))))
end
theorem use_buffer_of {H : Hp} {Q : VK} {E : XK} {I : Inst} {pa ba : Addr} {s : Nat} (ok : I.Ok) (hP : PlanA H I pa) (hB : BeatsA H I ba) (hs : s < I.spans.length) (q : Q (.int (I.buf s)) H) :
    sp_buffer_of [.ref pa, .int I.cycle, .ref ba, .int (s : Nat)] H Q E := ⟨I, pa, ba, s, rfl, ok, hP, hB, hs, q⟩
theorem use_step_of {H : Hp} {Q : VK} {E : XK} {I : Inst} {pa ba : Addr} {s : Nat} (ok : I.Ok) (hP : PlanA H I pa) (hB : BeatsA H I ba) (hs : s < I.spans.length) (q : Q (.int (I.step s : Nat)) H) :
    sp_step_of [.ref pa, .int I.cycle, .ref ba, .int (s : Nat)] H Q E := ⟨I, pa, ba, s, rfl, ok, hP, hB, hs, q⟩
end Bp

namespace Bp
open PySem PyProof.Rows L2 PySem.Spec
local macro_rules | `(tactic| walk_at "side") => `(tactic| first | assumption | omega | decide)
local macro_rules | `(tactic| walk_at "carry") => `(tactic| first | assumption | (refine Same.get (by assumption) ?_; walk_at "carry"))
local macro_rules | `(tactic| walk_at "tst") => `(tactic| first | exact Same.ts (by assumption) | exact SameX.ts1 (by assumption) (by assumption) (by intro _ z; cases z))
local macro_rules | `(tactic| walk_at "dat") => `(tactic| first | assumption | (with_reducible refine PlanA.mono (by walk_at "tst") ?_; walk_at "dat") | (with_reducible refine BeatsA.mono (by walk_at "tst") ?_; walk_at "dat") | (with_reducible refine WaitA.mono (by walk_at "tst") ?_; walk_at "dat") | (with_reducible refine GivenA.mono (by walk_at "tst") ?_; walk_at "dat") | (with_reducible refine TableA.mono (by walk_at "tst") ?_; walk_at "dat"))
local macro_rules | `(tactic| walk_at "at") => `(tactic| first | exact rfl | assumption | exact at_beat (by assumption) | exact at_tab (by assumption) | exact at_map (by assumption))
local macro_rules | `(tactic| walk_at "go1") => `(tactic| first
  | with_reducible refine rd_seq ?_
  | with_reducible refine rd_asg ?_
  | with_reducible refine rd_ret ?_
  | with_reducible refine rd_drop ?_
  | ((with_reducible refine' rd_var ?x1 ?x2); (case x1 => exact rfl))
  | with_reducible refine rd_c ?_
  | with_reducible refine rd_op ?_
  | with_reducible refine rd_un ?_
  | with_reducible refine rd_name ?_
  | with_reducible refine rd_I0 ?_
  | with_reducible refine rd_gcons ?_
  | with_reducible refine rd_gnil ?_
  | with_reducible refine rd_test ?_
  | with_reducible refine rd_B ?_
  | with_reducible refine rd_bl ?_
  | with_reducible refine rd_anil ?_
  | with_reducible refine rd_acons ?_
  | with_reducible refine rd_tup ?_
  | with_reducible refine rd_lst ?_
  | with_reducible refine rd_sdput ?_
  | with_reducible refine rd_call1 ?_
  | with_reducible refine rd_cb ?_
  | with_reducible refine rd_ifS ?_
  | with_reducible refine rd_next ?_
  | ((with_reducible refine' rd_I ?x1 ?x2); (case x1 => walk_at "side"))
  | ((with_reducible refine' rd_ixT ?x1 ?x2 ?x3); (case x1 => walk_at "carry"); (case x2 => walk_at "at"))
  | ((with_reducible refine' rd_lenT ?x1 ?x2); (case x1 => walk_at "carry"))
  | ((with_reducible refine' rd_lenL ?x1 ?x2); (case x1 => walk_at "carry"))
  | with_reducible refine rd_max2 ?_
  | with_reducible refine rd_isiI ?_
  | with_reducible refine rd_isiB ?_
  | ((with_reducible refine' rd_isiT ?x1 ?x2); (case x1 => walk_at "carry"))
  | with_reducible refine ite_yes ?_
  | with_reducible refine ite_no ?_
  | with_reducible refine ite_nf ?_
  | with_reducible refine ite_nt ?_
  | with_reducible refine rd_andV ?_
  | with_reducible refine rd_orV ?_
  | with_reducible refine rd_notV ?_
  | with_reducible refine rd_and ?_
  | with_reducible refine rd_or ?_
  | with_reducible refine rd_not ?_
  | with_reducible refine rd_eq rfl ?_
  | with_reducible refine rd_ne rfl ?_
  | ((with_reducible refine' rd_gtup ?x1 ?x2 ?x3); (case x1 => walk_at "carry"); (case x2 => exact rfl)))
local macro_rules | `(tactic| walk_at "go") => `(tactic| repeat walk_at "go1")
local macro_rules | `(tactic| walk_at "go1") => `(tactic| ((with_reducible refine' use_length_of ?x1 ?x2 ?x3 ?x4 ?x5); (case x1 => assumption); (case x2 => walk_at "dat"); (case x3 => walk_at "dat"); (case x4 => assumption)))
local macro_rules | `(tactic| walk_at "go1") => `(tactic| ((with_reducible refine' use_buffer_of ?x1 ?x2 ?x3 ?x4 ?x5); (case x1 => assumption); (case x2 => walk_at "dat"); (case x3 => walk_at "dat"); (case x4 => assumption)))
local macro_rules | `(tactic| walk_at "go1") => `(tactic| ((with_reducible refine' use_step_of ?x1 ?x2 ?x3 ?x4 ?x5); (case x1 => assumption); (case x2 => walk_at "dat"); (case x3 => walk_at "dat"); (case x4 => assumption)))
section
variable {K : PySem.W.Frag} {P : Program} {w : World} {mg : Str → Option Value} {base : Heap}
/-! ### legs_of -/
abbrev legRow (I : Inst) (s : Nat) : List V := [.int (s : Nat), .int ((I.sp s).one : Nat), .int ((I.sp s).other : Nat), .int (I.step s : Nat), .int (I.buf s)]
def sp_legs_of : Sp := fun vs H Q _ => ∃ (I : Inst) (pa ba wa : Addr), vs = [.ref pa, .int I.cycle, .ref ba, .ref wa] ∧ I.Ok ∧ PlanA H I pa ∧ BeatsA H I ba ∧ WaitA H I wa ∧
  ∀ l H' as, Same H H' → H l = none → H' l = some (.lst (as.map V.ref)) → Rows H' as (I.wait.map (legRow I)) → Q (.ref l) H'
abbrev N_legs_of : List Str := ["plan", "cycle", "beats", "waiting", "found", "s", "word", "one", "other", "low", "high"]
theorem sc_legs_of : FnScope N_legs_of ["plan", "cycle", "beats", "waiting"] (defScope (top 5)) := ⟨rfl, rfl, rfl, by decide +kernel, rfl, by decide +kernel, by decide +kernel⟩
def t_legs_of (K : PySem.W.Frag) : TS :=
  (tSeq (tAsg (tLst tNil) (gName 4))
  (tSeq (tFor (iTup K (tVar 3)) (gName 5) (tSeq (tAsg (tOp (rIxT K) (tOp (rIxT K) (tVar 0) (tC (.int 1))) (tVar 5)) (gTup K 5 (gCons (gName 6) (gCons (gName 7) (gCons (gName 8) (gCons (gName 9) (gCons (gName 10) gNil)))))))
  (tDrop (tBM K "list" rAppend (tVar 4) (tCons (tTup (tCons (tVar 5) (tCons (tVar 7) (tCons (tVar 8) (tCons (tCall sp_step_of [] E0 (tCons (tVar 0) (tCons (tVar 1) (tCons (tVar 2) (tCons (tVar 5) tNil))))) (tCons (tCall sp_buffer_of [] E0 (tCons (tVar 0) (tCons (tVar 1) (tCons (tVar 2) (tCons (tVar 5) tNil))))) tNil)))))) tNil)))))
  (tRet (tVar 4))))
theorem pure_legs_of (vs : List V) (H : Hp) (Q : VK) (E : XK) (h : sp_legs_of vs H Q E) : t_legs_of K { nx := fun _ H' => Q .non H', rt := Q } (start N_legs_of vs) H := by
  obtain ⟨I, pa, ba, wa, rfl, ok, hP, hB, hW, hQ⟩ := h
  unfold t_legs_of
  walk_at "go"
  refine newL (fun l H1 hl e1 h1 => ?_) rfl
  walk_at "go"
  refine rd_forTv (a := wa) rfl (e1 _ _ hW) (fun i σ' H' => ∃ (as : List Addr) (x5 x6 x7 x8 x9 x10 : Option V), σ' = [some (.ref pa), some (.int I.cycle), some (.ref ba), some (.ref wa), some (.ref l), x5, x6, x7, x8, x9, x10] ∧ Same H H' ∧ H' l = some (.lst (as.map V.ref)) ∧ Rows H' as ((I.wait.take i).map (legRow I)))
    ⟨[], none, none, none, none, none, none, rfl, e1, h1, Rows.nil⟩ (fun i σ' H' ⟨_, _, _, _, _, _, _, _, e, _⟩ => e _ _ hW) ?_ ?_
  · rintro i x σ' H' hx ⟨as, x5, x6, x7, x8, x9, x10, rfl, e, hl2, hr⟩
    obtain ⟨s, hs, rfl⟩ := get_map hx
    have hsm : s ∈ I.wait := List.mem_of_getElem? hs
    have hsl := ok.wt s hsm
    have hP' := hP.mono e.ts
    have hB' := hB.mono e.ts
    obtain ⟨b, c, as', q, q1, q2, q3, q4⟩ := hP'.span hsl
    walk_at "go"
    refine rd_append rfl hl2 ?_
    walk_at "go"
    refine newT (fun p H2 hp e2 h2 => ?_) rfl
    refine rd_app (e2 _ _ hl2) (by
      have z1 := hr.len
      have z2 := ok.wl
      rw [List.length_map, List.length_take] at z1
      rw [List.length_map]
      omega) fun H3 e3 h3 => ?_
    refine ⟨as ++ [p], _, _, _, _, _, _, rfl, SameX.out (e.trans e2) e3 (fun z hz => by rw [List.mem_singleton.mp hz]; exact hl), by rw [h3, List.map_append]; rfl, ?_⟩
    rw [take_snoc hs, List.map_append]
    have t23 : Tst H2 H3 := e3.ts1 (e2 _ _ hl2) (by intro _ z; cases z)
    exact ((hr.mono e2.ts).mono t23).snoc (t23 _ _ h2)
  · rintro σ' H' ⟨as, x5, x6, x7, x8, x9, x10, rfl, e, hl2, hr⟩
    walk_at "go"
    refine hQ l H' as e hl hl2 ?_
    rw [List.length_map, List.take_length] at hr
    exact hr
theorem ok_legs_of (T : Txt K mg) : Cal P w K mg base CX0 "legs_of" 3 ["plan", "cycle", "beats", "waiting"] sp_legs_of := by
  have C_step_of := ok_step_of (P := P) (w := w) (base := base) T
  have C_buffer_of := ok_buffer_of (P := P) (w := w) (base := base) T
  refine Cal.of (i := 5) T (List.mem_of_getElem? (i := 4) rfl) (in_fa 3 rfl) sc_legs_of (fun vs H Q E h => ?_) (fun _ _ _ _ _ _ us hl => match us, hl with | [_, _, _, _], _ => rfl) (fun cdv A outer s H vs Q E hr h => ⟨t_legs_of K, PSs.nox ?_, pure_legs_of vs H Q E h⟩)
  · obtain ⟨I, pa, ba, wa, rfl, _⟩ := h
    rfl
  · exact (pss_cons (ps_set (i := 4) sc_legs_of.nd rfl (by first | exact Or.inl rfl | exact Or.inr rfl) (pe_lst pa_nil))
  (pss_cons (ps_for PassesOwn.never rfl (pi_tup (pv 3)) (pg_name (i := 5) sc_legs_of.nd rfl (by first | exact Or.inl rfl | exact Or.inr rfl)) (pss_cons (ps_asg (pe_ix ix_tup (pe_ix ix_tup (pv 0) pe_int (fun _ _ => rfl)) (pv 5) (fun _ _ => rfl)) (pg_tup rfl (pgs_cons (pg_name (i := 6) sc_legs_of.nd rfl (by first | exact Or.inl rfl | exact Or.inr rfl)) (pgs_cons (pg_name (i := 7) sc_legs_of.nd rfl (by first | exact Or.inl rfl | exact Or.inr rfl)) (pgs_cons (pg_name (i := 8) sc_legs_of.nd rfl (by first | exact Or.inl rfl | exact Or.inr rfl)) (pgs_cons (pg_name (i := 9) sc_legs_of.nd rfl (by first | exact Or.inl rfl | exact Or.inr rfl)) (pgs_cons (pg_name (i := 10) sc_legs_of.nd rfl (by first | exact Or.inl rfl | exact Or.inr rfl)) pgs_nil)))))))
  (pss_one (ps_expr (pe_bm PySem.F.plainAttrs_list PySem.F.slot_list_append PySem.F.type_list_append mt_append (pv 4) (pa_cons (pe_tup (pa_cons (pv 5) (pa_cons (pv 7) (pa_cons (pv 8) (pa_cons (pe_cal C_step_of (hr.mono (by decide)) pass0 (pa_cons (pv 0) (pa_cons (pv 1) (pa_cons (pv 2) (pa_cons (pv 5) pa_nil))))) (pa_cons (pe_cal C_buffer_of (hr.mono (by decide)) pass0 (pa_cons (pv 0) (pa_cons (pv 1) (pa_cons (pv 2) (pa_cons (pv 5) pa_nil))))) pa_nil)))))) pa_nil))))))
  (pss_one (ps_ret (pv 4)))))
end
end Bp

namespace Bp
open PySem PyProof.Rows L2 PySem.Spec
local macro_rules | `(tactic| walk_at "side") => `(tactic| first | assumption | omega | decide)
local macro_rules | `(tactic| walk_at "carry") => `(tactic| first | assumption | (refine Same.get (by assumption) ?_; walk_at "carry"))
local macro_rules | `(tactic| walk_at "tst") => `(tactic| first | exact Same.ts (by assumption) | exact SameX.ts1 (by assumption) (by assumption) (by intro _ z; cases z))
local macro_rules | `(tactic| walk_at "dat") => `(tactic| first | assumption | (with_reducible refine PlanA.mono (by walk_at "tst") ?_; walk_at "dat") | (with_reducible refine BeatsA.mono (by walk_at "tst") ?_; walk_at "dat") | (with_reducible refine WaitA.mono (by walk_at "tst") ?_; walk_at "dat") | (with_reducible refine GivenA.mono (by walk_at "tst") ?_; walk_at "dat") | (with_reducible refine TableA.mono (by walk_at "tst") ?_; walk_at "dat"))
local macro_rules | `(tactic| walk_at "at") => `(tactic| first | exact rfl | assumption | exact at_beat (by assumption) | exact at_tab (by assumption) | exact at_map (by assumption))
local macro_rules | `(tactic| walk_at "go1") => `(tactic| first
  | with_reducible refine rd_seq ?_
  | with_reducible refine rd_asg ?_
  | with_reducible refine rd_ret ?_
  | with_reducible refine rd_drop ?_
  | ((with_reducible refine' rd_var ?x1 ?x2); (case x1 => exact rfl))
  | with_reducible refine rd_c ?_
  | with_reducible refine rd_op ?_
  | with_reducible refine rd_un ?_
  | with_reducible refine rd_name ?_
  | with_reducible refine rd_I0 ?_
  | with_reducible refine rd_gcons ?_
  | with_reducible refine rd_gnil ?_
  | with_reducible refine rd_test ?_
  | with_reducible refine rd_B ?_
  | with_reducible refine rd_bl ?_
  | with_reducible refine rd_anil ?_
  | with_reducible refine rd_acons ?_
  | with_reducible refine rd_tup ?_
  | with_reducible refine rd_lst ?_
  | with_reducible refine rd_sdput ?_
  | with_reducible refine rd_call1 ?_
  | with_reducible refine rd_cb ?_
  | with_reducible refine rd_ifS ?_
  | with_reducible refine rd_next ?_
  | ((with_reducible refine' rd_I ?x1 ?x2); (case x1 => walk_at "side"))
  | ((with_reducible refine' rd_ixT ?x1 ?x2 ?x3); (case x1 => walk_at "carry"); (case x2 => walk_at "at"))
  | ((with_reducible refine' rd_lenT ?x1 ?x2); (case x1 => walk_at "carry"))
  | ((with_reducible refine' rd_lenL ?x1 ?x2); (case x1 => walk_at "carry"))
  | with_reducible refine rd_max2 ?_
  | with_reducible refine rd_isiI ?_
  | with_reducible refine rd_isiB ?_
  | ((with_reducible refine' rd_isiT ?x1 ?x2); (case x1 => walk_at "carry"))
  | with_reducible refine ite_yes ?_
  | with_reducible refine ite_no ?_
  | with_reducible refine ite_nf ?_
  | with_reducible refine ite_nt ?_
  | with_reducible refine rd_andV ?_
  | with_reducible refine rd_orV ?_
  | with_reducible refine rd_notV ?_
  | with_reducible refine rd_and ?_
  | with_reducible refine rd_or ?_
  | with_reducible refine rd_not ?_
  | with_reducible refine rd_eq rfl ?_
  | with_reducible refine rd_ne rfl ?_
  | ((with_reducible refine' rd_gtup ?x1 ?x2 ?x3); (case x1 => walk_at "carry"); (case x2 => exact rfl)))
local macro_rules | `(tactic| walk_at "go") => `(tactic| repeat walk_at "go1")
/-! ### what stands while lateness spreads -/
abbrev rowV (row : List Nat) : List V := row.map fun n : Nat => V.int n
structure SprAt (I : Inst) (gv : List Gv) (many : Nat) (H : Hp) (dn dc : Addr) (num : Tab) (kvs cvs : List (List Key × V)) : Prop where
  hn : H dn = some (.dT kvs)
  hc : H dc = some (.dT cvs)
  kn : KeysOk many I.beats.length kvs
  kc : KeysOk many I.beats.length cvs
  gt : GetsN kvs num
  ch : ∀ t w : Nat, 0 < num t w → ∃ (p q : Addr) (g : Nat) (row : List Nat), valV cvs (ky t w) = some (.ref p) ∧ H p = some (.tup [.int (g : Nat), .ref q]) ∧ H q = some (.tup (rowV row)) ∧ ChainOk I gv many num t w g row
  nn : ∀ t w, 0 ≤ num t w
  gr : ∀ t w, ¬ (t < many ∧ w < I.beats.length) → num t w = 0
  le : ∀ N', Feas I gv many N' → ∀ t w, num t w ≤ N' t w
theorem SprAt.mono {I : Inst} {gv : List Gv} {many : Nat} {H H' : Hp} {dn dc : Addr} {num : Tab} {kvs cvs : List (List Key × V)} (h : SprAt I gv many H dn dc num kvs cvs) (t : Tst H H') (hn : H' dn = some (.dT kvs)) (hc : H' dc = some (.dT cvs)) : SprAt I gv many H' dn dc num kvs cvs :=
  ⟨hn, hc, h.kn, h.kc, h.gt, fun a b z => by
    obtain ⟨p, q, g, row, h1, h2, h3, h4⟩ := h.ch a b z
    exact ⟨p, q, g, row, h1, t _ _ h2, t _ _ h3, h4⟩, h.nn, h.gr, h.le⟩
theorem SprAt.same {I : Inst} {gv : List Gv} {many : Nat} {H H' : Hp} {dn dc : Addr} {num : Tab} {kvs cvs : List (List Key × V)} (h : SprAt I gv many H dn dc num kvs cvs) (e : Same H H') : SprAt I gv many H' dn dc num kvs cvs :=
  h.mono e.ts (e _ _ h.hn) (e _ _ h.hc)
theorem SprAt.put {I : Inst} {gv : List Gv} {many : Nat} {H H' : Hp} {dn dc : Addr} {num : Tab} {kvs cvs : List (List Key × V)} (h : SprAt I gv many H dn dc num kvs cvs) (tt : Tst H H') {t w g : Nat} {n : Int} {p q : Addr} {row : List Nat}
    (hn : H' dn = some (.dT (putK kvs (ky t w) (.int n)))) (hc : H' dc = some (.dT (putK cvs (ky t w) (.ref p)))) (hp : H' p = some (.tup [.int (g : Nat), .ref q])) (hq : H' q = some (.tup (rowV row))) (ht : t < many) (hw : w < I.beats.length)
    (hlt : num t w < n) (hch : ChainOk I gv many (setT num t w n) t w g row) (hle : ∀ N', Feas I gv many N' → n ≤ N' t w) : SprAt I gv many H' dn dc (setT num t w n) (putK kvs (ky t w) (.int n)) (putK cvs (ky t w) (.ref p)) := by
  have h0 := h.nn t w
  have mono : ∀ t' w', num t' w' ≤ setT num t w n t' w' := fun t' w' => by
    by_cases e : t' = t ∧ w' = w
    · rw [e.1, e.2, setT_same]; omega
    · rw [setT_other e]; omega
  refine ⟨hn, hc, h.kn.put ht hw _, h.kc.put ht hw _, h.gt.put t w n, fun t' w' hpos => ?_, fun t' w' => ?_, fun t' w' ho => ?_, fun N' f t' w' => ?_⟩
  · by_cases e : t' = t ∧ w' = w
    · rw [e.1, e.2]
      exact ⟨p, q, g, row, by rw [valV_put, if_pos rfl], hp, hq, hch⟩
    · rw [setT_other e] at hpos
      obtain ⟨p', q', g', row', h1, h2, h3, h4⟩ := h.ch t' w' hpos
      exact ⟨p', q', g', row', by rw [valV_put, if_neg (fun z => e (ky_cast z)), h1], tt _ _ h2, tt _ _ h3, h4.mono mono (setT_other e)⟩
  · have := h.nn t' w'
    have := mono t' w'
    omega
  · have e : ¬ (t' = t ∧ w' = w) := fun e => ho (by rw [e.1, e.2]; exact ⟨ht, hw⟩)
    rw [setT_other e]
    exact h.gr t' w' ho
  · by_cases e : t' = t ∧ w' = w
    · rw [e.1, e.2, setT_same]
      exact hle N' f
    · rw [setT_other e]
      exact h.le N' f t' w'
theorem SprAt.small {I : Inst} {gv : List Gv} {many : Nat} {H : Hp} {dn dc : Addr} {num : Tab} {kvs cvs : List (List Key × V)} (h : SprAt I gv many H dn dc num kvs cvs) (ok : I.Ok) (hm : many ≤ 12) : kvs.length < 100000 ∧ cvs.length < 100000 := by
  have h1 := h.kn.len
  have h2 := h.kc.len
  have h3 : many * I.beats.length ≤ 12 * 8 := Nat.mul_le_mul hm ok.w1
  omega
section
variable {K : PySem.W.Frag} {P : Program} {w : World} {mg : Str → Option Value} {base : Heap}
/-! ### begun -/
def sp_begun : Sp := fun vs H Q _ => ∃ (I : Inst) (many : Nat) (gv : List Gv) (ga : Addr), vs = [.ref ga] ∧ I.Ok ∧ many ≤ 12 ∧ GvOk I many gv ∧ gv.length ≤ 12 ∧ GivenA H gv ga ∧
  ∀ p H' dn dc num kvs cvs, Same H H' → H' p = some (.tup [.ref dn, .ref dc]) → H dn = none → H dc = none → dn ≠ dc → SprAt I gv many H' dn dc num kvs cvs → (∀ g ∈ gv, g.2.2 ≤ num g.2.1 g.1) → Q (.ref p) H'
abbrev N_begun : List Str := ["given", "numbers", "chains", "g", "work", "turn", "number"]
theorem sc_begun : FnScope N_begun ["given"] (defScope (top 6)) := ⟨rfl, rfl, rfl, by decide +kernel, rfl, by decide +kernel, by decide +kernel⟩
def t_begun (K : PySem.W.Frag) : TS :=
  (tSeq (tAsg tDNewT (gName 1))
  (tSeq (tAsg tDNewT (gName 2))
  (tSeq (tFor (iEnumT K (tCons (tVar 0) tNil)) (gTup K 2 (gCons (gName 3) (gCons (gTup K 3 (gCons (gName 4) (gCons (gName 5) (gCons (gName 6) gNil)))) gNil))) (tIfS (tTest (tOp rGtI (tVar 6) (tDGet2 (tVar 1) (tTup (tCons (tVar 5) (tCons (tVar 4) tNil))) (tC (.int 0))))) (tSeq (sDPut (tVar 1) (tTup (tCons (tVar 5) (tCons (tVar 4) tNil))) (tVar 6))
  (sDPut (tVar 2) (tTup (tCons (tVar 5) (tCons (tVar 4) tNil))) (tTup (tCons (tVar 3) (tCons (tTup tNil) tNil))))) tNext))
  (tRet (tTup (tCons (tVar 1) (tCons (tVar 2) tNil)))))))
theorem pure_begun (vs : List V) (H : Hp) (Q : VK) (E : XK) (h : sp_begun vs H Q E) : t_begun K { nx := fun _ H' => Q .non H', rt := Q } (start N_begun vs) H := by
  obtain ⟨I, many, gv, ga, rfl, ok, hm, hgv, hgl, hG, hQ⟩ := h
  unfold t_begun
  walk_at "go"
  refine newD fun dn H1 hdn e1 h1 => ?_
  walk_at "go"
  refine newD fun dc H2 hdc e2 h2 => ?_
  have ndc : dn ≠ dc := ne_of_none h1 hdc
  have hdc0 : H dc = none := e1.free hdc
  walk_at "go"
  refine rd_forI ?_
  obtain ⟨as, hga, hrows⟩ := hG
  refine ⟨_, rfl, ga, as.map V.ref, rfl, SqT.of (e2 _ _ (e1 _ _ hga)), ?_⟩
  have e02 := e1.trans e2
  refine for_it walk_enumT (fun i σ' H' => ∃ (x3 x4 x5 x6 : Option V) (num : Tab) (kvs cvs : List (List Key × V)), σ' = [some (.ref ga), some (.ref dn), some (.ref dc), x3, x4, x5, x6] ∧ Same H H' ∧ SprAt I gv many H' dn dc num kvs cvs ∧ ∀ g ∈ gv.take i, g.2.2 ≤ num g.2.1 g.1)
    ⟨none, none, none, none, fun _ _ => 0, [], [], rfl, e02, ⟨e2 _ _ h1, h2, KeysOk.nil, KeysOk.nil, GetsN.nil, fun t w z => absurd z (by decide), fun _ _ => by omega, fun _ _ _ => rfl, fun N' f t w => f.nn t w⟩, fun g hg => by simp at hg⟩
    (fun i σ' H' _ ⟨_, _, _, _, _, _, _, _, e, _⟩ => SqT.of (e _ _ hga)) ?_ ?_
  · rintro i x σ' H' H3 hi ⟨x3, x4, x5, x6, num, kvs, cvs, rfl, e, hS, hdone⟩ ⟨tp, x, y, rfl, htp, rfl, hx, hy⟩
    obtain rfl : V.int (i : Nat) = x := Option.some.inj hx
    obtain ⟨pa, hpa, rfl⟩ := get_map hy
    have hig : i < gv.length := by rw [List.length_map, hrows.len, List.length_map] at hi; exact hi
    have hge : gv[i]? = some gv[i] := List.getElem?_eq_getElem hig
    generalize gv[i] = g at hge
    have hgm : g ∈ gv := List.mem_of_getElem? hge
    have hrow : H pa = some (.tup (gvRow g)) := hrows.at_ i pa _ hpa (by rw [List.getElem?_map, hge]; rfl)
    have e3 : Same H' (upd H' tp (.tup [.int (i : Nat), .ref pa])) := Same.new htp
    have h3 : (upd H' tp (.tup [.int (i : Nat), .ref pa])) tp = some (.tup [.int (i : Nat), .ref pa]) := upd_same
    generalize upd H' tp (.tup [.int (i : Nat), .ref pa]) = H3 at *
    have hS3 := hS.same e3
    have e03 := e.trans e3
    have hrow3 := e03 _ _ hrow
    have htm := hgv.t g hgm
    have hwm := hgv.w g hgm
    obtain ⟨z1, z2⟩ := hS.small ok hm
    walk_at "go"
    refine rd_get (v := .int (num g.2.1 g.1)) rfl (.inl hS3.hn) (fun H1 QA kk => by walk_at "go"; exact kk) (hS3.gt _ _) fun H4 e4 => ?_
    walk_at "go"
    have hS4 := hS3.same e4
    refine iteb (fun hb => ?_) (fun hb => ?_)
    · have hlt := of_decide_eq_true hb
      walk_at "go"
      refine rd_put rfl (fun H1 QA kk => by walk_at "go"; exact kk) hS4.hn z1 fun H5 e5 h5 => ?_
      walk_at "go"
      refine newT (fun q H6 hq e6 h6 => ?_) rfl
      walk_at "go"
      refine newT (fun p H7 hp e7 h7 => ?_) rfl
      have hdc5 : H5 dc = some (.dT cvs) := e5 _ _ (by simpa using Ne.symm ndc) hS4.hc
      refine rd_put rfl (fun H1 QA kk => by walk_at "go"; exact kk) (e7 _ _ (e6 _ _ hdc5)) z2 fun H8 e8 h8 => ?_
      walk_at "go"
      have t45 : Tst H4 H5 := e5.ts1 hS4.hn (by intro _ z; cases z)
      have t78 : Tst H7 H8 := e8.ts1 (e7 _ _ (e6 _ _ hdc5)) (by intro _ z; cases z)
      have t48 : Tst H4 H8 := ((t45.trans e6.ts).trans e7.ts).trans t78
      have h8n : H8 dn = some (.dT (putK kvs (ky g.2.1 g.1) (.int g.2.2))) := e8 _ _ (by simpa using ndc) (e7 _ _ (e6 _ _ h5))
      have hbase : ChainOk I gv many (setT num g.2.1 g.1 g.2.2) g.2.1 g.1 i [] := ChainOk.base hge htm hwm setT_same
      have s05 : Same H H5 := SameX.out (e03.trans e4) e5 (fun l hl => by rw [List.mem_singleton.mp hl]; exact hdn)
      have s08 : Same H H8 := SameX.out ((s05.trans e6).trans e7) e8 (fun l hl => by rw [List.mem_singleton.mp hl]; exact hdc0)
      refine ⟨_, _, _, _, setT num g.2.1 g.1 g.2.2, _, _, rfl, s08, hS4.put (row := []) t48 h8n h8 (t78 _ _ h7) (t78 _ _ (e7 _ _ h6)) htm hwm hlt hbase (fun N' f => f.gi g hgm), fun g' hg' => ?_⟩
      rw [take_snoc hge] at hg'
      rcases List.mem_append.mp hg' with hg' | hg'
      · have z := hdone g' hg'
        by_cases c : g'.2.1 = g.2.1 ∧ g'.1 = g.1
        · rw [c.1, c.2, setT_same]
          rw [c.1, c.2] at z
          omega
        · rw [setT_other c]
          exact z
      · rw [List.mem_singleton.mp hg', setT_same]
        omega
    · have hge2 := of_decide_eq_false hb
      walk_at "go"
      refine ⟨_, _, _, _, num, kvs, cvs, rfl, e03.trans e4, hS4, fun g' hg' => ?_⟩
      rw [take_snoc hge] at hg'
      rcases List.mem_append.mp hg' with hg' | hg'
      · exact hdone g' hg'
      · rw [List.mem_singleton.mp hg']
        omega
  · rintro σ' H' ⟨x3, x4, x5, x6, num, kvs, cvs, rfl, e, hS, hdone⟩
    rw [List.length_map, hrows.len, List.length_map, List.take_length] at hdone
    walk_at "go"
    refine newT (fun p H3 hp e3 h3 => ?_) rfl
    exact hQ p H3 dn dc num kvs cvs (e.trans e3) h3 hdn hdc0 ndc (hS.same e3) hdone
theorem ok_begun (T : Txt K mg) : Cal P w K mg base CX0 "begun" 1 ["given"] sp_begun := by
  refine Cal.of (i := 6) T (List.mem_of_getElem? (i := 5) rfl) (in_fa 4 rfl) sc_begun (fun vs H Q E h => ?_) (fun _ _ _ _ _ _ us hl => match us, hl with | [_], _ => rfl) (fun cdv A outer s H vs Q E hr h => ⟨t_begun K, PSs.nox ?_, pure_begun vs H Q E h⟩)
  · obtain ⟨I, many, gv, ga, rfl, _⟩ := h
    rfl
  · exact (pss_cons (ps_set (i := 1) sc_begun.nd rfl (by first | exact Or.inl rfl | exact Or.inr rfl) pe_dnewT)
  (pss_cons (ps_set (i := 2) sc_begun.nd rfl (by first | exact Or.inl rfl | exact Or.inr rfl) pe_dnewT)
  (pss_cons (ps_for PassesOwn.never rfl (pi_enumT (by rfl) T.enumerate (pa_cons (pv 0) pa_nil)) (pg_tup rfl (pgs_cons (pg_name (i := 3) sc_begun.nd rfl (by first | exact Or.inl rfl | exact Or.inr rfl)) (pgs_cons (pg_tup rfl (pgs_cons (pg_name (i := 4) sc_begun.nd rfl (by first | exact Or.inl rfl | exact Or.inr rfl)) (pgs_cons (pg_name (i := 5) sc_begun.nd rfl (by first | exact Or.inl rfl | exact Or.inr rfl)) (pgs_cons (pg_name (i := 6) sc_begun.nd rfl (by first | exact Or.inl rfl | exact Or.inr rfl)) pgs_nil)))) pgs_nil))) (pss_one (ps_if (pt_cmpR op_gt (pv 6) (pe_dget2 (hu_of hr) (pv 1) (pe_tup (pa_cons (pv 5) (pa_cons (pv 4) pa_nil))) pe_int ⟨rfl, rfl, rfl, rfl⟩) (nomark _)) (pss_cons (ps_dput (hu_of hr) (pv 1) (pe_tup (pa_cons (pv 5) (pa_cons (pv 4) pa_nil))) (pv 6) rfl)
  (pss_one (ps_dput (hu_of hr) (pv 2) (pe_tup (pa_cons (pv 5) (pa_cons (pv 4) pa_nil))) (pe_tup (pa_cons (pv 3) (pa_cons (pe_tup pa_nil) pa_nil))) rfl))) pss_nil)))
  (pss_one (ps_ret (pe_tup (pa_cons (pv 1) (pa_cons (pv 2) pa_nil))))))))
end
end Bp

namespace Bp
open PySem PyProof.Rows L2 PySem.Spec
local macro_rules | `(tactic| walk_at "side") => `(tactic| first | assumption | omega | decide)
local macro_rules | `(tactic| walk_at "carry") => `(tactic| first | assumption | (refine Same.get (by assumption) ?_; walk_at "carry"))
local macro_rules | `(tactic| walk_at "tst") => `(tactic| first | exact Same.ts (by assumption) | exact SameX.ts1 (by assumption) (by assumption) (by intro _ z; cases z))
local macro_rules | `(tactic| walk_at "dat") => `(tactic| first | assumption | (with_reducible refine PlanA.mono (by walk_at "tst") ?_; walk_at "dat") | (with_reducible refine BeatsA.mono (by walk_at "tst") ?_; walk_at "dat") | (with_reducible refine WaitA.mono (by walk_at "tst") ?_; walk_at "dat") | (with_reducible refine GivenA.mono (by walk_at "tst") ?_; walk_at "dat") | (with_reducible refine TableA.mono (by walk_at "tst") ?_; walk_at "dat"))
local macro_rules | `(tactic| walk_at "at") => `(tactic| first | exact rfl | assumption | exact at_beat (by assumption) | exact at_tab (by assumption) | exact at_map (by assumption))
local macro_rules | `(tactic| walk_at "go1") => `(tactic| first
  | with_reducible refine rd_seq ?_
  | with_reducible refine rd_asg ?_
  | with_reducible refine rd_ret ?_
  | with_reducible refine rd_drop ?_
  | ((with_reducible refine' rd_var ?x1 ?x2); (case x1 => exact rfl))
  | with_reducible refine rd_c ?_
  | with_reducible refine rd_op ?_
  | with_reducible refine rd_un ?_
  | with_reducible refine rd_name ?_
  | with_reducible refine rd_I0 ?_
  | with_reducible refine rd_gcons ?_
  | with_reducible refine rd_gnil ?_
  | with_reducible refine rd_test ?_
  | with_reducible refine rd_B ?_
  | with_reducible refine rd_bl ?_
  | with_reducible refine rd_anil ?_
  | with_reducible refine rd_acons ?_
  | with_reducible refine rd_tup ?_
  | with_reducible refine rd_lst ?_
  | with_reducible refine rd_sdput ?_
  | with_reducible refine rd_call1 ?_
  | with_reducible refine rd_cb ?_
  | with_reducible refine rd_ifS ?_
  | with_reducible refine rd_next ?_
  | ((with_reducible refine' rd_I ?x1 ?x2); (case x1 => walk_at "side"))
  | ((with_reducible refine' rd_ixT ?x1 ?x2 ?x3); (case x1 => walk_at "carry"); (case x2 => walk_at "at"))
  | ((with_reducible refine' rd_lenT ?x1 ?x2); (case x1 => walk_at "carry"))
  | ((with_reducible refine' rd_lenL ?x1 ?x2); (case x1 => walk_at "carry"))
  | with_reducible refine rd_max2 ?_
  | with_reducible refine rd_isiI ?_
  | with_reducible refine rd_isiB ?_
  | ((with_reducible refine' rd_isiT ?x1 ?x2); (case x1 => walk_at "carry"))
  | with_reducible refine ite_yes ?_
  | with_reducible refine ite_no ?_
  | with_reducible refine ite_nf ?_
  | with_reducible refine ite_nt ?_
  | with_reducible refine rd_andV ?_
  | with_reducible refine rd_orV ?_
  | with_reducible refine rd_notV ?_
  | with_reducible refine rd_and ?_
  | with_reducible refine rd_or ?_
  | with_reducible refine rd_not ?_
  | with_reducible refine rd_eq rfl ?_
  | with_reducible refine rd_ne rfl ?_
  | ((with_reducible refine' rd_gtup ?x1 ?x2 ?x3); (case x1 => walk_at "carry"); (case x2 => exact rfl)))
local macro_rules | `(tactic| walk_at "go") => `(tactic| repeat walk_at "go1")
section
variable {K : PySem.W.Frag} {P : Program} {w : World} {mg : Str → Option Value} {base : Heap}
/-! ### spread -/
def sp_spread : Sp := fun vs H Q _ => ∃ (I : Inst) (many : Nat) (gv : List Gv) (pa ba wa ga : Addr), vs = [.ref pa, .int I.cycle, .ref ba, .ref wa, .ref ga, .int (many : Nat)] ∧ I.Ok ∧ many ≤ 12 ∧ GvOk I many gv ∧ gv.length ≤ 12 ∧ PlanA H I pa ∧ BeatsA H I ba ∧ WaitA H I wa ∧ GivenA H gv ga ∧
  ∀ p H' dn dc num kvs cvs, Same H H' → H' p = some (.tup [.ref dn, .ref dc]) → SprAt I gv many H' dn dc num kvs cvs → Least I gv many num → Q (.ref p) H'
/-- between two steps: gr: whether something grew since num0 -/
structure Mid (I : Inst) (gv : List Gv) (many : Nat) (dn dc l : Addr) (as : List Addr) (H H' : Hp) (gr : Bool) (num0 num : Tab) (kvs cvs : List (List Key × V)) : Prop where
  e : Same H H'
  hl : H' l = some (.lst (as.map V.ref))
  hr : Rows H' as (I.wait.map (legRow I))
  sp : SprAt I gv many H' dn dc num kvs cvs
  gi : ∀ g ∈ gv, g.2.2 ≤ num g.2.1 g.1
  le : meas (grid many I.beats.length) num ≤ meas (grid many I.beats.length) num0
  yes : gr = true → meas (grid many I.beats.length) num < meas (grid many I.beats.length) num0
  no : gr = false → num = num0
theorem Mid.same {I : Inst} {gv : List Gv} {many : Nat} {dn dc l : Addr} {as : List Addr} {H H' H2 : Hp} {gr : Bool} {num0 num : Tab} {kvs cvs : List (List Key × V)} (h : Mid I gv many dn dc l as H H' gr num0 num kvs cvs) (e : Same H' H2) : Mid I gv many dn dc l as H H2 gr num0 num kvs cvs :=
  ⟨h.e.trans e, e _ _ h.hl, h.hr.mono e.ts, h.sp.same e, h.gi, h.le, h.yes, h.no⟩
def Clo (I : Inst) (many : Nat) (N : Tab) (s t : Nat) : Prop := t + I.step s < many → N t (I.sp s).one - I.buf s ≤ N (t + I.step s) (I.sp s).other
abbrev N_spread : List Str := ["plan", "cycle", "beats", "waiting", "given", "many", "numbers", "chains", "legs", "grows", "s", "one", "other", "step", "buffer", "turn", "number", "g", "row"]
theorem sc_spread : FnScope N_spread ["plan", "cycle", "beats", "waiting", "given", "many"] (defScope (top 7)) := ⟨rfl, rfl, rfl, by decide +kernel, rfl, by decide +kernel, by decide +kernel⟩
def t_spread (K : PySem.W.Frag) : TS :=
  (tSeq (tAsg (tCall sp_begun [] E0 (tCons (tVar 4) tNil)) (gTup K 2 (gCons (gName 6) (gCons (gName 7) gNil))))
  (tSeq (tAsg (tCall sp_legs_of [] E0 (tCons (tVar 0) (tCons (tVar 1) (tCons (tVar 2) (tCons (tVar 3) tNil))))) (gName 8))
  (tSeq (tAsg (tC (.bl true)) (gName 9))
  (tSeq (tWhile (tB (tVar 9)) (tSeq (tAsg (tC (.bl false)) (gName 9))
  (tFor (iList K (tVar 8)) (gTup K 5 (gCons (gName 10) (gCons (gName 11) (gCons (gName 12) (gCons (gName 13) (gCons (gName 14) gNil)))))) (tFor (iRng1 (tCons (tOp rSubI (tVar 5) (tVar 13)) tNil)) (gName 15) (tSeq (tAsg (tOp rSubI (tDGet2 (tVar 6) (tTup (tCons (tVar 15) (tCons (tVar 11) tNil))) (tC (.int 0))) (tVar 14)) (gName 16))
  (tIfS (tTest (tOp rGtI (tVar 16) (tDGet2 (tVar 6) (tTup (tCons (tOp rAddI (tVar 15) (tVar 13)) (tCons (tVar 12) tNil))) (tC (.int 0))))) (tSeq (tAsg (tDGet (tVar 7) (tTup (tCons (tVar 15) (tCons (tVar 11) tNil)))) (gTup K 2 (gCons (gName 17) (gCons (gName 18) gNil))))
  (tSeq (sDPut (tVar 6) (tTup (tCons (tOp rAddI (tVar 15) (tVar 13)) (tCons (tVar 12) tNil))) (tVar 16))
  (tSeq (sDPut (tVar 7) (tTup (tCons (tOp rAddI (tVar 15) (tVar 13)) (tCons (tVar 12) tNil))) (tTup (tCons (tVar 17) (tCons (tOp (rCatA K) (tVar 18) (tTup (tCons (tVar 10) tNil))) tNil))))
  (tAsg (tC (.bl true)) (gName 9))))) tNext))))))
  (tRet (tTup (tCons (tVar 6) (tCons (tVar 7) tNil))))))))
theorem pure_spread (vs : List V) (H : Hp) (Q : VK) (E : XK) (h : sp_spread vs H Q E) : t_spread K { nx := fun _ H' => Q .non H', rt := Q } (start N_spread vs) H := by
  obtain ⟨I, many, gv, pa, ba, wa, ga, rfl, ok, hm, hgv, hgl, hP, hB, hW, hG, hQ⟩ := h
  unfold t_spread
  walk_at "go"
  refine ⟨I, many, gv, ga, rfl, ok, hm, hgv, hgl, hG, fun p H1 dn dc num kvs cvs e1 hp hdn hdc ndc hS hgi => ?_⟩
  walk_at "go"
  refine ⟨I, pa, ba, wa, rfl, ok, hP.mono e1.ts, hB.mono e1.ts, hW.mono e1.ts, fun l H2 as e2 hl h2 hr => ?_⟩
  walk_at "go"
  have nl : H l = none := e1.free hl
  have e02 := e1.trans e2
  have ldn : l ≠ dn := (ne_of_none hS.hn hl).symm
  have ldc : l ≠ dc := (ne_of_none hS.hc hl).symm
  refine rd_whileV (fun m gr σ' H' => ∃ (num : Tab) (kvs cvs : List (List Key × V)) (x10 x11 x12 x13 x14 x15 x16 x17 x18 : Option V),
      σ' = [some (.ref pa), some (.int I.cycle), some (.ref ba), some (.ref wa), some (.ref ga), some (.int (many : Nat)), some (.ref dn), some (.ref dc), some (.ref l), some (.bl gr), x10, x11, x12, x13, x14, x15, x16, x17, x18] ∧
      Mid I gv many dn dc l as H H' false num num kvs cvs ∧ (gr = true → m = meas (grid many I.beats.length) num + 1) ∧ (gr = false → m = 0 ∧ ∀ s ∈ I.wait, ∀ t, Clo I many num s t))
    (m0 := meas (grid many I.beats.length) num + 1) ⟨num, kvs, cvs, none, none, none, none, none, none, none, none, none, rfl, ⟨e02, h2, hr, hS.same e2, hgi, Nat.le_refl _, fun z => (by cases z), fun _ => rfl⟩, fun _ => rfl, fun z => (by cases z)⟩ ?_ ?_ ?_
  · rintro m gr σ' H' ⟨num, kvs, cvs, x10, x11, x12, x13, x14, x15, x16, x17, x18, rfl, _⟩
    rfl
  · rintro m σ' H3 ⟨num0, kvs0, cvs0, x10, x11, x12, x13, x14, x15, x16, x17, x18, rfl, M0, hm1, _⟩
    have hm2 := hm1 rfl
    walk_at "go"
    refine rd_forLv (a := l) rfl M0.hl (fun i σ' H' => ∃ (gr : Bool) (num : Tab) (kvs cvs : List (List Key × V)) (x10 x11 x12 x13 x14 x15 x16 x17 x18 : Option V),
      σ' = [some (.ref pa), some (.int I.cycle), some (.ref ba), some (.ref wa), some (.ref ga), some (.int (many : Nat)), some (.ref dn), some (.ref dc), some (.ref l), some (.bl gr), x10, x11, x12, x13, x14, x15, x16, x17, x18] ∧
      Mid I gv many dn dc l as H H' gr num0 num kvs cvs ∧ (gr = false → ∀ s ∈ I.wait.take i, ∀ t, Clo I many num s t))
      ⟨false, num0, kvs0, cvs0, _, _, _, _, _, _, _, _, _, rfl, M0, fun _ s hs => by simp at hs⟩ ?_ ?_ ?_
    · rintro i σ' H' ⟨gr, num, kvs, cvs, _, _, _, _, _, _, _, _, _, _, M, _⟩
      exact M.hl
    · rintro i x σ' H4 hx ⟨gr, num, kvs, cvs, x10, x11, x12, x13, x14, x15, x16, x17, x18, rfl, M, hclo⟩
      obtain ⟨la, hla, rfl⟩ := get_map hx
      have hil : i < I.wait.length := by
        have z := (List.getElem?_eq_some_iff.mp hla).1
        rw [M.hr.len, List.length_map] at z
        exact z
      have hse : I.wait[i]? = some I.wait[i] := List.getElem?_eq_getElem hil
      generalize I.wait[i] = s at hse
      have hsm : s ∈ I.wait := List.mem_of_getElem? hse
      have hsl := ok.wt s hsm
      have hleg : H4 la = some (.tup (legRow I s)) := M.hr.at_ i la _ hla (by rw [List.getElem?_map, hse]; rfl)
      walk_at "go"
      refine rd_forR (n := (many : Int) - (I.step s : Nat)) (fun Q k => by walk_at "go"; exact k) (by omega) ?_ (fun j σ' H' => ∃ (gr : Bool) (num : Tab) (kvs cvs : List (List Key × V)) (x15 x16 x17 x18 : Option V),
        σ' = [some (.ref pa), some (.int I.cycle), some (.ref ba), some (.ref wa), some (.ref ga), some (.int (many : Nat)), some (.ref dn), some (.ref dc), some (.ref l), some (.bl gr), some (.int (s : Nat)), some (.int ((I.sp s).one : Nat)), some (.int ((I.sp s).other : Nat)), some (.int (I.step s : Nat)), some (.int (I.buf s)), x15, x16, x17, x18] ∧
        Mid I gv many dn dc l as H H' gr num0 num kvs cvs ∧ (gr = false → (∀ s ∈ I.wait.take i, ∀ t, Clo I many num s t) ∧ ∀ t, t < j → Clo I many num s t))
        ⟨gr, num, kvs, cvs, _, _, _, _, rfl, M, fun z => ⟨hclo z, fun t ht => absurd ht (Nat.not_lt_zero _)⟩⟩ ?_ ?_
      · have := Inst.stepTop ok hsl
        omega
      · rintro t σ' H5 ht ⟨gr, num, kvs, cvs, x15, x16, x17, x18, rfl, M, hclo⟩
        have hts : t + I.step s < many := by omega
        have hb0 := Inst.buf0 ok s
        have how := ok.so s hsl
        have htw := ok.st s hsl
        have ecast : ((t : Nat) : Int) + ((I.step s : Nat) : Int) = ((t + I.step s : Nat) : Int) := rfl
        walk_at "go"
        refine rd_get (v := .int (num t (I.sp s).one)) rfl (.inl M.sp.hn) (fun H1 QA kk => by walk_at "go"; exact kk) (M.sp.gt _ _) fun H6 e6 => ?_
        have M6 := M.same e6
        walk_at "go"
        refine rd_get (m := ((t + I.step s : Nat) : Int)) (v := .int (num (t + I.step s) (I.sp s).other)) rfl (.inl M6.sp.hn) (fun H1 QA kk => by walk_at "go"; exact kk) (M6.sp.gt _ _) fun H7 e7 => ?_
        have M7 := M6.same e7
        walk_at "go"
        refine iteb (fun hb => ?_) (fun hb => ?_)
        · have hlt := of_decide_eq_true hb
          have hn0 := M7.sp.nn (t + I.step s) (I.sp s).other
          obtain ⟨cp, cq, g, row, c1, c2, c3, c4⟩ := M7.sp.ch t (I.sp s).one (by omega)
          have hrow := c4.short
          have hmw : many * I.beats.length ≤ 12 * 8 := Nat.mul_le_mul hm ok.w1
          obtain ⟨z1, z2⟩ := M7.sp.small ok hm
          walk_at "go"
          refine rd_dget rfl (.inl M7.sp.hc) (fun H1 QA kk => by walk_at "go"; exact kk) c1 fun H8 e8 => ?_
          have M8 := M7.same e8
          have c2' := e8 _ _ c2
          have c3' := e8 _ _ c3
          walk_at "go"
          refine rd_put (m := ((t + I.step s : Nat) : Int)) rfl (fun H1 QA kk => by walk_at "go"; exact kk) M8.sp.hn z1 fun H9 e9 h9 => ?_
          walk_at "go"
          have t89 : Tst H8 H9 := e9.ts1 M8.sp.hn (by intro _ z; cases z)
          refine newT (fun sq H10 hsq e10 h10 => ?_) rfl
          refine rd_catT (e10 _ _ (t89 _ _ c3')) h10 (by simp; omega) fun nq H11 e11 h11 => ?_
          walk_at "go"
          refine newT (fun np H12 hnp e12 h12 => ?_) rfl
          have hdc9 : H9 dc = some (.dT cvs) := e9 _ _ (by simpa using Ne.symm ndc) M8.sp.hc
          have e912 := (e10.trans e11).trans e12
          refine rd_put (m := ((t + I.step s : Nat) : Int)) rfl (fun H1 QA kk => by walk_at "go"; exact kk) (e912 _ _ hdc9) z2 fun H13 e13 h13 => ?_
          walk_at "go"
          have t1213 : Tst H12 H13 := e13.ts1 (e912 _ _ hdc9) (by intro _ z; cases z)
          have t813 : Tst H8 H13 := (t89.trans e912.ts).trans t1213
          have h13n : H13 dn = some (.dT (putK kvs (ky ((t + I.step s : Nat) : Int) (I.sp s).other) (.int (num t (I.sp s).one - I.buf s)))) := e13 _ _ (by simpa using ndc) (e912 _ _ h9)
          have s09 : Same H H9 := SameX.out M8.e e9 (fun l hl => by rw [List.mem_singleton.mp hl]; exact hdn)
          have s013 : Same H H13 := SameX.out (s09.trans e912) e13 (fun l hl => by rw [List.mem_singleton.mp hl]; exact hdc)
          have hl13 : H13 l = some (.lst (as.map V.ref)) := e13 _ _ (by simpa using ldc) (e912 _ _ (e9 _ _ (by simpa using ldn) M8.hl))
          have mono : ∀ t' w', num t' w' ≤ setT num (t + I.step s) (I.sp s).other (num t (I.sp s).one - I.buf s) t' w' := fun t' w' => by
            by_cases e : t' = t + I.step s ∧ w' = (I.sp s).other
            · rw [e.1, e.2, setT_same]; omega
            · rw [setT_other e]; omega
          have hle : ∀ N', Feas I gv many N' → num t (I.sp s).one - I.buf s ≤ N' (t + I.step s) (I.sp s).other := fun N' f => by
            have q1 := f.lg s hsm t hts
            have q2 := M8.sp.le N' f t (I.sp s).one
            omega
          have hch := ChainOk.more ok hsm c4 hts hlt mono setT_same
          have hS13 := M8.sp.put (row := row ++ [s]) t813 h13n h13 (t1213 _ _ h12) (t1213 _ _ (e12 _ _ (by rw [show rowV (row ++ [s]) = rowV row ++ [V.int (s : Nat)] by simp [rowV]]; exact h11))) hts htw hlt hch hle
          have hmlt : meas (grid many I.beats.length) (setT num (t + I.step s) (I.sp s).other (num t (I.sp s).one - I.buf s)) < meas (grid many I.beats.length) num :=
            meas_lt (q := (t + I.step s, (I.sp s).other)) _ (fun p _ => mono p.1 p.2) (mem_grid.mpr ⟨hts, htw⟩) (by show num _ _ < setT num _ _ _ _ _; rw [setT_same]; exact hlt) (hS13.le _ (feas_const ok hgv) _ _)
          refine ⟨true, _, _, _, _, _, _, _, rfl, ⟨s013, hl13, M8.hr.mono t813, hS13, fun g' hg' => ?_, ?_, fun _ => ?_, fun z => (by cases z)⟩, fun z => (by cases z)⟩
          · have q1 := M8.gi g' hg'
            have q2 := mono g'.2.1 g'.1
            omega
          · have := M8.le
            omega
          · have := M8.le
            omega
        · have hge := of_decide_eq_false hb
          walk_at "go"
          refine ⟨gr, num, kvs, cvs, _, _, _, _, rfl, M7, fun z => ⟨(hclo z).1, fun t' ht' => ?_⟩⟩
          by_cases e : t' = t
          · subst e
            intro _
            omega
          · exact (hclo z).2 t' (by omega)
      · rintro σ' H5 ⟨gr, num, kvs, cvs, x15, x16, x17, x18, rfl, M, hclo⟩
        refine ⟨gr, num, kvs, cvs, _, _, _, _, _, _, _, _, _, rfl, M, fun z s' hs' t => ?_⟩
        rw [take_snoc hse] at hs'
        rcases List.mem_append.mp hs' with hs' | hs'
        · exact (hclo z).1 s' hs' t
        · rw [List.mem_singleton.mp hs']
          intro ht
          exact (hclo z).2 t (by omega) ht
    · rintro σ' H4 ⟨gr, num, kvs, cvs, x10, x11, x12, x13, x14, x15, x16, x17, x18, rfl, M, hclo⟩
      have hlen : as.length = I.wait.length := by rw [M.hr.len, List.length_map]
      rw [List.length_map, hlen, List.take_length] at hclo
      cases gr with
      | true => exact ⟨meas (grid many I.beats.length) num + 1, true, by have := M.yes rfl; omega, num, kvs, cvs, _, _, _, _, _, _, _, _, _, rfl, ⟨M.e, M.hl, M.hr, M.sp, M.gi, Nat.le_refl _, fun z => (by cases z), fun _ => rfl⟩, fun _ => rfl, fun z => (by cases z)⟩
      | false => exact ⟨0, false, by omega, num, kvs, cvs, _, _, _, _, _, _, _, _, _, rfl, ⟨M.e, M.hl, M.hr, M.sp, M.gi, Nat.le_refl _, fun z => (by cases z), fun _ => rfl⟩, fun z => (by cases z), fun _ => ⟨rfl, hclo rfl⟩⟩
  · rintro m σ' H3 ⟨num, kvs, cvs, x10, x11, x12, x13, x14, x15, x16, x17, x18, rfl, M, _, hf⟩
    walk_at "go"
    refine newT (fun p H4 hp e4 h4 => ?_) rfl
    exact hQ p H4 dn dc num kvs cvs (M.e.trans e4) h4 (M.sp.same e4) ⟨⟨M.sp.nn, M.gi, fun s hs t ht => (hf rfl).2 s hs t ht⟩, M.sp.le⟩
theorem ok_spread (T : Txt K mg) : Cal P w K mg base CX0 "spread" 4 ["plan", "cycle", "beats", "waiting", "given", "many"] sp_spread := by
  have C_begun := ok_begun (P := P) (w := w) (base := base) T
  have C_legs_of := ok_legs_of (P := P) (w := w) (base := base) T
  refine Cal.of (i := 7) T (List.mem_of_getElem? (i := 6) rfl) (in_fa 5 rfl) sc_spread (fun vs H Q E h => ?_) (fun _ _ _ _ _ _ us hl => match us, hl with | [_, _, _, _, _, _], _ => rfl) (fun cdv A outer s H vs Q E hr h => ⟨t_spread K, PSs.nox ?_, pure_spread vs H Q E h⟩)
  · obtain ⟨I, many, gv, pa, ba, wa, ga, rfl, _⟩ := h
    rfl
  · exact (pss_cons (ps_asg (pe_cal C_begun (hr.mono (by decide)) pass0 (pa_cons (pv 4) pa_nil)) (pg_tup rfl (pgs_cons (pg_name (i := 6) sc_spread.nd rfl (by first | exact Or.inl rfl | exact Or.inr rfl)) (pgs_cons (pg_name (i := 7) sc_spread.nd rfl (by first | exact Or.inl rfl | exact Or.inr rfl)) pgs_nil))))
  (pss_cons (ps_set (i := 8) sc_spread.nd rfl (by first | exact Or.inl rfl | exact Or.inr rfl) (pe_cal C_legs_of (hr.mono (by decide)) pass0 (pa_cons (pv 0) (pa_cons (pv 1) (pa_cons (pv 2) (pa_cons (pv 3) pa_nil))))))
  (pss_cons (ps_set (i := 9) sc_spread.nd rfl (by first | exact Or.inl rfl | exact Or.inr rfl) pe_bl)
  (pss_cons (ps_while PassesOwn.never (pt_val (pv 9)) (pss_cons (ps_set (i := 9) sc_spread.nd rfl (by first | exact Or.inl rfl | exact Or.inr rfl) pe_bl)
  (pss_one (ps_for PassesOwn.never rfl (pi_list (pv 8)) (pg_tup rfl (pgs_cons (pg_name (i := 10) sc_spread.nd rfl (by first | exact Or.inl rfl | exact Or.inr rfl)) (pgs_cons (pg_name (i := 11) sc_spread.nd rfl (by first | exact Or.inl rfl | exact Or.inr rfl)) (pgs_cons (pg_name (i := 12) sc_spread.nd rfl (by first | exact Or.inl rfl | exact Or.inr rfl)) (pgs_cons (pg_name (i := 13) sc_spread.nd rfl (by first | exact Or.inl rfl | exact Or.inr rfl)) (pgs_cons (pg_name (i := 14) sc_spread.nd rfl (by first | exact Or.inl rfl | exact Or.inr rfl)) pgs_nil)))))) (pss_one (ps_for PassesOwn.never rfl (pi_range1 rfl T.range (pa_cons (pe_op op_sub (pv 5) (pv 13)) pa_nil)) (pg_name (i := 15) sc_spread.nd rfl (by first | exact Or.inl rfl | exact Or.inr rfl)) (pss_cons (ps_set (i := 16) sc_spread.nd rfl (by first | exact Or.inl rfl | exact Or.inr rfl) (pe_op op_sub (pe_dget2 (hu_of hr) (pv 6) (pe_tup (pa_cons (pv 15) (pa_cons (pv 11) pa_nil))) pe_int ⟨rfl, rfl, rfl, rfl⟩) (pv 14)))
  (pss_one (ps_if (pt_cmpR op_gt (pv 16) (pe_dget2 (hu_of hr) (pv 6) (pe_tup (pa_cons (pe_op op_add (pv 15) (pv 13)) (pa_cons (pv 12) pa_nil))) pe_int ⟨rfl, rfl, rfl, rfl⟩) (nomark _)) (pss_cons (ps_asg (pe_dget (hu_of hr) (pv 7) (pe_tup (pa_cons (pv 15) (pa_cons (pv 11) pa_nil))) (fun _ _ => rfl)) (pg_tup rfl (pgs_cons (pg_name (i := 17) sc_spread.nd rfl (by first | exact Or.inl rfl | exact Or.inr rfl)) (pgs_cons (pg_name (i := 18) sc_spread.nd rfl (by first | exact Or.inl rfl | exact Or.inr rfl)) pgs_nil))))
  (pss_cons (ps_dput (hu_of hr) (pv 6) (pe_tup (pa_cons (pe_op op_add (pv 15) (pv 13)) (pa_cons (pv 12) pa_nil))) (pv 16) rfl)
  (pss_cons (ps_dput (hu_of hr) (pv 7) (pe_tup (pa_cons (pe_op op_add (pv 15) (pv 13)) (pa_cons (pv 12) pa_nil))) (pe_tup (pa_cons (pv 17) (pa_cons (pe_op op_catA (pv 18) (pe_tup (pa_cons (pv 10) pa_nil))) pa_nil))) rfl)
  (pss_one (ps_set (i := 9) sc_spread.nd rfl (by first | exact Or.inl rfl | exact Or.inr rfl) pe_bl))))) pss_nil)))))))))
  (pss_one (ps_ret (pe_tup (pa_cons (pv 6) (pa_cons (pv 7) pa_nil)))))))))
end
end Bp

namespace Bp
open PySem PyProof.Rows L2 PySem.Spec
local macro_rules | `(tactic| walk_at "side") => `(tactic| first | assumption | omega | decide)
local macro_rules | `(tactic| walk_at "carry") => `(tactic| first | assumption | (refine Same.get (by assumption) ?_; walk_at "carry"))
local macro_rules | `(tactic| walk_at "tst") => `(tactic| first | exact Same.ts (by assumption) | exact SameX.ts1 (by assumption) (by assumption) (by intro _ z; cases z))
local macro_rules | `(tactic| walk_at "dat") => `(tactic| first | assumption | (with_reducible refine PlanA.mono (by walk_at "tst") ?_; walk_at "dat") | (with_reducible refine BeatsA.mono (by walk_at "tst") ?_; walk_at "dat") | (with_reducible refine WaitA.mono (by walk_at "tst") ?_; walk_at "dat") | (with_reducible refine GivenA.mono (by walk_at "tst") ?_; walk_at "dat") | (with_reducible refine TableA.mono (by walk_at "tst") ?_; walk_at "dat"))
local macro_rules | `(tactic| walk_at "at") => `(tactic| first | exact rfl | assumption | exact at_beat (by assumption) | exact at_tab (by assumption) | exact at_map (by assumption))
local macro_rules | `(tactic| walk_at "go1") => `(tactic| first
  | with_reducible refine rd_seq ?_
  | with_reducible refine rd_asg ?_
  | with_reducible refine rd_ret ?_
  | with_reducible refine rd_drop ?_
  | ((with_reducible refine' rd_var ?x1 ?x2); (case x1 => exact rfl))
  | with_reducible refine rd_c ?_
  | with_reducible refine rd_op ?_
  | with_reducible refine rd_un ?_
  | with_reducible refine rd_name ?_
  | with_reducible refine rd_I0 ?_
  | with_reducible refine rd_gcons ?_
  | with_reducible refine rd_gnil ?_
  | with_reducible refine rd_test ?_
  | with_reducible refine rd_B ?_
  | with_reducible refine rd_bl ?_
  | with_reducible refine rd_anil ?_
  | with_reducible refine rd_acons ?_
  | with_reducible refine rd_tup ?_
  | with_reducible refine rd_lst ?_
  | with_reducible refine rd_sdput ?_
  | with_reducible refine rd_call1 ?_
  | with_reducible refine rd_cb ?_
  | with_reducible refine rd_ifS ?_
  | with_reducible refine rd_next ?_
  | ((with_reducible refine' rd_I ?x1 ?x2); (case x1 => walk_at "side"))
  | ((with_reducible refine' rd_ixT ?x1 ?x2 ?x3); (case x1 => walk_at "carry"); (case x2 => walk_at "at"))
  | ((with_reducible refine' rd_lenT ?x1 ?x2); (case x1 => walk_at "carry"))
  | ((with_reducible refine' rd_lenL ?x1 ?x2); (case x1 => walk_at "carry"))
  | with_reducible refine rd_max2 ?_
  | with_reducible refine rd_isiI ?_
  | with_reducible refine rd_isiB ?_
  | ((with_reducible refine' rd_isiT ?x1 ?x2); (case x1 => walk_at "carry"))
  | with_reducible refine ite_yes ?_
  | with_reducible refine ite_no ?_
  | with_reducible refine ite_nf ?_
  | with_reducible refine ite_nt ?_
  | with_reducible refine rd_andV ?_
  | with_reducible refine rd_orV ?_
  | with_reducible refine rd_notV ?_
  | with_reducible refine rd_and ?_
  | with_reducible refine rd_or ?_
  | with_reducible refine rd_not ?_
  | with_reducible refine rd_eq rfl ?_
  | with_reducible refine rd_ne rfl ?_
  | ((with_reducible refine' rd_gtup ?x1 ?x2 ?x3); (case x1 => walk_at "carry"); (case x2 => exact rfl)))
local macro_rules | `(tactic| walk_at "go") => `(tactic| repeat walk_at "go1")
section
variable {K : PySem.W.Frag} {P : Program} {w : World} {mg : Str → Option Value} {base : Heap}
/-! ### lateness_of -/
def sp_lateness_of : Sp := fun vs H Q _ => ∃ (I : Inst) (many : Nat) (gv : List Gv) (pa ba wa ga : Addr), vs = [.ref pa, .int I.cycle, .ref ba, .ref wa, .ref ga, .int (many : Nat)] ∧ I.Ok ∧ many ≤ 12 ∧ GvOk I many gv ∧ gv.length ≤ 12 ∧ PlanA H I pa ∧ BeatsA H I ba ∧ WaitA H I wa ∧ GivenA H gv ga ∧
  ∀ r H' N, Same H H' → TableA H' many I.beats.length N r → Least I gv many N → Q (.ref r) H'
abbrev N_lateness_of : List Str := ["plan", "cycle", "beats", "waiting", "given", "many", "numbers", "chains", "table", "turn", "work"]
theorem sc_lateness_of : FnScope N_lateness_of ["plan", "cycle", "beats", "waiting", "given", "many"] (defScope (top 8)) := ⟨rfl, rfl, rfl, by decide +kernel, rfl, by decide +kernel, by decide +kernel⟩
def t_lateness_of (K : PySem.W.Frag) : TS :=
  (tSeq (tAsg (tCall sp_spread [] E0 (tCons (tVar 0) (tCons (tVar 1) (tCons (tVar 2) (tCons (tVar 3) (tCons (tVar 4) (tCons (tVar 5) tNil))))))) (gTup K 2 (gCons (gName 6) (gCons (gName 7) gNil))))
  (tSeq (tAsg (tLst tNil) (gName 8))
  (tSeq (tFor (iRng1 (tCons (tVar 5) tNil)) (gName 9) (tDrop (tBM K "list" rAppend (tVar 8) (tCons (tCB (rTupOf K) (tCons (tLc (iRng1 (tCons (tCB (rLenS K) (tCons (tOp (rIxT K) (tVar 0) (tC (.int 0))) tNil)) tNil)) (gName 10) tYes (tDGet2 (tVar 6) (tTup (tCons (tVar 9) (tCons (tVar 10) tNil))) (tC (.int 0))) [10]) tNil)) tNil))))
  (tRet (tCB (rTupOf K) (tCons (tVar 8) tNil))))))
theorem pure_lateness_of (vs : List V) (H : Hp) (Q : VK) (E : XK) (h : sp_lateness_of vs H Q E) : t_lateness_of K { nx := fun _ H' => Q .non H', rt := Q } (start N_lateness_of vs) H := by
  obtain ⟨I, many, gv, pa, ba, wa, ga, rfl, ok, hm, hgv, hgl, hP, hB, hW, hG, hQ⟩ := h
  unfold t_lateness_of
  walk_at "go"
  refine ⟨I, many, gv, pa, ba, wa, ga, rfl, ok, hm, hgv, hgl, hP, hB, hW, hG, fun p H1 dn dc num kvs cvs e1 hp hS hL => ?_⟩
  walk_at "go"
  refine newL (fun l H2 hl e2 h2 => ?_) rfl
  walk_at "go"
  have nl : H l = none := e1.free hl
  have hS2 := hS.same e2
  refine rd_forR (n := (many : Nat)) (fun Q k => by walk_at "go"; exact k) (by omega) (by omega) (fun i σ' H' => ∃ (as : List Addr) (x9 x10 : Option V), σ' = [some (.ref pa), some (.int I.cycle), some (.ref ba), some (.ref wa), some (.ref ga), some (.int (many : Nat)), some (.ref dn), some (.ref dc), some (.ref l), x9, x10] ∧ Same H H' ∧ H' dn = some (.dT kvs) ∧
      H' l = some (.lst (as.map V.ref)) ∧ Rows H' as ((List.range i).map fun t => tabRow I.beats.length num t)) ⟨[], none, none, rfl, e1.trans e2, hS2.hn, h2, Rows.nil⟩ ?_ ?_
  · rintro t σ' H3 ht ⟨as, x9, x10, rfl, e3, h3n, h3, hr⟩
    obtain ⟨b, c, q1, q2, q3⟩ := (hP.mono e3.ts).ex
    have hln : as.length = t := by rw [hr.len, List.length_map, List.length_range]
    walk_at "go"
    refine rd_append rfl h3 ?_
    walk_at "go"
    refine rd_lcR (fun i => .int (num t i)) (n := (I.beats.length : Nat)) (fun Q k => by
      walk_at "go"
      rw [List.length_map, ok.nb]
      exact k) (by have := ok.w1; omega) (by omega) (fun x => rfl) (fun i H4 hi e4 Q k => ?_) fun cl H4 hcl e4 h4 => ?_
    · refine rd_get (v := .int (num t i)) rfl (.inl (e4 _ _ h3n)) (fun H1 QA kk => by walk_at "go"; exact kk) (hS.gt t i) fun H5 e5 => ?_
      exact k H5 e5
    · walk_at "go"
      refine rd_tupOf h4 fun tp H5 htp e5 h5 => ?_
      walk_at "go"
      refine rd_app (e5 _ _ (e4 _ _ h3)) (by rw [List.length_map]; omega) fun H6 e6 h6 => ?_
      have e35 := e4.trans e5
      have hl5 := e35 _ _ h3
      have t56 : Tst H5 H6 := e6.ts1 hl5 (by intro _ z; cases z)
      refine ⟨as ++ [tp], _, _, rfl, SameX.out (e3.trans e35) e6 (fun z hz => by rw [List.mem_singleton.mp hz]; exact nl), e6.get1 hl5 (e35 _ _ h3n) (by intro z; cases z), by rw [h6, List.map_append]; rfl, ?_⟩
      rw [List.range_succ, List.map_append]
      refine ((hr.mono e35.ts).mono t56).snoc (t56 _ _ ?_)
      rw [h5]
      simp [tabRow]
  · rintro σ' H3 ⟨as, x9, x10, rfl, e3, h3n, h3, hr⟩
    walk_at "go"
    refine rd_tupOf h3 fun tp H4 htp e4 h4 => ?_
    refine hQ tp H4 num (e3.trans e4) ⟨as, h4, hr.mono e4.ts⟩ hL
theorem ok_lateness_of (T : Txt K mg) : Cal P w K mg base CX0 "lateness_of" 5 ["plan", "cycle", "beats", "waiting", "given", "many"] sp_lateness_of := by
  have C_spread := ok_spread (P := P) (w := w) (base := base) T
  refine Cal.of (i := 8) T (List.mem_of_getElem? (i := 7) rfl) (in_fa 6 rfl) sc_lateness_of (fun vs H Q E h => ?_) (fun _ _ _ _ _ _ us hl => match us, hl with | [_, _, _, _, _, _], _ => rfl) (fun cdv A outer s H vs Q E hr h => ⟨t_lateness_of K, PSs.nox ?_, pure_lateness_of vs H Q E h⟩)
  · obtain ⟨I, many, gv, pa, ba, wa, ga, rfl, _⟩ := h
    rfl
  · exact (pss_cons (ps_asg (pe_cal C_spread (hr.mono (by decide)) pass0 (pa_cons (pv 0) (pa_cons (pv 1) (pa_cons (pv 2) (pa_cons (pv 3) (pa_cons (pv 4) (pa_cons (pv 5) pa_nil))))))) (pg_tup rfl (pgs_cons (pg_name (i := 6) sc_lateness_of.nd rfl (by first | exact Or.inl rfl | exact Or.inr rfl)) (pgs_cons (pg_name (i := 7) sc_lateness_of.nd rfl (by first | exact Or.inl rfl | exact Or.inr rfl)) pgs_nil))))
  (pss_cons (ps_set (i := 8) sc_lateness_of.nd rfl (by first | exact Or.inl rfl | exact Or.inr rfl) (pe_lst pa_nil))
  (pss_cons (ps_for PassesOwn.never rfl (pi_range1 rfl T.range (pa_cons (pv 5) pa_nil)) (pg_name (i := 9) sc_lateness_of.nd rfl (by first | exact Or.inl rfl | exact Or.inr rfl)) (pss_one (ps_expr (pe_bm PySem.F.plainAttrs_list PySem.F.slot_list_append PySem.F.type_list_append mt_append (pv 8) (pa_cons (pe_callTy call_tuple_of (by rfl) T.tuple (by decide +kernel) (pa_cons (pe_lc (own := [("work", 10)]) (g := (gName 10)) (tt := tYes) rfl sc_lateness_of.nd (pi_range1 rfl T.range (pa_cons (pe_callB call_len_seq (by rfl) T.len PySem.boot_len (pa_cons (pe_ix ix_tup (pv 0) pe_int (fun _ _ => rfl)) pa_nil)) pa_nil)) (blkOk_by (own := [("work", 10)]) (N := N_lateness_of) (sc := defScope (top 8)) (by decide +kernel)) (fun _ _ _ _ _ => (pg_name (i := 10) sc_lateness_of.nd rfl (by first | exact Or.inl rfl | exact Or.inr rfl))) (fun _ _ _ _ _ => pts_nil) (fun _ _ _ _ _ => (pe_dget2 (hu_of hr) (pv 6) (pe_tup (pa_cons (pv 9) (pa_cons (pv 10) pa_nil))) pe_int ⟨rfl, rfl, rfl, rfl⟩))) pa_nil)) pa_nil)))))
  (pss_one (ps_ret (pe_callTy call_tuple_of (by rfl) T.tuple (by decide +kernel) (pa_cons (pv 8) pa_nil)))))))
end
end Bp

namespace Bp
open PySem PyProof.Rows L2 PySem.Spec
local macro_rules | `(tactic| walk_at "side") => `(tactic| first | assumption | omega | decide)
local macro_rules | `(tactic| walk_at "carry") => `(tactic| first | assumption | (refine Same.get (by assumption) ?_; walk_at "carry"))
local macro_rules | `(tactic| walk_at "tst") => `(tactic| first | exact Same.ts (by assumption) | exact SameX.ts1 (by assumption) (by assumption) (by intro _ z; cases z))
local macro_rules | `(tactic| walk_at "dat") => `(tactic| first | assumption | (with_reducible refine PlanA.mono (by walk_at "tst") ?_; walk_at "dat") | (with_reducible refine BeatsA.mono (by walk_at "tst") ?_; walk_at "dat") | (with_reducible refine WaitA.mono (by walk_at "tst") ?_; walk_at "dat") | (with_reducible refine GivenA.mono (by walk_at "tst") ?_; walk_at "dat") | (with_reducible refine TableA.mono (by walk_at "tst") ?_; walk_at "dat"))
local macro_rules | `(tactic| walk_at "at") => `(tactic| first | exact rfl | assumption | exact at_beat (by assumption) | exact at_tab (by assumption) | exact at_map (by assumption))
local macro_rules | `(tactic| walk_at "go1") => `(tactic| first
  | with_reducible refine rd_seq ?_
  | with_reducible refine rd_asg ?_
  | with_reducible refine rd_ret ?_
  | with_reducible refine rd_drop ?_
  | ((with_reducible refine' rd_var ?x1 ?x2); (case x1 => exact rfl))
  | with_reducible refine rd_c ?_
  | with_reducible refine rd_op ?_
  | with_reducible refine rd_un ?_
  | with_reducible refine rd_name ?_
  | with_reducible refine rd_I0 ?_
  | with_reducible refine rd_gcons ?_
  | with_reducible refine rd_gnil ?_
  | with_reducible refine rd_test ?_
  | with_reducible refine rd_B ?_
  | with_reducible refine rd_bl ?_
  | with_reducible refine rd_anil ?_
  | with_reducible refine rd_acons ?_
  | with_reducible refine rd_tup ?_
  | with_reducible refine rd_lst ?_
  | with_reducible refine rd_sdput ?_
  | with_reducible refine rd_call1 ?_
  | with_reducible refine rd_cb ?_
  | with_reducible refine rd_ifS ?_
  | with_reducible refine rd_next ?_
  | ((with_reducible refine' rd_I ?x1 ?x2); (case x1 => walk_at "side"))
  | ((with_reducible refine' rd_ixT ?x1 ?x2 ?x3); (case x1 => walk_at "carry"); (case x2 => walk_at "at"))
  | ((with_reducible refine' rd_lenT ?x1 ?x2); (case x1 => walk_at "carry"))
  | ((with_reducible refine' rd_lenL ?x1 ?x2); (case x1 => walk_at "carry"))
  | with_reducible refine rd_max2 ?_
  | with_reducible refine rd_isiI ?_
  | with_reducible refine rd_isiB ?_
  | ((with_reducible refine' rd_isiT ?x1 ?x2); (case x1 => walk_at "carry"))
  | with_reducible refine ite_yes ?_
  | with_reducible refine ite_no ?_
  | with_reducible refine ite_nf ?_
  | with_reducible refine ite_nt ?_
  | with_reducible refine rd_andV ?_
  | with_reducible refine rd_orV ?_
  | with_reducible refine rd_notV ?_
  | with_reducible refine rd_and ?_
  | with_reducible refine rd_or ?_
  | with_reducible refine rd_not ?_
  | with_reducible refine rd_eq rfl ?_
  | with_reducible refine rd_ne rfl ?_
  | ((with_reducible refine' rd_gtup ?x1 ?x2 ?x3); (case x1 => walk_at "carry"); (case x2 => exact rfl)))
local macro_rules | `(tactic| walk_at "go") => `(tactic| repeat walk_at "go1")
section
variable {K : PySem.W.Frag} {P : Program} {w : World} {mg : Str → Option Value} {base : Heap}
/-! ### is_number -/
def sp_is_number : Sp := fun vs H Q _ => ∃ n : Int, vs = [.int n] ∧ Q (.bl (decide (0 ≤ n))) H
abbrev N_is_number : List Str := ["thing"]
theorem sc_is_number : FnScope N_is_number ["thing"] (defScope (top 15)) := ⟨rfl, rfl, rfl, by decide +kernel, rfl, by decide +kernel, by decide +kernel⟩
def t_is_number (K : PySem.W.Frag) : TS :=
  (tRet (tAndV (tCB (rIsi K) (tCons (tVar 0) (tCons (tC (.ty "int")) tNil))) (tAndV (tNotV (tCB (rIsi K) (tCons (tVar 0) (tCons (tC (.ty "bool")) tNil)))) (tOp rGeI (tVar 0) (tC (.int 0))))))
theorem pure_is_number (vs : List V) (H : Hp) (Q : VK) (E : XK) (h : sp_is_number vs H Q E) : t_is_number K { nx := fun _ H' => Q .non H', rt := Q } (start N_is_number vs) H := by
  obtain ⟨n, rfl, hQ⟩ := h
  unfold t_is_number
  walk_at "go"
  exact hQ
theorem ok_is_number (T : Txt K mg) : Cal P w K mg base CX0 "is_number" 1 ["thing"] sp_is_number := by
  refine Cal.of (i := 15) T (List.mem_of_getElem? (i := 9) rfl) (in_fa 8 rfl) sc_is_number (fun vs H Q E h => ?_) (fun _ _ _ _ _ _ us hl => match us, hl with | [_], _ => rfl) (fun cdv A outer s H vs Q E hr h => ⟨t_is_number K, PSs.nox ?_, pure_is_number vs H Q E h⟩)
  · obtain ⟨n, rfl, _⟩ := h
    rfl
  · exact (pss_one (ps_ret (pe_and (pe_callB call_isi (by rfl) T.isinstance (by decide +kernel) (pa_cons (pv 0) (pa_cons (pe_bltn (by rfl) T.int (by decide +kernel) rfl) pa_nil))) (pe_and (pe_not (pe_callB call_isi (by rfl) T.isinstance (by decide +kernel) (pa_cons (pv 0) (pa_cons (pe_bltn (by rfl) T.bool (by decide +kernel) rfl) pa_nil)))) (pe_one (pe_cmpR op_ge (pv 0) pe_int (nomark _)))))))
theorem use_is_number {H : Hp} {Q : VK} {E : XK} {n : Int} (q : Q (.bl (decide (0 ≤ n))) H) : sp_is_number [.int n] H Q E := ⟨n, rfl, q⟩
local macro_rules | `(tactic| walk_at "go1") => `(tactic| with_reducible refine use_is_number ?_)
/-! ### is_turn -/
def sp_is_turn : Sp := fun vs H Q _ => ∃ (works : Nat) (T : Tab) (t : Nat) (a : Addr), vs = [.int (works : Nat), .ref a] ∧ works ≤ 1000 ∧ H a = some (.tup (tabRow works T t)) ∧ ∀ b H', Same H H' → (b = true ↔ ∀ w, w < works → 0 ≤ T t w) → Q (.bl b) H'
abbrev N_is_turn : List Str := ["works", "thing", "one"]
theorem sc_is_turn : FnScope N_is_turn ["works", "thing"] (defScope (top 16)) := ⟨rfl, rfl, rfl, by decide +kernel, rfl, by decide +kernel, by decide +kernel⟩
def t_is_turn (K : PySem.W.Frag) : TS :=
  (tRet (tAndV (tCB (rIsi K) (tCons (tVar 1) (tCons (tC (.ty "tuple")) tNil))) (tAndV (tOp rEq (tCB (rLenS K) (tCons (tVar 1) tNil)) (tVar 0)) (tCB (rAll K) (tCons (tLc (iTup K (tVar 1)) (gName 2) tYes (tCall sp_is_number [] E0 (tCons (tVar 2) tNil)) [2]) tNil)))))
theorem pure_is_turn (vs : List V) (H : Hp) (Q : VK) (E : XK) (h : sp_is_turn vs H Q E) : t_is_turn K { nx := fun _ H' => Q .non H', rt := Q } (start N_is_turn vs) H := by
  obtain ⟨works, T, t, a, rfl, hwk, hx, hQ⟩ := h
  have hln : (tabRow works T t).length = works := by simp [tabRow]
  unfold t_is_turn
  walk_at "go"
  refine iteb (fun hb => ?_) (fun hb => ?_)
  · walk_at "go"
    refine rd_lcT (fun c => .bl (decide (0 ≤ T t c))) rfl hx (by rw [hln]; omega) (fun x => rfl) (fun c x H1 hc e1 Q k => ?_) fun p H1 hp e1 h1 => ?_
    · obtain ⟨y, hy, rfl⟩ := get_map hc
      obtain rfl : c = y := by
        have z := List.getElem?_eq_some_iff.mp hy
        obtain ⟨z1, z2⟩ := z
        simpa using z2
      walk_at "go"
      exact k H1 (Same.refl H1)
    · walk_at "go"
      have e : ((List.range (tabRow works T t).length).map fun c => V.bl (decide (0 ≤ T t c))) = ((List.range works).map fun c => decide (0 ≤ T t c)).map V.bl := by
        rw [hln, List.map_map]
        rfl
      rw [e] at h1
      refine rd_all h1 ?_
      refine hQ _ H1 e1 ?_
      rw [List.all_map, List.all_eq_true]
      constructor
      · intro z v hv
        exact of_decide_eq_true (z v (List.mem_range.mpr hv))
      · intro z v hv
        exact decide_eq_true (z v (List.mem_range.mp hv))
  · exfalso
    rw [hln] at hb
    exact absurd rfl (of_decide_eq_false hb)
theorem ok_is_turn (T : Txt K mg) : Cal P w K mg base CX0 "is_turn" 2 ["works", "thing"] sp_is_turn := by
  have C_is_number := ok_is_number (P := P) (w := w) (base := base) T
  refine Cal.of (i := 16) T (List.mem_of_getElem? (i := 10) rfl) (in_fa 9 rfl) sc_is_turn (fun vs H Q E h => ?_) (fun _ _ _ _ _ _ us hl => match us, hl with | [_, _], _ => rfl) (fun cdv A outer s H vs Q E hr h => ⟨t_is_turn K, PSs.nox ?_, pure_is_turn vs H Q E h⟩)
  · obtain ⟨works, T, t, a, rfl, _⟩ := h
    rfl
  · exact (pss_one (ps_ret (pe_and (pe_callB call_isi (by rfl) T.isinstance (by decide +kernel) (pa_cons (pv 1) (pa_cons (pe_bltn (by rfl) T.tuple (by decide +kernel) rfl) pa_nil))) (pe_and (pe_cmpR op_eq (pe_callB call_len_seq (by rfl) T.len PySem.boot_len (pa_cons (pv 1) pa_nil)) (pv 0) (nomark _)) (pe_one (pe_callB (cr_all rfl) (by rfl) T.all (by decide +kernel) (pa_cons (pe_lc (own := [("one", 2)]) (g := (gName 2)) (tt := tYes) rfl sc_is_turn.nd (pi_tup (pv 1)) (blkOk_by (own := [("one", 2)]) (N := N_is_turn) (sc := defScope (top 16)) (by decide +kernel)) (fun _ _ _ _ _ => (pg_name (i := 2) sc_is_turn.nd rfl (by first | exact Or.inl rfl | exact Or.inr rfl))) (fun _ _ _ _ _ => pts_nil) (fun _ _ _ _ _ => (pe_cal C_is_number (hr.mono (by decide)) pass0 (pa_cons (pv 2) pa_nil)))) pa_nil)))))))
/-! ### is_table -/
def sp_is_table : Sp := fun vs H Q _ => ∃ (works many : Nat) (T : Tab) (a : Addr), vs = [.int (works : Nat), .int (many : Nat), .ref a] ∧ works ≤ 1000 ∧ many ≤ 1000 ∧ TableA H many works T a ∧ ∀ b H', Same H H' → (b = true ↔ ∀ t w, t < many → w < works → 0 ≤ T t w) → Q (.bl b) H'
abbrev N_is_table : List Str := ["works", "many", "thing", "one"]
theorem sc_is_table : FnScope N_is_table ["works", "many", "thing"] (defScope (top 17)) := ⟨rfl, rfl, rfl, by decide +kernel, rfl, by decide +kernel, by decide +kernel⟩
def t_is_table (K : PySem.W.Frag) : TS :=
  (tRet (tAndV (tCB (rIsi K) (tCons (tVar 2) (tCons (tC (.ty "tuple")) tNil))) (tAndV (tOp rEq (tCB (rLenS K) (tCons (tVar 2) tNil)) (tVar 1)) (tCB (rAll K) (tCons (tLc (iTup K (tVar 2)) (gName 3) tYes (tCall sp_is_turn [] E0 (tCons (tVar 0) (tCons (tVar 3) tNil))) [3]) tNil)))))
open Classical in
theorem pure_is_table (vs : List V) (H : Hp) (Q : VK) (E : XK) (h : sp_is_table vs H Q E) : t_is_table K { nx := fun _ H' => Q .non H', rt := Q } (start N_is_table vs) H := by
  obtain ⟨works, many, T, a, rfl, hwk, hmk, ⟨as, hx, hr⟩, hQ⟩ := h
  have hln : (as.map V.ref).length = many := by rw [List.length_map, hr.len]; simp [tabRows]
  unfold t_is_table
  walk_at "go"
  refine iteb (fun hb => ?_) (fun hb => ?_)
  · walk_at "go"
    refine rd_lcT (fun c => .bl (decide (∀ w, w < works → 0 ≤ T c w))) rfl hx (by rw [hln]; omega) (fun x => rfl) (fun c x H1 hc e1 Q k => ?_) fun p H1 hp e1 h1 => ?_
    · obtain ⟨ra, hra, rfl⟩ := get_map hc
      have hcl : c < many := by
        have z := (List.getElem?_eq_some_iff.mp hc).1
        rwa [hln] at z
      have hrow : H ra = some (.tup (tabRow works T c)) := hr.at_ c ra _ hra (by simp [tabRows, hcl])
      walk_at "go"
      refine ⟨works, T, c, ra, rfl, hwk, e1 _ _ hrow, fun b H2 e2 hb2 => ?_⟩
      have eb : b = decide (∀ w, w < works → 0 ≤ T c w) := by
        cases b with
        | true => exact (decide_eq_true (hb2.mp rfl)).symm
        | false => exact (decide_eq_false (fun z => by have := hb2.mpr z; cases this)).symm
      subst eb
      exact k H2 e2
    · walk_at "go"
      have e : ((List.range (as.map V.ref).length).map fun c => V.bl (decide (∀ w, w < works → 0 ≤ T c w))) = ((List.range many).map fun c => decide (∀ w, w < works → 0 ≤ T c w)).map V.bl := by
        rw [hln, List.map_map]
        rfl
      rw [e] at h1
      refine rd_all h1 ?_
      refine hQ _ H1 e1 ?_
      rw [List.all_map, List.all_eq_true]
      constructor
      · intro z t w ht hw
        exact of_decide_eq_true (z t (List.mem_range.mpr ht)) w hw
      · intro z t ht
        exact decide_eq_true (fun w hw => z t w (List.mem_range.mp ht) hw)
  · exfalso
    rw [hln] at hb
    exact absurd rfl (of_decide_eq_false hb)
theorem ok_is_table (T : Txt K mg) : Cal P w K mg base CX0 "is_table" 3 ["works", "many", "thing"] sp_is_table := by
  have C_is_turn := ok_is_turn (P := P) (w := w) (base := base) T
  refine Cal.of (i := 17) T (List.mem_of_getElem? (i := 11) rfl) (in_fa 10 rfl) sc_is_table (fun vs H Q E h => ?_) (fun _ _ _ _ _ _ us hl => match us, hl with | [_, _, _], _ => rfl) (fun cdv A outer s H vs Q E hr h => ⟨t_is_table K, PSs.nox ?_, pure_is_table vs H Q E h⟩)
  · obtain ⟨works, many, T, a, rfl, _⟩ := h
    rfl
  · exact (pss_one (ps_ret (pe_and (pe_callB call_isi (by rfl) T.isinstance (by decide +kernel) (pa_cons (pv 2) (pa_cons (pe_bltn (by rfl) T.tuple (by decide +kernel) rfl) pa_nil))) (pe_and (pe_cmpR op_eq (pe_callB call_len_seq (by rfl) T.len PySem.boot_len (pa_cons (pv 2) pa_nil)) (pv 1) (nomark _)) (pe_one (pe_callB (cr_all rfl) (by rfl) T.all (by decide +kernel) (pa_cons (pe_lc (own := [("one", 3)]) (g := (gName 3)) (tt := tYes) rfl sc_is_table.nd (pi_tup (pv 2)) (blkOk_by (own := [("one", 3)]) (N := N_is_table) (sc := defScope (top 17)) (by decide +kernel)) (fun _ _ _ _ _ => (pg_name (i := 3) sc_is_table.nd rfl (by first | exact Or.inl rfl | exact Or.inr rfl))) (fun _ _ _ _ _ => pts_nil) (fun _ _ _ _ _ => (pe_cal C_is_turn (hr.mono (by decide)) pass0 (pa_cons (pv 0) (pa_cons (pv 3) pa_nil))))) pa_nil)))))))
end
end Bp

namespace Bp
open PySem PyProof.Rows L2 PySem.Spec
local macro_rules | `(tactic| walk_at "side") => `(tactic| first | assumption | omega | decide)
local macro_rules | `(tactic| walk_at "carry") => `(tactic| first | assumption | (refine Same.get (by assumption) ?_; walk_at "carry"))
local macro_rules | `(tactic| walk_at "tst") => `(tactic| first | exact Same.ts (by assumption) | exact SameX.ts1 (by assumption) (by assumption) (by intro _ z; cases z))
local macro_rules | `(tactic| walk_at "dat") => `(tactic| first | assumption | (with_reducible refine PlanA.mono (by walk_at "tst") ?_; walk_at "dat") | (with_reducible refine BeatsA.mono (by walk_at "tst") ?_; walk_at "dat") | (with_reducible refine WaitA.mono (by walk_at "tst") ?_; walk_at "dat") | (with_reducible refine GivenA.mono (by walk_at "tst") ?_; walk_at "dat") | (with_reducible refine TableA.mono (by walk_at "tst") ?_; walk_at "dat"))
local macro_rules | `(tactic| walk_at "at") => `(tactic| first | exact rfl | assumption | exact at_beat (by assumption) | exact at_tab (by assumption) | exact at_map (by assumption))
local macro_rules | `(tactic| walk_at "go1") => `(tactic| first
  | with_reducible refine rd_seq ?_
  | with_reducible refine rd_asg ?_
  | with_reducible refine rd_ret ?_
  | with_reducible refine rd_drop ?_
  | ((with_reducible refine' rd_var ?x1 ?x2); (case x1 => exact rfl))
  | with_reducible refine rd_c ?_
  | with_reducible refine rd_op ?_
  | with_reducible refine rd_un ?_
  | with_reducible refine rd_name ?_
  | with_reducible refine rd_I0 ?_
  | with_reducible refine rd_gcons ?_
  | with_reducible refine rd_gnil ?_
  | with_reducible refine rd_test ?_
  | with_reducible refine rd_B ?_
  | with_reducible refine rd_bl ?_
  | with_reducible refine rd_anil ?_
  | with_reducible refine rd_acons ?_
  | with_reducible refine rd_tup ?_
  | with_reducible refine rd_lst ?_
  | with_reducible refine rd_sdput ?_
  | with_reducible refine rd_call1 ?_
  | with_reducible refine rd_cb ?_
  | with_reducible refine rd_ifS ?_
  | with_reducible refine rd_next ?_
  | ((with_reducible refine' rd_I ?x1 ?x2); (case x1 => walk_at "side"))
  | ((with_reducible refine' rd_ixT ?x1 ?x2 ?x3); (case x1 => walk_at "carry"); (case x2 => walk_at "at"))
  | ((with_reducible refine' rd_lenT ?x1 ?x2); (case x1 => walk_at "carry"))
  | ((with_reducible refine' rd_lenL ?x1 ?x2); (case x1 => walk_at "carry"))
  | with_reducible refine rd_max2 ?_
  | with_reducible refine rd_isiI ?_
  | with_reducible refine rd_isiB ?_
  | ((with_reducible refine' rd_isiT ?x1 ?x2); (case x1 => walk_at "carry"))
  | with_reducible refine ite_yes ?_
  | with_reducible refine ite_no ?_
  | with_reducible refine ite_nf ?_
  | with_reducible refine ite_nt ?_
  | with_reducible refine rd_andV ?_
  | with_reducible refine rd_orV ?_
  | with_reducible refine rd_notV ?_
  | with_reducible refine rd_and ?_
  | with_reducible refine rd_or ?_
  | with_reducible refine rd_not ?_
  | with_reducible refine rd_eq rfl ?_
  | with_reducible refine rd_ne rfl ?_
  | ((with_reducible refine' rd_gtup ?x1 ?x2 ?x3); (case x1 => walk_at "carry"); (case x2 => exact rfl)))
local macro_rules | `(tactic| walk_at "go") => `(tactic| repeat walk_at "go1")
section
variable {K : PySem.W.Frag} {P : Program} {w : World} {mg : Str → Option Value} {base : Heap}
local macro_rules | `(tactic| walk_at "go1") => `(tactic| with_reducible refine use_is_number ?_)
local macro_rules | `(tactic| walk_at "go1") => `(tactic| ((with_reducible refine' use_length_of ?x1 ?x2 ?x3 ?x4 ?x5); (case x1 => assumption); (case x2 => walk_at "dat"); (case x3 => walk_at "dat"); (case x4 => assumption)))
local macro_rules | `(tactic| walk_at "go1") => `(tactic| ((with_reducible refine' use_buffer_of ?x1 ?x2 ?x3 ?x4 ?x5); (case x1 => assumption); (case x2 => walk_at "dat"); (case x3 => walk_at "dat"); (case x4 => assumption)))
local macro_rules | `(tactic| walk_at "go1") => `(tactic| ((with_reducible refine' use_step_of ?x1 ?x2 ?x3 ?x4 ?x5); (case x1 => assumption); (case x2 => walk_at "dat"); (case x3 => walk_at "dat"); (case x4 => assumption)))
/-! ### late_spots -/
abbrev spotRow (p : Nat × Nat) : List V := [.int (p.1 : Nat), .int (p.2 : Nat)]
def spotsOf (works : Nat) (T : Tab) (t n : Nat) : List (Nat × Nat) := ((List.range n).filter fun w => decide (0 < T t w)).map fun w => (t, w)
theorem spots_succ (many works : Nat) (T : Tab) : spots (many + 1) works T = spots many works T ++ spotsOf works T many works := by
  unfold spots spotsOf
  rw [grid_succ, List.filter_append, List.filter_map]
  rfl
theorem spots_len (many works : Nat) (T : Tab) : (spots many works T).length ≤ many * works := by
  unfold spots
  have := List.length_filter_le (fun p : Nat × Nat => decide (0 < T p.1 p.2)) (grid many works)
  rw [grid_len] at this
  exact this
def sp_late_spots : Sp := fun vs H Q _ => ∃ (works many : Nat) (T : Tab) (a : Addr), vs = [.ref a] ∧ works ≤ 8 ∧ many ≤ 12 ∧ TableA H many works T a ∧
  ∀ l H' as, Same H H' → H l = none → H' l = some (.lst (as.map V.ref)) → Rows H' as ((spots many works T).map spotRow) → Q (.ref l) H'
abbrev N_late_spots : List Str := ["table", "found", "turn", "numbers", "work", "number"]
theorem sc_late_spots : FnScope N_late_spots ["table"] (defScope (top 18)) := ⟨rfl, rfl, rfl, by decide +kernel, rfl, by decide +kernel, by decide +kernel⟩
def t_late_spots (K : PySem.W.Frag) : TS :=
  (tSeq (tAsg (tLst tNil) (gName 1))
  (tSeq (tFor (iEnumT K (tCons (tVar 0) tNil)) (gTup K 2 (gCons (gName 2) (gCons (gName 3) gNil))) (tDrop (tBM K "list" rExtend (tVar 1) (tCons (tLc (iEnumT K (tCons (tVar 3) tNil)) (gTup K 2 (gCons (gName 4) (gCons (gName 5) gNil))) (tTest (tOp rGtI (tVar 5) (tC (.int 0)))) (tTup (tCons (tVar 2) (tCons (tVar 4) tNil))) [4, 5]) tNil))))
  (tRet (tVar 1))))
theorem pure_late_spots (vs : List V) (H : Hp) (Q : VK) (E : XK) (h : sp_late_spots vs H Q E) : t_late_spots K { nx := fun _ H' => Q .non H', rt := Q } (start N_late_spots vs) H := by
  obtain ⟨works, many, T, a, rfl, hwk, hmk, ⟨ras, hx, hr⟩, hQ⟩ := h
  have hln : (ras.map V.ref).length = many := by rw [List.length_map, hr.len]; simp [tabRows]
  unfold t_late_spots
  walk_at "go"
  refine newL (fun l H1 hl e1 h1 => ?_) rfl
  walk_at "go"
  refine rd_forI ?_
  refine ⟨_, rfl, a, _, rfl, SqT.of (e1 _ _ hx), ?_⟩
  refine for_it walk_enumT (fun i σ' H' => ∃ (as : List Addr) (x2 x3 x4 x5 : Option V), σ' = [some (.ref a), some (.ref l), x2, x3, x4, x5] ∧ Same H H' ∧ H' l = some (.lst (as.map V.ref)) ∧ Rows H' as ((spots i works T).map spotRow))
    ⟨[], none, none, none, none, rfl, e1, h1, Rows.nil⟩ (fun i σ' H' _ ⟨_, _, _, _, _, _, e, _⟩ => SqT.of (e _ _ hx)) ?_ ?_
  · rintro i x σ' H' H3 hi ⟨as, x2, x3, x4, x5, rfl, e, h2, hro⟩ ⟨tp, x, y, rfl, htp, rfl, hxx, hy⟩
    obtain rfl : V.int (i : Nat) = x := Option.some.inj hxx
    obtain ⟨ra, hra, rfl⟩ := get_map hy
    rw [hln] at hi
    have hrow : H ra = some (.tup (tabRow works T i)) := hr.at_ i ra _ hra (by simp [tabRows, hi])
    have e3 : Same H' (upd H' tp (.tup [.int (i : Nat), .ref ra])) := Same.new htp
    have h3 : (upd H' tp (.tup [.int (i : Nat), .ref ra])) tp = some (.tup [.int (i : Nat), .ref ra]) := upd_same
    generalize upd H' tp (.tup [.int (i : Nat), .ref ra]) = H3 at *
    have e03 := e.trans e3
    have hl3 := e3 _ _ h2
    have hrlen : (tabRow works T i).length = works := by simp [tabRow]
    walk_at "go"
    refine rd_extend rfl hl3 ?_
    refine ⟨_, rfl, ra, _, rfl, SqT.of (e03 _ _ hrow), fun Dl hD => ?_⟩
    refine lc_it walk_enumT (fun c H' => Same H3 H' ∧ ∃ cs : List Addr, H' Dl = some (.lst (cs.map V.ref)) ∧ Rows H' cs ((spotsOf works T i c).map spotRow)) ⟨Same.new hD, [], upd_same, Rows.nil⟩ (fun c H' _ ⟨p1, _⟩ => SqT.of (p1 _ _ (e03 _ _ hrow))) ?_ ?_
    · rintro c x H4 H5 hc ⟨e4, cs, h4, hcs⟩ ⟨tp2, x, y, rfl, htp2, rfl, hxx2, hy2⟩
      obtain rfl : V.int (c : Nat) = x := Option.some.inj hxx2
      obtain ⟨cc, hcc, rfl⟩ := get_map hy2
      obtain rfl : c = cc := by
        obtain ⟨z1, z2⟩ := List.getElem?_eq_some_iff.mp hcc
        simpa using z2
      rw [hrlen] at hc
      have e5 : Same H4 (upd H4 tp2 (.tup [.int (c : Nat), .int (T i c)])) := Same.new htp2
      have h5 : (upd H4 tp2 (.tup [.int (c : Nat), .int (T i c)])) tp2 = some (.tup [.int (c : Nat), .int (T i c)]) := upd_same
      generalize upd H4 tp2 (.tup [.int (c : Nat), .int (T i c)]) = H5 at *
      walk_at "go"
      refine ⟨rfl, ?_⟩
      walk_at "go"
      refine iteb (fun hb => ?_) (fun hb => ?_)
      · have hpos := of_decide_eq_true hb
        walk_at "go"
        refine newT (fun np H6 hnp e6 h6 => ?_) rfl
        have e36 := (e4.trans e5).trans e6
        have hcl : cs.length ≤ works := by
          rw [hcs.len, List.length_map]
          unfold spotsOf
          rw [List.length_map]
          have := List.length_filter_le (fun w => decide (0 < T i w)) (List.range c)
          rw [List.length_range] at this
          omega
        have hd6 := e6 _ _ (e5 _ _ h4)
        refine ⟨_, hd6, szl _ (by rw [List.length_map]; omega), ?_, cs ++ [np], ?_, ?_⟩
        · intro b o hb2
          rw [upd_ne (ne_of_none hb2 hD)]
          exact e36 _ _ hb2
        · rw [upd_same, List.map_append]
          rfl
        · have t67 : Tst H6 (upd H6 Dl (.lst (cs.map V.ref ++ [.ref np]))) := (SameX.upd (o := .lst (cs.map V.ref ++ [.ref np]))).ts1 hd6 (by intro _ z; cases z)
          have er : (spotsOf works T i (c + 1)).map spotRow = (spotsOf works T i c).map spotRow ++ [spotRow (i, c)] := by
            unfold spotsOf
            rw [List.range_succ, List.filter_append, List.map_append, List.map_append]
            simp [hpos]
          rw [er]
          exact ((hcs.mono (e5.trans e6).ts).mono t67).snoc (t67 _ _ h6)
      · have hnp := of_decide_eq_false hb
        refine ⟨e4.trans e5, cs, e5 _ _ h4, ?_⟩
        have er : spotsOf works T i (c + 1) = spotsOf works T i c := by
          unfold spotsOf
          rw [List.range_succ, List.filter_append, List.map_append]
          simp [hnp]
        rw [er]
        exact hcs.mono e5.ts
    · rintro H4 ⟨e4, cs, h4, hcs⟩
      rw [hrlen] at hcs
      have hs1 := spots_len i works T
      have hs2 := spots_len (i + 1) works T
      have hmw : (i + 1) * works ≤ 12 * 8 := Nat.mul_le_mul (by omega) hwk
      have el : (as ++ cs).length = (spots (i + 1) works T).length := by
        rw [List.length_append, hro.len, hcs.len, List.length_map, List.length_map, spots_succ, List.length_append]
      refine rd_ext (e4 _ _ hl3) h4 (by
        rw [List.length_append] at el
        rw [List.length_map, List.length_map]
        omega) fun H5 e5 h5 => ?_
      have t45 : Tst H4 H5 := e5.ts1 (e4 _ _ hl3) (by intro _ z; cases z)
      refine ⟨as ++ cs, _, _, _, _, rfl, SameX.out (e03.trans e4) e5 (fun z hz => by rw [List.mem_singleton.mp hz]; exact hl), by rw [h5, List.map_append], ?_⟩
      rw [spots_succ, List.map_append]
      have r1 := (hro.mono (e3.trans e4).ts).mono t45
      have r2 := hcs.mono t45
      refine ⟨by rw [List.length_append, List.length_append, r1.len, r2.len], fun c b q hb hq => ?_⟩
      by_cases hcl : c < as.length
      · rw [List.getElem?_append_left hcl] at hb
        rw [List.getElem?_append_left (by rw [← r1.len]; exact hcl)] at hq
        exact r1.at_ c b q hb hq
      · rw [List.getElem?_append_right (by omega)] at hb
        rw [List.getElem?_append_right (by rw [← r1.len]; omega), ← r1.len] at hq
        exact r2.at_ _ b q hb hq
  · rintro σ' H3 ⟨as, x2, x3, x4, x5, rfl, e, h2, hro⟩
    walk_at "go"
    rw [hln] at hro
    exact hQ l H3 as e hl h2 hro
theorem ok_late_spots (T : Txt K mg) : Cal P w K mg base CX0 "late_spots" 1 ["table"] sp_late_spots := by
  refine Cal.of (i := 18) T (List.mem_of_getElem? (i := 12) rfl) (in_fa 11 rfl) sc_late_spots (fun vs H Q E h => ?_) (fun _ _ _ _ _ _ us hl => match us, hl with | [_], _ => rfl) (fun cdv A outer s H vs Q E hr h => ⟨t_late_spots K, PSs.nox ?_, pure_late_spots vs H Q E h⟩)
  · obtain ⟨works, many, T, a, rfl, _⟩ := h
    rfl
  · exact (pss_cons (ps_set (i := 1) sc_late_spots.nd rfl (by first | exact Or.inl rfl | exact Or.inr rfl) (pe_lst pa_nil))
  (pss_cons (ps_for PassesOwn.never rfl (pi_enumT (by rfl) T.enumerate (pa_cons (pv 0) pa_nil)) (pg_tup rfl (pgs_cons (pg_name (i := 2) sc_late_spots.nd rfl (by first | exact Or.inl rfl | exact Or.inr rfl)) (pgs_cons (pg_name (i := 3) sc_late_spots.nd rfl (by first | exact Or.inl rfl | exact Or.inr rfl)) pgs_nil))) (pss_one (ps_expr (pe_bm PySem.F.plainAttrs_list PySem.F.slot_list_extend PySem.F.type_list_extend mt_extend (pv 1) (pa_cons (pe_lc (own := [("work", 4), ("number", 5)]) (g := (gTup K 2 (gCons (gName 4) (gCons (gName 5) gNil)))) (tt := (tTest (tOp rGtI (tVar 5) (tC (.int 0))))) rfl sc_late_spots.nd (pi_enumT (by rfl) T.enumerate (pa_cons (pv 3) pa_nil)) (blkOk_by (own := [("work", 4), ("number", 5)]) (N := N_late_spots) (sc := defScope (top 18)) (by decide +kernel)) (fun _ _ _ _ _ => (pg_tup rfl (pgs_cons (pg_name (i := 4) sc_late_spots.nd rfl (by first | exact Or.inl rfl | exact Or.inr rfl)) (pgs_cons (pg_name (i := 5) sc_late_spots.nd rfl (by first | exact Or.inl rfl | exact Or.inr rfl)) pgs_nil)))) (fun _ _ _ _ _ => pts_one (pt_cmpR op_gt (pv 5) pe_int (nomark _))) (fun _ _ _ _ _ => (pe_tup (pa_cons (pv 2) (pa_cons (pv 4) pa_nil))))) pa_nil)))))
  (pss_one (ps_ret (pv 1)))))
end
end Bp

namespace Bp
open PySem PyProof.Rows L2 PySem.Spec
local macro_rules | `(tactic| walk_at "side") => `(tactic| first | assumption | omega | decide)
local macro_rules | `(tactic| walk_at "carry") => `(tactic| first | assumption | (refine Same.get (by assumption) ?_; walk_at "carry"))
local macro_rules | `(tactic| walk_at "tst") => `(tactic| first | exact Same.ts (by assumption) | exact SameX.ts1 (by assumption) (by assumption) (by intro _ z; cases z))
local macro_rules | `(tactic| walk_at "dat") => `(tactic| first | assumption | (with_reducible refine PlanA.mono (by walk_at "tst") ?_; walk_at "dat") | (with_reducible refine BeatsA.mono (by walk_at "tst") ?_; walk_at "dat") | (with_reducible refine WaitA.mono (by walk_at "tst") ?_; walk_at "dat") | (with_reducible refine GivenA.mono (by walk_at "tst") ?_; walk_at "dat") | (with_reducible refine TableA.mono (by walk_at "tst") ?_; walk_at "dat"))
local macro_rules | `(tactic| walk_at "at") => `(tactic| first | exact rfl | assumption | exact at_beat (by assumption) | exact at_tab (by assumption) | exact at_map (by assumption))
local macro_rules | `(tactic| walk_at "go1") => `(tactic| first
  | with_reducible refine rd_seq ?_
  | with_reducible refine rd_asg ?_
  | with_reducible refine rd_ret ?_
  | with_reducible refine rd_drop ?_
  | ((with_reducible refine' rd_var ?x1 ?x2); (case x1 => exact rfl))
  | with_reducible refine rd_c ?_
  | with_reducible refine rd_op ?_
  | with_reducible refine rd_un ?_
  | with_reducible refine rd_name ?_
  | with_reducible refine rd_I0 ?_
  | with_reducible refine rd_gcons ?_
  | with_reducible refine rd_gnil ?_
  | with_reducible refine rd_test ?_
  | with_reducible refine rd_B ?_
  | with_reducible refine rd_bl ?_
  | with_reducible refine rd_anil ?_
  | with_reducible refine rd_acons ?_
  | with_reducible refine rd_tup ?_
  | with_reducible refine rd_lst ?_
  | with_reducible refine rd_sdput ?_
  | with_reducible refine rd_call1 ?_
  | with_reducible refine rd_cb ?_
  | with_reducible refine rd_ifS ?_
  | with_reducible refine rd_next ?_
  | ((with_reducible refine' rd_I ?x1 ?x2); (case x1 => walk_at "side"))
  | ((with_reducible refine' rd_ixT ?x1 ?x2 ?x3); (case x1 => walk_at "carry"); (case x2 => walk_at "at"))
  | ((with_reducible refine' rd_lenT ?x1 ?x2); (case x1 => walk_at "carry"))
  | ((with_reducible refine' rd_lenL ?x1 ?x2); (case x1 => walk_at "carry"))
  | with_reducible refine rd_max2 ?_
  | with_reducible refine rd_isiI ?_
  | with_reducible refine rd_isiB ?_
  | ((with_reducible refine' rd_isiT ?x1 ?x2); (case x1 => walk_at "carry"))
  | with_reducible refine ite_yes ?_
  | with_reducible refine ite_no ?_
  | with_reducible refine ite_nf ?_
  | with_reducible refine ite_nt ?_
  | with_reducible refine rd_andV ?_
  | with_reducible refine rd_orV ?_
  | with_reducible refine rd_notV ?_
  | with_reducible refine rd_and ?_
  | with_reducible refine rd_or ?_
  | with_reducible refine rd_not ?_
  | with_reducible refine rd_eq rfl ?_
  | with_reducible refine rd_ne rfl ?_
  | ((with_reducible refine' rd_gtup ?x1 ?x2 ?x3); (case x1 => walk_at "carry"); (case x2 => exact rfl)))
local macro_rules | `(tactic| walk_at "go") => `(tactic| repeat walk_at "go1")
section
variable {K : PySem.W.Frag} {P : Program} {w : World} {mg : Str → Option Value} {base : Heap}
local macro_rules | `(tactic| walk_at "go1") => `(tactic| with_reducible refine use_is_number ?_)
local macro_rules | `(tactic| walk_at "go1") => `(tactic| ((with_reducible refine' use_length_of ?x1 ?x2 ?x3 ?x4 ?x5); (case x1 => assumption); (case x2 => walk_at "dat"); (case x3 => walk_at "dat"); (case x4 => assumption)))
local macro_rules | `(tactic| walk_at "go1") => `(tactic| ((with_reducible refine' use_buffer_of ?x1 ?x2 ?x3 ?x4 ?x5); (case x1 => assumption); (case x2 => walk_at "dat"); (case x3 => walk_at "dat"); (case x4 => assumption)))
local macro_rules | `(tactic| walk_at "go1") => `(tactic| ((with_reducible refine' use_step_of ?x1 ?x2 ?x3 ?x4 ?x5); (case x1 => assumption); (case x2 => walk_at "dat"); (case x3 => walk_at "dat"); (case x4 => assumption)))
/-! ### is_followed -/
def sp_is_followed : Sp := fun vs H Q _ => ∃ (I : Inst) (many : Nat) (T : Tab) (pa ba ta : Addr) (s : Nat), vs = [.ref pa, .int I.cycle, .ref ba, .ref ta, .int (s : Nat)] ∧ I.Ok ∧ many ≤ 12 ∧ PlanA H I pa ∧ BeatsA H I ba ∧ TableA H many I.beats.length T ta ∧ s < I.spans.length ∧
  ∀ b : Bool, (b = true ↔ ∀ t, Clo I many T s t) → Q (.bl b) H
abbrev N_is_followed : List Str := ["plan", "cycle", "beats", "table", "s", "word", "one", "other", "low", "high", "step", "buffer", "turn"]
theorem sc_is_followed : FnScope N_is_followed ["plan", "cycle", "beats", "table", "s"] (defScope (top 20)) := ⟨rfl, rfl, rfl, by decide +kernel, rfl, by decide +kernel, by decide +kernel⟩
def t_is_followed (K : PySem.W.Frag) : TS :=
  (tSeq (tAsg (tOp (rIxT K) (tOp (rIxT K) (tVar 0) (tC (.int 1))) (tVar 4)) (gTup K 5 (gCons (gName 5) (gCons (gName 6) (gCons (gName 7) (gCons (gName 8) (gCons (gName 9) gNil)))))))
  (tSeq (tAsg (tCall sp_step_of [] E0 (tCons (tVar 0) (tCons (tVar 1) (tCons (tVar 2) (tCons (tVar 4) tNil))))) (gName 10))
  (tSeq (tAsg (tCall sp_buffer_of [] E0 (tCons (tVar 0) (tCons (tVar 1) (tCons (tVar 2) (tCons (tVar 4) tNil))))) (gName 11))
  (tSeq (tFor (iRng1 (tCons (tOp rSubI (tCB (rLenS K) (tCons (tVar 3) tNil)) (tVar 10)) tNil)) (gName 12) (tIfS (tTest (tOp rLtI (tOp (rIxT K) (tOp (rIxT K) (tVar 3) (tOp rAddI (tVar 12) (tVar 10))) (tVar 7)) (tOp rSubI (tOp (rIxT K) (tOp (rIxT K) (tVar 3) (tVar 12)) (tVar 6)) (tVar 11)))) (tRet (tC (.bl false))) tNext))
  (tRet (tC (.bl true)))))))
theorem pure_is_followed (vs : List V) (H : Hp) (Q : VK) (E : XK) (h : sp_is_followed vs H Q E) : t_is_followed K { nx := fun _ H' => Q .non H', rt := Q } (start N_is_followed vs) H := by
  obtain ⟨I, many, T, pa, ba, ta, s, rfl, ok, hm, hP, hB, hT, hs, hQ⟩ := h
  obtain ⟨b, c, as, q, h1, h2, h3, h4⟩ := hP.span hs
  obtain ⟨ras, hta, hras⟩ := hT
  have hln : (ras.map V.ref).length = many := by rw [List.length_map, hras.len]; simp [tabRows]
  have how := ok.so s hs
  have htw := ok.st s hs
  unfold t_is_followed
  walk_at "go"
  refine rd_forR (n := (many : Int) - (I.step s : Nat)) (fun Q k => by
    walk_at "go"
    rw [hln]
    exact k) (by omega) (by have := Inst.stepTop ok hs; omega) (fun i σ' H' => H' = H ∧ (∃ x12 : Option V, σ' = [some (.ref pa), some (.int I.cycle), some (.ref ba), some (.ref ta), some (.int (s : Nat)), some (.str (I.sp s).word), some (.int ((I.sp s).one : Nat)), some (.int ((I.sp s).other : Nat)), some (.int (I.sp s).low), some (.int (I.sp s).high), some (.int (I.step s : Nat)), some (.int (I.buf s)), x12]) ∧ ∀ t, t < i → Clo I many T s t)
    ⟨rfl, ⟨none, rfl⟩, fun t ht => absurd ht (Nat.not_lt_zero _)⟩ ?_ ?_
  · rintro t σ' H' ht ⟨rfl, ⟨x12, rfl⟩, hclo⟩
    have hts : t + I.step s < many := by omega
    have htm : t < many := by omega
    obtain ⟨as1, q1, a1, _, a2, a3⟩ := TableA.row (⟨ras, hta, hras⟩ : TableA H' many I.beats.length T ta) hts
    obtain ⟨as2, q2, c1, _, c2, c3⟩ := TableA.row (⟨ras, hta, hras⟩ : TableA H' many I.beats.length T ta) htm
    obtain rfl : as1 = ras := by
      rw [a1] at hta
      have z : as1.map V.ref = ras.map V.ref := by injection hta with z; injection z
      exact (List.map_inj_right (fun _ _ e => by injection e)).mp z
    obtain rfl : as2 = as1 := by
      rw [c1] at a1
      have z : as2.map V.ref = as1.map V.ref := by injection a1 with z; injection z
      exact (List.map_inj_right (fun _ _ e => by injection e)).mp z
    walk_at "go"
    refine iteb (fun hb => ?_) (fun hb => ?_)
    · have hlt := of_decide_eq_true hb
      walk_at "go"
      refine hQ false ⟨fun z => (by cases z), fun z => ?_⟩
      have := z t hts
      omega
    · have hge := of_decide_eq_false hb
      walk_at "go"
      refine ⟨rfl, ⟨_, rfl⟩, fun t' ht' => ?_⟩
      by_cases e : t' = t
      · subst e
        intro _
        omega
      · exact hclo t' (by omega)
  · rintro σ' H' ⟨rfl, ⟨x12, rfl⟩, hclo⟩
    walk_at "go"
    exact hQ true ⟨fun _ t ht => hclo t (by omega) ht, fun _ => rfl⟩
theorem ok_is_followed (T : Txt K mg) : Cal P w K mg base CX0 "is_followed" 3 ["plan", "cycle", "beats", "table", "s"] sp_is_followed := by
  have C_step_of := ok_step_of (P := P) (w := w) (base := base) T
  have C_buffer_of := ok_buffer_of (P := P) (w := w) (base := base) T
  refine Cal.of (i := 20) T (List.mem_of_getElem? (i := 14) rfl) (in_fa 13 rfl) sc_is_followed (fun vs H Q E h => ?_) (fun _ _ _ _ _ _ us hl => match us, hl with | [_, _, _, _, _], _ => rfl) (fun cdv A outer s H vs Q E hr h => ⟨t_is_followed K, PSs.nox ?_, pure_is_followed vs H Q E h⟩)
  · obtain ⟨I, many, T, pa, ba, ta, s, rfl, _⟩ := h
    rfl
  · exact (pss_cons (ps_asg (pe_ix ix_tup (pe_ix ix_tup (pv 0) pe_int (fun _ _ => rfl)) (pv 4) (fun _ _ => rfl)) (pg_tup rfl (pgs_cons (pg_name (i := 5) sc_is_followed.nd rfl (by first | exact Or.inl rfl | exact Or.inr rfl)) (pgs_cons (pg_name (i := 6) sc_is_followed.nd rfl (by first | exact Or.inl rfl | exact Or.inr rfl)) (pgs_cons (pg_name (i := 7) sc_is_followed.nd rfl (by first | exact Or.inl rfl | exact Or.inr rfl)) (pgs_cons (pg_name (i := 8) sc_is_followed.nd rfl (by first | exact Or.inl rfl | exact Or.inr rfl)) (pgs_cons (pg_name (i := 9) sc_is_followed.nd rfl (by first | exact Or.inl rfl | exact Or.inr rfl)) pgs_nil)))))))
  (pss_cons (ps_set (i := 10) sc_is_followed.nd rfl (by first | exact Or.inl rfl | exact Or.inr rfl) (pe_cal C_step_of (hr.mono (by decide)) pass0 (pa_cons (pv 0) (pa_cons (pv 1) (pa_cons (pv 2) (pa_cons (pv 4) pa_nil))))))
  (pss_cons (ps_set (i := 11) sc_is_followed.nd rfl (by first | exact Or.inl rfl | exact Or.inr rfl) (pe_cal C_buffer_of (hr.mono (by decide)) pass0 (pa_cons (pv 0) (pa_cons (pv 1) (pa_cons (pv 2) (pa_cons (pv 4) pa_nil))))))
  (pss_cons (ps_for PassesOwn.never rfl (pi_range1 rfl T.range (pa_cons (pe_op op_sub (pe_callB call_len_seq (by rfl) T.len PySem.boot_len (pa_cons (pv 3) pa_nil)) (pv 10)) pa_nil)) (pg_name (i := 12) sc_is_followed.nd rfl (by first | exact Or.inl rfl | exact Or.inr rfl)) (pss_one (ps_if (pt_cmpR op_lt (pe_ix ix_tup (pe_ix ix_tup (pv 3) (pe_op op_add (pv 12) (pv 10)) (fun _ _ => rfl)) (pv 7) (fun _ _ => rfl)) (pe_op op_sub (pe_ix ix_tup (pe_ix ix_tup (pv 3) (pv 12) (fun _ _ => rfl)) (pv 6) (fun _ _ => rfl)) (pv 11)) (nomark _)) (pss_one (ps_ret pe_bl)) pss_nil)))
  (pss_one (ps_ret pe_bl))))))
/-! ### end_of -/
def sp_end_of : Sp := fun vs H Q _ => ∃ (I : Inst) (pa ba wa sa ra : Addr) (x : Gv) (row : List Nat), vs = [.ref pa, .int I.cycle, .ref ba, .ref wa, .ref sa, .ref ra] ∧ I.Ok ∧ PlanA H I pa ∧ BeatsA H I ba ∧ WaitA H I wa ∧ H sa = some (.tup (gvRow x)) ∧ H ra = some (.tup (rowV row)) ∧
  (endOf I x row = none → Q .non H) ∧ ∀ w t n, endOf I x row = some (w, t, n) → ∀ p H', Same H H' → H' p = some (.tup [.int (t : Nat), .int (w : Nat), .int n]) → Q (.ref p) H'
abbrev N_end_of : List Str := ["plan", "cycle", "beats", "waiting", "start", "row", "work", "turn", "number", "s"]
theorem sc_end_of : FnScope N_end_of ["plan", "cycle", "beats", "waiting", "start", "row"] (defScope (top 21)) := ⟨rfl, rfl, rfl, by decide +kernel, rfl, by decide +kernel, by decide +kernel⟩
def t_end_of (K : PySem.W.Frag) : TS :=
  (tSeq (tAsg (tVar 4) (gTup K 3 (gCons (gName 6) (gCons (gName 7) (gCons (gName 8) gNil)))))
  (tSeq (tFor (iTup K (tVar 5)) (gName 9) (tSeq (tIfS (tOr (tNot (tB (tCall sp_is_number [] E0 (tCons (tVar 9) tNil)))) (tOr (tTest (tOp (rIn K true) (tVar 9) (tVar 3))) (tTest (tOp rNe (tOp (rIxT K) (tOp (rIxT K) (tOp (rIxT K) (tVar 0) (tC (.int 1))) (tVar 9)) (tC (.int 1))) (tVar 6))))) (tRet (tC .non)) tNext)
  (tSeq (tAsg (tOp (rIxT K) (tOp (rIxT K) (tOp (rIxT K) (tVar 0) (tC (.int 1))) (tVar 9)) (tC (.int 2))) (gName 6))
  (tSeq (tAsg (tOp rAddI (tVar 7) (tCall sp_step_of [] E0 (tCons (tVar 0) (tCons (tVar 1) (tCons (tVar 2) (tCons (tVar 9) tNil)))))) (gName 7))
  (tAsg (tOp rSubI (tVar 8) (tCall sp_buffer_of [] E0 (tCons (tVar 0) (tCons (tVar 1) (tCons (tVar 2) (tCons (tVar 9) tNil)))))) (gName 8))))))
  (tRet (tTup (tCons (tVar 7) (tCons (tVar 6) (tCons (tVar 8) tNil)))))))
theorem pure_end_of (vs : List V) (H : Hp) (Q : VK) (E : XK) (h : sp_end_of vs H Q E) : t_end_of K { nx := fun _ H' => Q .non H', rt := Q } (start N_end_of vs) H := by
  obtain ⟨I, pa, ba, wa, sa, ra, x, row, rfl, ok, hP, hB, hW, hsa, hra, hN, hS⟩ := h
  have hWt : H wa = some (.tup (rowV I.wait)) := hW
  unfold t_end_of
  walk_at "go"
  refine rd_forTv (a := ra) rfl hra (fun i σ' H' => H' = H ∧ ∃ (w t : Nat) (n : Int) (x9 : Option V), σ' = [some (.ref pa), some (.int I.cycle), some (.ref ba), some (.ref wa), some (.ref sa), some (.ref ra), some (.int (w : Nat)), some (.int (t : Nat)), some (.int n), x9] ∧ endOf I x row = endOf I (w, t, n) (row.drop i))
    ⟨rfl, x.1, x.2.1, x.2.2, none, rfl, rfl⟩ (fun i σ' H' ⟨e, _⟩ => by rw [e]; exact hra) ?_ ?_
  · rintro i y σ' H' hy ⟨rfl, w, t, n, x9, rfl, he⟩
    obtain ⟨s, hs, rfl⟩ := get_map hy
    have hdrop : row.drop i = s :: row.drop (i + 1) := by
      obtain ⟨z1, z2⟩ := List.getElem?_eq_some_iff.mp hs
      rw [List.drop_eq_getElem_cons z1, z2]
    have hunf : endOf I (w, t, n) (row.drop i) = if s ∈ I.wait ∧ (I.sp s).one = w then endOf I ((I.sp s).other, t + I.step s, n - I.buf s) (row.drop (i + 1)) else none := by
      rw [hdrop]
      rfl
    have h0 : decide ((0 : Int) ≤ (s : Int)) = true := decide_eq_true (by omega)
    walk_at "go"
    rw [h0]
    walk_at "go"
    refine rd_notIn hWt rfl (flat_nats _) ?_
    rw [inV_nats]
    walk_at "go"
    refine iteb (fun hb => ?_) (fun hb => ?_)
    · have hni : ¬ s ∈ I.wait := fun z => by rw [decide_eq_true z] at hb; cases hb
      walk_at "go"
      refine hN ?_
      rw [he, hunf, if_neg (fun z => hni z.1)]
    · have hin : s ∈ I.wait := by
        by_cases z : s ∈ I.wait
        · exact z
        · rw [decide_eq_false z] at hb; cases hb
      have hsl := ok.wt s hin
      obtain ⟨b, c, as, q, h1, h2, h3, h4⟩ := hP.span hsl
      walk_at "go"
      refine iteb (fun hb => ?_) (fun hb => ?_)
      · have hne : ¬ (I.sp s).one = w := fun z => by
          rw [z] at hb
          simp at hb
        walk_at "go"
        refine hN ?_
        rw [he, hunf, if_neg (fun z => hne z.2)]
      · have heq : (I.sp s).one = w := by
          have z : V.int ((I.sp s).one : Nat) = V.int (w : Nat) := by
            by_cases q : V.int ((I.sp s).one : Nat) = V.int (w : Nat)
            · exact q
            · rw [decide_eq_false q] at hb; cases hb
          injection z with z
          omega
        walk_at "go"
        refine ⟨rfl, (I.sp s).other, t + I.step s, n - I.buf s, _, rfl, ?_⟩
        rw [he, hunf, if_pos ⟨hin, heq⟩]
  · rintro σ' H' ⟨rfl, w, t, n, x9, rfl, he⟩
    rw [List.length_map, List.drop_length] at he
    walk_at "go"
    refine newT (fun p H1 hp e1 h1 => ?_) rfl
    exact hS w t n he p H1 e1 h1
theorem ok_end_of (T : Txt K mg) : Cal P w K mg base CX0 "end_of" 3 ["plan", "cycle", "beats", "waiting", "start", "row"] sp_end_of := by
  have C_step_of := ok_step_of (P := P) (w := w) (base := base) T
  have C_buffer_of := ok_buffer_of (P := P) (w := w) (base := base) T
  have C_is_number := ok_is_number (P := P) (w := w) (base := base) T
  refine Cal.of (i := 21) T (List.mem_of_getElem? (i := 15) rfl) (in_fa 14 rfl) sc_end_of (fun vs H Q E h => ?_) (fun _ _ _ _ _ _ us hl => match us, hl with | [_, _, _, _, _, _], _ => rfl) (fun cdv A outer s H vs Q E hr h => ⟨t_end_of K, PSs.nox ?_, pure_end_of vs H Q E h⟩)
  · obtain ⟨I, pa, ba, wa, sa, ra, x, row, rfl, _⟩ := h
    rfl
  · exact (pss_cons (ps_asg (pv 4) (pg_tup rfl (pgs_cons (pg_name (i := 6) sc_end_of.nd rfl (by first | exact Or.inl rfl | exact Or.inr rfl)) (pgs_cons (pg_name (i := 7) sc_end_of.nd rfl (by first | exact Or.inl rfl | exact Or.inr rfl)) (pgs_cons (pg_name (i := 8) sc_end_of.nd rfl (by first | exact Or.inl rfl | exact Or.inr rfl)) pgs_nil)))))
  (pss_cons (ps_for PassesOwn.never rfl (pi_tup (pv 5)) (pg_name (i := 9) sc_end_of.nd rfl (by first | exact Or.inl rfl | exact Or.inr rfl)) (pss_cons (ps_if (PW.pt (pw_or (pt_not (pt_val (pe_cal C_is_number (hr.mono (by decide)) pass0 (pa_cons (pv 9) pa_nil)))) (pw_or (pt_cmpR op_notIn_seq (pv 9) (pv 3) (by rfl)) (pw_or1 (pt_cmpR op_ne (pe_ix ix_tup (pe_ix ix_tup (pe_ix ix_tup (pv 0) pe_int (fun _ _ => rfl)) (pv 9) (fun _ _ => rfl)) pe_int (fun _ _ => rfl)) (pv 6) (nomark _)))))) (pss_one (ps_ret pe_non)) pss_nil)
  (pss_cons (ps_set (i := 6) sc_end_of.nd rfl (by first | exact Or.inl rfl | exact Or.inr rfl) (pe_ix ix_tup (pe_ix ix_tup (pe_ix ix_tup (pv 0) pe_int (fun _ _ => rfl)) (pv 9) (fun _ _ => rfl)) pe_int (fun _ _ => rfl)))
  (pss_cons (ps_set (i := 7) sc_end_of.nd rfl (by first | exact Or.inl rfl | exact Or.inr rfl) (pe_op op_add (pv 7) (pe_cal C_step_of (hr.mono (by decide)) pass0 (pa_cons (pv 0) (pa_cons (pv 1) (pa_cons (pv 2) (pa_cons (pv 9) pa_nil)))))))
  (pss_one (ps_set (i := 8) sc_end_of.nd rfl (by first | exact Or.inl rfl | exact Or.inr rfl) (pe_op op_sub (pv 8) (pe_cal C_buffer_of (hr.mono (by decide)) pass0 (pa_cons (pv 0) (pa_cons (pv 1) (pa_cons (pv 2) (pa_cons (pv 9) pa_nil))))))))))))
  (pss_one (ps_ret (pe_tup (pa_cons (pv 7) (pa_cons (pv 6) (pa_cons (pv 8) pa_nil))))))))
end
end Bp

namespace Bp
open PySem PyProof.Rows L2 PySem.Spec
local macro_rules | `(tactic| walk_at "side") => `(tactic| first | assumption | omega | decide)
local macro_rules | `(tactic| walk_at "carry") => `(tactic| first | assumption | (refine Same.get (by assumption) ?_; walk_at "carry"))
local macro_rules | `(tactic| walk_at "tst") => `(tactic| first | exact Same.ts (by assumption) | exact SameX.ts1 (by assumption) (by assumption) (by intro _ z; cases z))
local macro_rules | `(tactic| walk_at "dat") => `(tactic| first | assumption | (with_reducible refine PlanA.mono (by walk_at "tst") ?_; walk_at "dat") | (with_reducible refine BeatsA.mono (by walk_at "tst") ?_; walk_at "dat") | (with_reducible refine WaitA.mono (by walk_at "tst") ?_; walk_at "dat") | (with_reducible refine GivenA.mono (by walk_at "tst") ?_; walk_at "dat") | (with_reducible refine TableA.mono (by walk_at "tst") ?_; walk_at "dat"))
local macro_rules | `(tactic| walk_at "at") => `(tactic| first | exact rfl | assumption | exact at_beat (by assumption) | exact at_tab (by assumption) | exact at_map (by assumption))
local macro_rules | `(tactic| walk_at "go1") => `(tactic| first
  | with_reducible refine rd_seq ?_
  | with_reducible refine rd_asg ?_
  | with_reducible refine rd_ret ?_
  | with_reducible refine rd_drop ?_
  | ((with_reducible refine' rd_var ?x1 ?x2); (case x1 => exact rfl))
  | with_reducible refine rd_c ?_
  | with_reducible refine rd_op ?_
  | with_reducible refine rd_un ?_
  | with_reducible refine rd_name ?_
  | with_reducible refine rd_I0 ?_
  | with_reducible refine rd_gcons ?_
  | with_reducible refine rd_gnil ?_
  | with_reducible refine rd_test ?_
  | with_reducible refine rd_B ?_
  | with_reducible refine rd_bl ?_
  | with_reducible refine rd_anil ?_
  | with_reducible refine rd_acons ?_
  | with_reducible refine rd_tup ?_
  | with_reducible refine rd_lst ?_
  | with_reducible refine rd_sdput ?_
  | with_reducible refine rd_call1 ?_
  | with_reducible refine rd_cb ?_
  | with_reducible refine rd_ifS ?_
  | with_reducible refine rd_next ?_
  | ((with_reducible refine' rd_I ?x1 ?x2); (case x1 => walk_at "side"))
  | ((with_reducible refine' rd_ixT ?x1 ?x2 ?x3); (case x1 => walk_at "carry"); (case x2 => walk_at "at"))
  | ((with_reducible refine' rd_lenT ?x1 ?x2); (case x1 => walk_at "carry"))
  | ((with_reducible refine' rd_lenL ?x1 ?x2); (case x1 => walk_at "carry"))
  | with_reducible refine rd_max2 ?_
  | with_reducible refine rd_isiI ?_
  | with_reducible refine rd_isiB ?_
  | ((with_reducible refine' rd_isiT ?x1 ?x2); (case x1 => walk_at "carry"))
  | with_reducible refine ite_yes ?_
  | with_reducible refine ite_no ?_
  | with_reducible refine ite_nf ?_
  | with_reducible refine ite_nt ?_
  | with_reducible refine rd_andV ?_
  | with_reducible refine rd_orV ?_
  | with_reducible refine rd_notV ?_
  | with_reducible refine rd_and ?_
  | with_reducible refine rd_or ?_
  | with_reducible refine rd_not ?_
  | with_reducible refine rd_eq rfl ?_
  | with_reducible refine rd_ne rfl ?_
  | ((with_reducible refine' rd_gtup ?x1 ?x2 ?x3); (case x1 => walk_at "carry"); (case x2 => exact rfl)))
local macro_rules | `(tactic| walk_at "go") => `(tactic| repeat walk_at "go1")
section
variable {K : PySem.W.Frag} {P : Program} {w : World} {mg : Str → Option Value} {base : Heap}
local macro_rules | `(tactic| walk_at "go1") => `(tactic| with_reducible refine use_is_number ?_)
/-! ### is_chain -/
theorem eqv3 (a b c d e f : Int) : PyData.eqv (.tuple [.int a, .int b, .int c]) (.tuple [.int d, .int e, .int f]) = decide (a = d ∧ b = e ∧ c = f) := by
  simp only [PyData.eqv, PyData.eqvAll, Bool.and_true]
  by_cases h1 : a = d <;> by_cases h2 : b = e <;> by_cases h3 : c = f <;> simp [h1, h2, h3]
theorem eqv_n3 (d e f : Int) : PyData.eqv .none (.tuple [.int d, .int e, .int f]) = false := by simp only [PyData.eqv]
def sp_is_chain : Sp := fun vs H Q _ => ∃ (I : Inst) (gv : List Gv) (pa ba wa ga da ca ra : Addr) (t w : Nat) (n : Int) (g : Nat) (row : List Nat), vs = [.ref pa, .int I.cycle, .ref ba, .ref wa, .ref ga, .ref da, .ref ca] ∧ I.Ok ∧ PlanA H I pa ∧ BeatsA H I ba ∧ WaitA H I wa ∧ GivenA H gv ga ∧
  H da = some (.tup [.int (t : Nat), .int (w : Nat), .int n]) ∧ H ca = some (.tup [.int (g : Nat), .ref ra]) ∧ H ra = some (.tup (rowV row)) ∧
  ∀ (b : Bool) H', Same H H' → (b = true ↔ row.length ≤ 100 ∧ ∃ x, gv[g]? = some x ∧ endOf I x row = some (w, t, n)) → Q (.bl b) H'
abbrev N_is_chain : List Str := ["plan", "cycle", "beats", "waiting", "given", "due", "thing"]
theorem sc_is_chain : FnScope N_is_chain ["plan", "cycle", "beats", "waiting", "given", "due", "thing"] (defScope (top 22)) := ⟨rfl, rfl, rfl, by decide +kernel, rfl, by decide +kernel, by decide +kernel⟩
def t_is_chain (K : PySem.W.Frag) : TS :=
  (tSeq (tIfS (tOr (tNot (tB (tCB (rIsi K) (tCons (tVar 6) (tCons (tC (.ty "tuple")) tNil))))) (tOr (tTest (tOp rNe (tCB (rLenS K) (tCons (tVar 6) tNil)) (tC (.int 2)))) (tOr (tNot (tB (tCall sp_is_number [] E0 (tCons (tOp (rIxT K) (tVar 6) (tC (.int 0))) tNil)))) (tTest (tOp rGeI (tOp (rIxT K) (tVar 6) (tC (.int 0))) (tCB (rLenS K) (tCons (tVar 4) tNil))))))) (tRet (tC (.bl false))) tNext)
  (tSeq (tIfS (tOr (tNot (tB (tCB (rIsi K) (tCons (tOp (rIxT K) (tVar 6) (tC (.int 1))) (tCons (tC (.ty "tuple")) tNil))))) (tTest (tOp rGtI (tCB (rLenS K) (tCons (tOp (rIxT K) (tVar 6) (tC (.int 1))) tNil)) (tC (.int 100))))) (tRet (tC (.bl false))) tNext)
  (tRet (tOp (rEqD K) (tCall sp_end_of [] E0 (tCons (tVar 0) (tCons (tVar 1) (tCons (tVar 2) (tCons (tVar 3) (tCons (tOp (rIxT K) (tVar 4) (tOp (rIxT K) (tVar 6) (tC (.int 0)))) (tCons (tOp (rIxT K) (tVar 6) (tC (.int 1))) tNil))))))) (tVar 5)))))
theorem pure_is_chain (vs : List V) (H : Hp) (Q : VK) (E : XK) (h : sp_is_chain vs H Q E) : t_is_chain K { nx := fun _ H' => Q .non H', rt := Q } (start N_is_chain vs) H := by
  obtain ⟨I, gv, pa, ba, wa, ga, da, ca, ra, t, w, n, g, row, rfl, ok, hP, hB, hW, ⟨gas, hga, hgr⟩, hda, hca, hra, hQ⟩ := h
  have h0 : decide ((0 : Int) ≤ (g : Int)) = true := decide_eq_true (by omega)
  have hgl : (gas.map V.ref).length = gv.length := by rw [List.length_map, hgr.len, List.length_map]
  have hrl : (rowV row).length = row.length := List.length_map ..
  have hlca : (!decide (V.int (([V.int (g : Nat), V.ref ra] : List V).length : Int) = V.int 2)) = false := by simp
  unfold t_is_chain
  walk_at "go"
  rw [hlca]
  walk_at "go"
  rw [h0]
  walk_at "go"
  rw [hgl]
  refine iteb (fun hb => ?_) (fun hb => ?_)
  · have hge := of_decide_eq_true hb
    walk_at "go"
    refine hQ false H (Same.refl H) ⟨fun z => (by cases z), fun ⟨_, x, z, _⟩ => ?_⟩
    have := (List.getElem?_eq_some_iff.mp z).1
    omega
  · have hlt := of_decide_eq_false hb
    have hge : gv[g]? = some gv[g] := List.getElem?_eq_getElem (by omega)
    generalize gv[g] = x at hge
    obtain ⟨sa, hsa, hrow⟩ := hgr.get (i := g) (r := gvRow x) (by rw [List.getElem?_map, hge]; rfl)
    walk_at "go"
    rw [hrl]
    refine iteb (fun hb => ?_) (fun hb => ?_)
    · have hgt := of_decide_eq_true hb
      walk_at "go"
      refine hQ false H (Same.refl H) ⟨fun z => (by cases z), fun ⟨z, _⟩ => ?_⟩
      omega
    · have hle := of_decide_eq_false hb
      walk_at "go"
      refine ⟨I, pa, ba, wa, sa, ra, x, row, rfl, ok, hP, hB, hW, hrow, hra, fun hN => ?_, fun w2 t2 n2 hS p H1 e1 h1 => ?_⟩
      · walk_at "go"
        refine ⟨.none, .tuple [.int t, .int w, .int n], .non, .tup (SqT.of hda) (.cons (.int _) (.cons (.int _) (.cons (.int _) .nil))), rfl, rfl, ?_⟩
        rw [eqv_n3]
        refine hQ false H (Same.refl H) ⟨fun z => (by cases z), fun ⟨_, y, z1, z2⟩ => ?_⟩
        rw [hge] at z1
        rw [← Option.some.inj z1, hN] at z2
        cases z2
      · walk_at "go"
        refine ⟨.tuple [.int t2, .int w2, .int n2], .tuple [.int t, .int w, .int n], .tup (SqT.of h1) (.cons (.int _) (.cons (.int _) (.cons (.int _) .nil))), .tup (SqT.of (e1 _ _ hda)) (.cons (.int _) (.cons (.int _) (.cons (.int _) .nil))), rfl, rfl, ?_⟩
        rw [eqv3]
        refine hQ _ H1 e1 ?_
        rw [decide_eq_true_iff]
        constructor
        · rintro ⟨z1, z2, z3⟩
          have z1' : t2 = t := by omega
          have z2' : w2 = w := by omega
          subst z1' z2' z3
          exact ⟨by omega, x, hge, hS⟩
        · rintro ⟨_, y, z1, z2⟩
          rw [hge] at z1
          rw [← Option.some.inj z1, hS] at z2
          have z := Option.some.inj z2
          simp only [Prod.mk.injEq] at z
          obtain ⟨a1, a2, a3⟩ := z
          subst a1 a2 a3
          exact ⟨rfl, rfl, rfl⟩
theorem ok_is_chain (T : Txt K mg) : Cal P w K mg base CX0 "is_chain" 4 ["plan", "cycle", "beats", "waiting", "given", "due", "thing"] sp_is_chain := by
  have C_end_of := ok_end_of (P := P) (w := w) (base := base) T
  have C_is_number := ok_is_number (P := P) (w := w) (base := base) T
  refine Cal.of (i := 22) T (List.mem_of_getElem? (i := 16) rfl) (in_fa 15 rfl) sc_is_chain (fun vs H Q E h => ?_) (fun _ _ _ _ _ _ us hl => match us, hl with | [_, _, _, _, _, _, _], _ => rfl) (fun cdv A outer s H vs Q E hr h => ⟨t_is_chain K, PSs.nox ?_, pure_is_chain vs H Q E h⟩)
  · obtain ⟨I, gv, pa, ba, wa, ga, da, ca, ra, t, w, n, g, row, rfl, _⟩ := h
    rfl
  · exact (pss_cons (ps_if (PW.pt (pw_or (pt_not (pt_val (pe_callB call_isi (by rfl) T.isinstance (by decide +kernel) (pa_cons (pv 6) (pa_cons (pe_bltn (by rfl) T.tuple (by decide +kernel) rfl) pa_nil))))) (pw_or (pt_cmpR op_ne (pe_callB call_len_seq (by rfl) T.len PySem.boot_len (pa_cons (pv 6) pa_nil)) pe_int (nomark _)) (pw_or (pt_not (pt_val (pe_cal C_is_number (hr.mono (by decide)) pass0 (pa_cons (pe_ix ix_tup (pv 6) pe_int (fun _ _ => rfl)) pa_nil)))) (pw_or1 (pt_cmpR op_ge (pe_ix ix_tup (pv 6) pe_int (fun _ _ => rfl)) (pe_callB call_len_seq (by rfl) T.len PySem.boot_len (pa_cons (pv 4) pa_nil)) (nomark _))))))) (pss_one (ps_ret pe_bl)) pss_nil)
  (pss_cons (ps_if (PW.pt (pw_or (pt_not (pt_val (pe_callB call_isi (by rfl) T.isinstance (by decide +kernel) (pa_cons (pe_ix ix_tup (pv 6) pe_int (fun _ _ => rfl)) (pa_cons (pe_bltn (by rfl) T.tuple (by decide +kernel) rfl) pa_nil))))) (pw_or1 (pt_cmpR op_gt (pe_callB call_len_seq (by rfl) T.len PySem.boot_len (pa_cons (pe_ix ix_tup (pv 6) pe_int (fun _ _ => rfl)) pa_nil)) (pe_glob rfl T.most.choose_spec ⟨_, rfl⟩) (nomark _))))) (pss_one (ps_ret pe_bl)) pss_nil)
  (pss_one (ps_ret (pe_cmpR (op_eqD hr.units) (pe_cal C_end_of (hr.mono (by decide)) pass0 (pa_cons (pv 0) (pa_cons (pv 1) (pa_cons (pv 2) (pa_cons (pv 3) (pa_cons (pe_ix ix_tup (pv 4) (pe_ix ix_tup (pv 6) pe_int (fun _ _ => rfl)) (fun _ _ => rfl)) (pa_cons (pe_ix ix_tup (pv 6) pe_int (fun _ _ => rfl)) pa_nil))))))) (pv 5) (nomark _))))))
/-! ### ask_shape -/
def sp_ask_shape (K : PySem.W.Frag) : Sp := fun vs H Q E => ∃ (works many : Nat) (T : Tab) (tha ta ca : Addr) (xs : List V), vs = [.int (works : Nat), .int (many : Nat), .ref tha] ∧ works ≤ 8 ∧ many ≤ 12 ∧ H tha = some (.tup [.ref ta, .ref ca]) ∧ TableA H many works T ta ∧ H ca = some (.tup xs) ∧
  ((∀ t w, t < many → w < works → 0 ≤ T t w) → xs.length = (spots many works T).length → ∀ H', Same H H' → Q .non H') ∧
  (¬ ((∀ t w, t < many → w < works → 0 ≤ T t w) ∧ xs.length = (spots many works T).length) → ∀ d H', Same H H' → E (.ref (aNP K)) (some d) H')
abbrev N_ask_shape : List Str := ["works", "many", "thing"]
theorem sc_ask_shape : FnScope N_ask_shape ["works", "many", "thing"] (defScope (top 19)) := ⟨rfl, rfl, rfl, by decide +kernel, rfl, by decide +kernel, by decide +kernel⟩
def t_ask_shape (K : PySem.W.Frag) (E : XK) : TS :=
  (tSeq (tIfS (tOr (tNot (tB (tCB (rIsi K) (tCons (tVar 2) (tCons (tC (.ty "tuple")) tNil))))) (tOr (tTest (tOp rNe (tCB (rLenS K) (tCons (tVar 2) tNil)) (tC (.int 2)))) (tNot (tB (tCall sp_is_table [] E0 (tCons (tVar 0) (tCons (tVar 1) (tCons (tOp (rIxT K) (tVar 2) (tC (.int 0))) tNil)))))))) (tRaiseNP K E (tCons (tC (.str "shape")) (tCons (tC (.int 0)) tNil))) tNext)
  (tIfS (tOr (tNot (tB (tCB (rIsi K) (tCons (tOp (rIxT K) (tVar 2) (tC (.int 1))) (tCons (tC (.ty "tuple")) tNil))))) (tTest (tOp rNe (tCB (rLenS K) (tCons (tOp (rIxT K) (tVar 2) (tC (.int 1))) tNil)) (tCB (rLenS K) (tCons (tCall sp_late_spots [] E0 (tCons (tOp (rIxT K) (tVar 2) (tC (.int 0))) tNil)) tNil))))) (tRaiseNP K E (tCons (tC (.str "shape")) (tCons (tC (.int 0)) tNil))) tNext))
theorem mono_c2 {a b : V} : ∀ {σ : L2.St} (H : Hp) (Q Q' : List V → Hp → Prop), (∀ v H1, Q v H1 → Q' v H1) → (tCons (tC a) (tCons (tC b) tNil)) σ H Q → (tCons (tC a) (tCons (tC b) tNil)) σ H Q' := fun H Q Q' k h => k _ _ h
theorem pure_ask_shape (vs : List V) (H : Hp) (Q : VK) (E : XK) (h : sp_ask_shape K vs H Q E) : t_ask_shape K E { nx := fun _ H' => Q .non H', rt := Q } (start N_ask_shape vs) H := by
  obtain ⟨works, many, T, tha, ta, ca, xs, rfl, hwk, hmk, hth, hT, hca, hY, hNo⟩ := h
  have hl2 : (!decide (V.int (([V.ref ta, V.ref ca] : List V).length : Int) = V.int 2)) = false := by simp
  have lsh : ("shape" : Str).length ≤ 100 := by decide +kernel
  have l0 : ((0 : Int)).natAbs.log2 < 1920 := by decide
  have l00 : (toString (0 : Int) : Str).length ≤ 1000 := by decide +kernel
  unfold t_ask_shape
  walk_at "go"
  rw [hl2]
  walk_at "go"
  refine ⟨works, many, T, ta, rfl, by omega, by omega, hT, fun b H1 e1 hb1 => ?_⟩
  walk_at "go"
  cases b with
  | false =>
    walk_at "go"
    refine rd_raise ?_ (fun H Q Q' k h => mono_c2 H Q Q' k h)
    walk_at "go"
    exact ⟨_, _, rfl, lsh, l0, l00, fun d H2 e2 => hNo (fun z => by have := hb1.mpr z.1; cases this) d H2 (e1.trans e2)⟩
  | true =>
    have hnn := hb1.mp rfl
    walk_at "go"
    refine ⟨works, many, T, ta, rfl, hwk, hmk, hT.mono e1.ts, fun l H2 as e2 hl h2 hr => ?_⟩
    walk_at "go"
    have hal : (as.map V.ref).length = (spots many works T).length := by rw [List.length_map, hr.len, List.length_map]
    rw [hal]
    refine iteb (fun hb => ?_) (fun hb => ?_)
    · walk_at "go"
      refine rd_raise ?_ (fun H Q Q' k h => mono_c2 H Q Q' k h)
      walk_at "go"
      refine ⟨_, _, rfl, lsh, l0, l00, fun d H3 e3 => hNo (fun z => ?_) d H3 ((e1.trans e2).trans e3)⟩
      rw [z.2] at hb
      simp at hb
    · walk_at "go"
      refine hY hnn ?_ H2 (e1.trans e2)
      by_cases q : V.int (xs.length : Int) = V.int ((spots many works T).length : Int)
      · injection q with q
        omega
      · rw [decide_eq_false q] at hb
        cases hb
theorem ok_ask_shape (T : Txt K mg) : Cal P w K mg base (L2.CX P w) "ask_shape" 4 ["works", "many", "thing"] (sp_ask_shape K) := by
  have C_is_table := ok_is_table (P := P) (w := w) (base := base) T
  have C_late_spots := ok_late_spots (P := P) (w := w) (base := base) T
  refine Cal.of (i := 19) T (List.mem_of_getElem? (i := 13) rfl) (in_fa 12 rfl) sc_ask_shape (fun vs H Q E h => ?_) (fun _ _ _ _ _ _ us hl => match us, hl with | [_, _, _], _ => rfl) (fun cdv A outer s H vs Q E hr h => ⟨t_ask_shape K E, ?_, pure_ask_shape vs H Q E h⟩)
  · obtain ⟨works, many, T, tha, ta, ca, xs, rfl, _⟩ := h
    rfl
  · exact (pss_cons (ps_if (PW.pt (pw_or (pt_not (pt_val (pe_callB call_isi (by rfl) T.isinstance (by decide +kernel) (pa_cons (pv 2) (pa_cons (pe_bltn (by rfl) T.tuple (by decide +kernel) rfl) pa_nil))))) (pw_or (pt_cmpR op_ne (pe_callB call_len_seq (by rfl) T.len PySem.boot_len (pa_cons (pv 2) pa_nil)) pe_int (nomark _)) (pw_or1 (pt_not (pt_val (pe_cal C_is_table (hr.mono (by decide)) pass0 (pa_cons (pv 0) (pa_cons (pv 1) (pa_cons (pe_ix ix_tup (pv 2) pe_int (fun _ _ => rfl)) pa_nil)))))))))) (pss_one (ps_raise rfl (takes_of rfl rfl rfl rfl) (pmk_np T hr (by decide) (pa_cons pe_str (pa_cons pe_int pa_nil))))) pss_nil)
  (pss_one (ps_if (PW.pt (pw_or (pt_not (pt_val (pe_callB call_isi (by rfl) T.isinstance (by decide +kernel) (pa_cons (pe_ix ix_tup (pv 2) pe_int (fun _ _ => rfl)) (pa_cons (pe_bltn (by rfl) T.tuple (by decide +kernel) rfl) pa_nil))))) (pw_or1 (pt_cmpR op_ne (pe_callB call_len_seq (by rfl) T.len PySem.boot_len (pa_cons (pe_ix ix_tup (pv 2) pe_int (fun _ _ => rfl)) pa_nil)) (pe_callB call_len_seq (by rfl) T.len PySem.boot_len (pa_cons (pe_cal C_late_spots (hr.mono (by decide)) pass0 (pa_cons (pe_ix ix_tup (pv 2) pe_int (fun _ _ => rfl)) pa_nil)) pa_nil)) (nomark _))))) (pss_one (ps_raise rfl (takes_of rfl rfl rfl rfl) (pmk_np T hr (by decide) (pa_cons pe_str (pa_cons pe_int pa_nil))))) pss_nil)))
end
end Bp

namespace Bp
open PySem PyProof.Rows L2 PySem.Spec
local macro_rules | `(tactic| walk_at "side") => `(tactic| first | assumption | omega | decide)
local macro_rules | `(tactic| walk_at "carry") => `(tactic| first | assumption | (refine Same.get (by assumption) ?_; walk_at "carry"))
local macro_rules | `(tactic| walk_at "tst") => `(tactic| first | exact Same.ts (by assumption) | exact SameX.ts1 (by assumption) (by assumption) (by intro _ z; cases z))
local macro_rules | `(tactic| walk_at "dat") => `(tactic| first | assumption | (with_reducible refine PlanA.mono (by walk_at "tst") ?_; walk_at "dat") | (with_reducible refine BeatsA.mono (by walk_at "tst") ?_; walk_at "dat") | (with_reducible refine WaitA.mono (by walk_at "tst") ?_; walk_at "dat") | (with_reducible refine GivenA.mono (by walk_at "tst") ?_; walk_at "dat") | (with_reducible refine TableA.mono (by walk_at "tst") ?_; walk_at "dat"))
local macro_rules | `(tactic| walk_at "at") => `(tactic| first | exact rfl | assumption | exact at_beat (by assumption) | exact at_tab (by assumption) | exact at_map (by assumption))
local macro_rules | `(tactic| walk_at "go1") => `(tactic| first
  | with_reducible refine rd_seq ?_
  | with_reducible refine rd_asg ?_
  | with_reducible refine rd_ret ?_
  | with_reducible refine rd_drop ?_
  | ((with_reducible refine' rd_var ?x1 ?x2); (case x1 => exact rfl))
  | with_reducible refine rd_c ?_
  | with_reducible refine rd_op ?_
  | with_reducible refine rd_un ?_
  | with_reducible refine rd_name ?_
  | with_reducible refine rd_I0 ?_
  | with_reducible refine rd_gcons ?_
  | with_reducible refine rd_gnil ?_
  | with_reducible refine rd_test ?_
  | with_reducible refine rd_B ?_
  | with_reducible refine rd_bl ?_
  | with_reducible refine rd_anil ?_
  | with_reducible refine rd_acons ?_
  | with_reducible refine rd_tup ?_
  | with_reducible refine rd_lst ?_
  | with_reducible refine rd_sdput ?_
  | with_reducible refine rd_call1 ?_
  | with_reducible refine rd_cb ?_
  | with_reducible refine rd_ifS ?_
  | with_reducible refine rd_next ?_
  | ((with_reducible refine' rd_I ?x1 ?x2); (case x1 => walk_at "side"))
  | ((with_reducible refine' rd_ixT ?x1 ?x2 ?x3); (case x1 => walk_at "carry"); (case x2 => walk_at "at"))
  | ((with_reducible refine' rd_lenT ?x1 ?x2); (case x1 => walk_at "carry"))
  | ((with_reducible refine' rd_lenL ?x1 ?x2); (case x1 => walk_at "carry"))
  | with_reducible refine rd_max2 ?_
  | with_reducible refine rd_isiI ?_
  | with_reducible refine rd_isiB ?_
  | ((with_reducible refine' rd_isiT ?x1 ?x2); (case x1 => walk_at "carry"))
  | with_reducible refine ite_yes ?_
  | with_reducible refine ite_no ?_
  | with_reducible refine ite_nf ?_
  | with_reducible refine ite_nt ?_
  | with_reducible refine rd_andV ?_
  | with_reducible refine rd_orV ?_
  | with_reducible refine rd_notV ?_
  | with_reducible refine rd_and ?_
  | with_reducible refine rd_or ?_
  | with_reducible refine rd_not ?_
  | with_reducible refine rd_eq rfl ?_
  | with_reducible refine rd_ne rfl ?_
  | ((with_reducible refine' rd_gtup ?x1 ?x2 ?x3); (case x1 => walk_at "carry"); (case x2 => exact rfl)))
local macro_rules | `(tactic| walk_at "go") => `(tactic| repeat walk_at "go1")
section
variable {K : PySem.W.Frag} {P : Program} {w : World} {mg : Str → Option Value} {base : Heap}
/-! ### buffer_left -/
def Goes (I : Inst) (work s : Nat) : Prop := (I.sp s).one = work ∧ ((I.sp s).other ≠ work ∨ 0 < I.step s)
instance {I : Inst} {work s : Nat} : Decidable (Goes I work s) := by unfold Goes; exact inferInstance
def leftNums (I : Inst) (work : Nat) (ss : List Nat) : List Int := (ss.filter fun s => decide (Goes I work s)).map fun s => I.buf s
def sp_buffer_left : Sp := fun vs H Q _ => ∃ (I : Inst) (pa ba wa : Addr) (work : Nat), vs = [.ref pa, .int I.cycle, .ref ba, .ref wa, .int (work : Nat)] ∧ I.Ok ∧ PlanA H I pa ∧ BeatsA H I ba ∧ WaitA H I wa ∧
  ((∀ s ∈ I.wait, ¬ Goes I work s) → ∀ H', Same H H' → Q .non H') ∧ ∀ m, (∃ s ∈ I.wait, Goes I work s ∧ I.buf s = m) → (∀ s ∈ I.wait, Goes I work s → m ≤ I.buf s) → ∀ H', Same H H' → Q (.int m) H'
abbrev N_buffer_left : List Str := ["plan", "cycle", "beats", "waiting", "work", "some", "s", "one", "other", "step", "buffer"]
theorem sc_buffer_left : FnScope N_buffer_left ["plan", "cycle", "beats", "waiting", "work"] (defScope (top 9)) := ⟨rfl, rfl, rfl, by decide +kernel, rfl, by decide +kernel, by decide +kernel⟩
def t_buffer_left (K : PySem.W.Frag) : TS :=
  (tSeq (tAsg (tLst tNil) (gName 5))
  (tSeq (tFor (iList K (tCall sp_legs_of [] E0 (tCons (tVar 0) (tCons (tVar 1) (tCons (tVar 2) (tCons (tVar 3) tNil)))))) (gTup K 5 (gCons (gName 6) (gCons (gName 7) (gCons (gName 8) (gCons (gName 9) (gCons (gName 10) gNil)))))) (tIfS (tAnd (tTest (tOp rEq (tVar 7) (tVar 4))) (tOr (tTest (tOp rNe (tVar 8) (tVar 4))) (tTest (tOp rGtI (tVar 9) (tC (.int 0)))))) (tDrop (tBM K "list" rAppend (tVar 5) (tCons (tVar 10) tNil))) tNext))
  (tRet (tCKw (rMinD K) (tCons (tVar 5) tNil) (tCons (tC .non) tNil)))))
theorem pure_buffer_left (vs : List V) (H : Hp) (Q : VK) (E : XK) (h : sp_buffer_left vs H Q E) : t_buffer_left K { nx := fun _ H' => Q .non H', rt := Q } (start N_buffer_left vs) H := by
  obtain ⟨I, pa, ba, wa, work, rfl, ok, hP, hB, hW, hN, hM⟩ := h
  unfold t_buffer_left
  walk_at "go"
  refine newL (fun l H1 hl e1 h1 => ?_) rfl
  walk_at "go"
  refine rd_forI ?_
  refine rd_iL ?_
  walk_at "go"
  refine ⟨I, pa, ba, wa, rfl, ok, hP.mono e1.ts, hB.mono e1.ts, hW.mono e1.ts, fun gl H2 as e2 hgl h2 hr => ?_⟩
  have ngl : l ≠ gl := ne_of_none h1 hgl
  refine ⟨gl, rfl, ⟨_, SqL.of h2⟩, ?_⟩
  refine for_list (xs := as.map V.ref) (fun i σ' H' => ∃ (x6 x7 x8 x9 x10 : Option V), σ' = [some (.ref pa), some (.int I.cycle), some (.ref ba), some (.ref wa), some (.int (work : Nat)), some (.ref l), x6, x7, x8, x9, x10] ∧ Same H H' ∧ SameX [l] H2 H' ∧ H' l = some (.lst ((leftNums I work (I.wait.take i)).map V.int)))
    ⟨none, none, none, none, none, rfl, e1.trans e2, SameX.refl _ _, e2 _ _ h1⟩ (fun i σ' H' _ ⟨_, _, _, _, _, _, _, e, _⟩ => SqL.of (e _ _ (by simpa using ngl.symm) h2)) ?_ ?_
  · rintro i x σ' H' hx ⟨x6, x7, x8, x9, x10, rfl, e, e3, h3⟩
    obtain ⟨la, hla, rfl⟩ := get_map hx
    have hil : i < I.wait.length := by
      have z := (List.getElem?_eq_some_iff.mp hla).1
      rw [hr.len, List.length_map] at z
      exact z
    have hse : I.wait[i]? = some I.wait[i] := List.getElem?_eq_getElem hil
    generalize I.wait[i] = s at hse
    have hleg2 : H2 la = some (.tup (legRow I s)) := hr.at_ i la _ hla (by rw [List.getElem?_map, hse]; rfl)
    have hleg : H' la = some (.tup (legRow I s)) := (e3.ts1 (e2 _ _ h1) (by intro _ z; cases z)) _ _ hleg2
    have hlen : (leftNums I work (I.wait.take i)).length ≤ 24 := by
      unfold leftNums
      rw [List.length_map]
      have z1 := List.length_filter_le (fun s => decide (Goes I work s)) (I.wait.take i)
      rw [List.length_take] at z1
      have := ok.wl
      omega
    have more : ∀ H4, SameX [l] H' H4 → H4 l = some (.lst ((leftNums I work (I.wait.take i)).map V.int ++ [V.int (I.buf s)])) → Goes I work s → (Same H H4 ∧ SameX [l] H2 H4 ∧ H4 l = some (.lst ((leftNums I work (I.wait.take (i + 1))).map V.int))) := fun H4 e4 h4 hg => by
      refine ⟨SameX.out e e4 (fun z hz => by rw [List.mem_singleton.mp hz]; exact hl), e3.trans e4, ?_⟩
      rw [h4, take_snoc hse]
      unfold leftNums
      rw [List.filter_append, List.map_append, List.map_append]
      simp [hg]
    have less : ¬ Goes I work s → H' l = some (.lst ((leftNums I work (I.wait.take (i + 1))).map V.int)) := fun hg => by
      rw [h3, take_snoc hse]
      unfold leftNums
      rw [List.filter_append]
      simp [hg]
    walk_at "go"
    refine iteb (fun hb => ?_) (fun hb => ?_)
    · have h1w : (I.sp s).one = work := by
        have z := of_decide_eq_true hb
        injection z with z
        omega
      walk_at "go"
      refine iteb (fun hb2 => ?_) (fun hb2 => ?_)
      · have hne : (I.sp s).other ≠ work := fun z => by
          rw [z] at hb2
          simp at hb2
        walk_at "go"
        refine rd_append rfl h3 ?_
        walk_at "go"
        refine rd_app h3 (by rw [List.length_map]; omega) fun H4 e4 h4 => ?_
        exact ⟨_, _, _, _, _, rfl, more H4 e4 h4 ⟨h1w, .inl hne⟩⟩
      · have heq : (I.sp s).other = work := by
          have z : V.int ((I.sp s).other : Nat) = V.int (work : Nat) := by
            by_cases q : V.int ((I.sp s).other : Nat) = V.int (work : Nat)
            · exact q
            · rw [decide_eq_false q] at hb2; cases hb2
          injection z with z
          omega
        walk_at "go"
        refine iteb (fun hb3 => ?_) (fun hb3 => ?_)
        · have hst := of_decide_eq_true hb3
          walk_at "go"
          refine rd_append rfl h3 ?_
          walk_at "go"
          refine rd_app h3 (by rw [List.length_map]; omega) fun H4 e4 h4 => ?_
          exact ⟨_, _, _, _, _, rfl, more H4 e4 h4 ⟨h1w, .inr (by omega)⟩⟩
        · have hst := of_decide_eq_false hb3
          walk_at "go"
          exact ⟨_, _, _, _, _, rfl, e, e3, less fun z => by
            rcases z.2 with z | z
            · exact z heq
            · omega⟩
    · have h1w : ¬ (I.sp s).one = work := fun z => by
        rw [z] at hb
        simp at hb
      walk_at "go"
      exact ⟨_, _, _, _, _, rfl, e, e3, less fun z => h1w z.1⟩
  · rintro σ' H' ⟨x6, x7, x8, x9, x10, rfl, e, e3, h3⟩
    have hlen : (as.map V.ref).length = I.wait.length := by rw [List.length_map, hr.len, List.length_map]
    rw [hlen, List.take_length] at h3
    walk_at "go"
    refine ⟨_, rfl, l, leftNums I work I.wait, rfl, rfl, SqL.of h3, fun en => ?_, fun m hm hle => ?_⟩
    · refine hN (fun s hs hg => ?_) H' e
      have : I.buf s ∈ leftNums I work I.wait := List.mem_map.mpr ⟨s, List.mem_filter.mpr ⟨hs, decide_eq_true hg⟩, rfl⟩
      rw [en] at this
      cases this
    · obtain ⟨s, hs, rfl⟩ := List.mem_map.mp hm
      obtain ⟨hs1, hs2⟩ := List.mem_filter.mp hs
      exact hM _ ⟨s, hs1, of_decide_eq_true hs2, rfl⟩ (fun s' hs' hg' => hle _ (List.mem_map.mpr ⟨s', List.mem_filter.mpr ⟨hs', decide_eq_true hg'⟩, rfl⟩)) H' e
theorem ok_buffer_left (T : Txt K mg) : Cal P w K mg base CX0 "buffer_left" 4 ["plan", "cycle", "beats", "waiting", "work"] sp_buffer_left := by
  have C_legs_of := ok_legs_of (P := P) (w := w) (base := base) T
  refine Cal.of (i := 9) T (List.mem_of_getElem? (i := 8) rfl) (in_fa 7 rfl) sc_buffer_left (fun vs H Q E h => ?_) (fun _ _ _ _ _ _ us hl => match us, hl with | [_, _, _, _, _], _ => rfl) (fun cdv A outer s H vs Q E hr h => ⟨t_buffer_left K, PSs.nox ?_, pure_buffer_left vs H Q E h⟩)
  · obtain ⟨I, pa, ba, wa, work, rfl, _⟩ := h
    rfl
  · exact (pss_cons (ps_set (i := 5) sc_buffer_left.nd rfl (by first | exact Or.inl rfl | exact Or.inr rfl) (pe_lst pa_nil))
  (pss_cons (ps_for PassesOwn.never rfl (pi_list (pe_cal C_legs_of (hr.mono (by decide)) pass0 (pa_cons (pv 0) (pa_cons (pv 1) (pa_cons (pv 2) (pa_cons (pv 3) pa_nil)))))) (pg_tup rfl (pgs_cons (pg_name (i := 6) sc_buffer_left.nd rfl (by first | exact Or.inl rfl | exact Or.inr rfl)) (pgs_cons (pg_name (i := 7) sc_buffer_left.nd rfl (by first | exact Or.inl rfl | exact Or.inr rfl)) (pgs_cons (pg_name (i := 8) sc_buffer_left.nd rfl (by first | exact Or.inl rfl | exact Or.inr rfl)) (pgs_cons (pg_name (i := 9) sc_buffer_left.nd rfl (by first | exact Or.inl rfl | exact Or.inr rfl)) (pgs_cons (pg_name (i := 10) sc_buffer_left.nd rfl (by first | exact Or.inl rfl | exact Or.inr rfl)) pgs_nil)))))) (pss_one (ps_if (PW.pt (pw_and (pt_cmpR op_eq (pv 7) (pv 4) (nomark _)) (pw_and1 (PW.pt (pw_or (pt_cmpR op_ne (pv 8) (pv 4) (nomark _)) (pw_or1 (pt_cmpR op_gt (pv 9) pe_int (nomark _)))))))) (pss_one (ps_expr (pe_bm PySem.F.plainAttrs_list PySem.F.slot_list_append PySem.F.type_list_append mt_append (pv 5) (pa_cons (pv 10) pa_nil)))) pss_nil)))
  (pss_one (ps_ret (pe_callBK (call_minD rfl (hu200 hr)) (by rfl) T.min (by decide +kernel) (pa_cons (pv 5) pa_nil) (pk_cons pe_non pk_nil))))))
end
end Bp

namespace Bp
open PySem PyProof.Rows L2 PySem.Spec
local macro_rules | `(tactic| walk_at "side") => `(tactic| first | assumption | omega | decide)
local macro_rules | `(tactic| walk_at "carry") => `(tactic| first | assumption | (refine Same.get (by assumption) ?_; walk_at "carry"))
local macro_rules | `(tactic| walk_at "tst") => `(tactic| first | exact Same.ts (by assumption) | exact SameX.ts1 (by assumption) (by assumption) (by intro _ z; cases z))
local macro_rules | `(tactic| walk_at "dat") => `(tactic| first | assumption | (with_reducible refine PlanA.mono (by walk_at "tst") ?_; walk_at "dat") | (with_reducible refine BeatsA.mono (by walk_at "tst") ?_; walk_at "dat") | (with_reducible refine WaitA.mono (by walk_at "tst") ?_; walk_at "dat") | (with_reducible refine GivenA.mono (by walk_at "tst") ?_; walk_at "dat") | (with_reducible refine TableA.mono (by walk_at "tst") ?_; walk_at "dat"))
local macro_rules | `(tactic| walk_at "at") => `(tactic| first | exact rfl | assumption | exact at_beat (by assumption) | exact at_tab (by assumption) | exact at_map (by assumption))
local macro_rules | `(tactic| walk_at "go1") => `(tactic| first
  | with_reducible refine rd_seq ?_
  | with_reducible refine rd_asg ?_
  | with_reducible refine rd_ret ?_
  | with_reducible refine rd_drop ?_
  | ((with_reducible refine' rd_var ?x1 ?x2); (case x1 => exact rfl))
  | with_reducible refine rd_c ?_
  | with_reducible refine rd_op ?_
  | with_reducible refine rd_un ?_
  | with_reducible refine rd_name ?_
  | with_reducible refine rd_I0 ?_
  | with_reducible refine rd_gcons ?_
  | with_reducible refine rd_gnil ?_
  | with_reducible refine rd_test ?_
  | with_reducible refine rd_B ?_
  | with_reducible refine rd_bl ?_
  | with_reducible refine rd_anil ?_
  | with_reducible refine rd_acons ?_
  | with_reducible refine rd_tup ?_
  | with_reducible refine rd_lst ?_
  | with_reducible refine rd_sdput ?_
  | with_reducible refine rd_call1 ?_
  | with_reducible refine rd_cb ?_
  | with_reducible refine rd_ifS ?_
  | with_reducible refine rd_next ?_
  | ((with_reducible refine' rd_I ?x1 ?x2); (case x1 => walk_at "side"))
  | ((with_reducible refine' rd_ixT ?x1 ?x2 ?x3); (case x1 => walk_at "carry"); (case x2 => walk_at "at"))
  | ((with_reducible refine' rd_lenT ?x1 ?x2); (case x1 => walk_at "carry"))
  | ((with_reducible refine' rd_lenL ?x1 ?x2); (case x1 => walk_at "carry"))
  | with_reducible refine rd_max2 ?_
  | with_reducible refine rd_isiI ?_
  | with_reducible refine rd_isiB ?_
  | ((with_reducible refine' rd_isiT ?x1 ?x2); (case x1 => walk_at "carry"))
  | with_reducible refine ite_yes ?_
  | with_reducible refine ite_no ?_
  | with_reducible refine ite_nf ?_
  | with_reducible refine ite_nt ?_
  | with_reducible refine rd_andV ?_
  | with_reducible refine rd_orV ?_
  | with_reducible refine rd_notV ?_
  | with_reducible refine rd_and ?_
  | with_reducible refine rd_or ?_
  | with_reducible refine rd_not ?_
  | with_reducible refine rd_eq rfl ?_
  | with_reducible refine rd_ne rfl ?_
  | ((with_reducible refine' rd_gtup ?x1 ?x2 ?x3); (case x1 => walk_at "carry"); (case x2 => exact rfl)))
local macro_rules | `(tactic| walk_at "go") => `(tactic| repeat walk_at "go1")
/-! ### a paper's chains -/
structure ChAt (H : Hp) (as : List Addr) (cs : List (Nat × List Nat)) : Prop where
  len : as.length = cs.length
  at_ : ∀ (i : Nat) (a : Addr) (c : Nat × List Nat), as[i]? = some a → cs[i]? = some c → ∃ ra, H a = some (.tup [.int (c.1 : Nat), .ref ra]) ∧ H ra = some (.tup (rowV c.2))
theorem ChAt.mono {H H' : Hp} {as : List Addr} {cs : List (Nat × List Nat)} (t : Tst H H') (h : ChAt H as cs) : ChAt H' as cs := ⟨h.len, fun i a c h1 h2 => by
  obtain ⟨ra, q1, q2⟩ := h.at_ i a c h1 h2
  exact ⟨ra, t _ _ q1, t _ _ q2⟩⟩
theorem ChAt.snoc {H : Hp} {as : List Addr} {cs : List (Nat × List Nat)} {a ra : Addr} {c : Nat × List Nat} (h : ChAt H as cs) (h1 : H a = some (.tup [.int (c.1 : Nat), .ref ra])) (h2 : H ra = some (.tup (rowV c.2))) : ChAt H (as ++ [a]) (cs ++ [c]) := by
  refine ⟨by simp [h.len], fun i b d hb hd => ?_⟩
  by_cases hi : i < as.length
  · rw [List.getElem?_append_left hi] at hb
    rw [List.getElem?_append_left (by rw [← h.len]; exact hi)] at hd
    exact h.at_ i b d hb hd
  · have e1 : i = as.length := by
      have := (List.getElem?_eq_some_iff.mp hb).1
      simp at this
      omega
    subst e1
    rw [List.getElem?_append_right (Nat.le_refl _)] at hb
    rw [h.len, List.getElem?_append_right (Nat.le_refl _)] at hd
    simp at hb hd
    rw [← hb, ← hd]
    exact ⟨ra, h1, h2⟩
def ChainsA (H : Hp) (cs : List (Nat × List Nat)) (a : Addr) : Prop := ∃ as : List Addr, H a = some (.tup (as.map V.ref)) ∧ ChAt H as cs
theorem ChainsA.mono {H H' : Hp} {cs : List (Nat × List Nat)} {a : Addr} (t : Tst H H') (h : ChainsA H cs a) : ChainsA H' cs a := by
  obtain ⟨as, h1, h2⟩ := h
  exact ⟨as, t _ _ h1, h2.mono t⟩
theorem small_text : ∀ n : Nat, n ≤ 200 → ((n : Int)).natAbs.log2 < 1920 ∧ (toString (n : Int) : Str).length ≤ 1000 := by
  have h : ((List.range 201).all fun n => decide (((n : Int)).natAbs.log2 < 1920) && decide ((toString (n : Int) : Str).length ≤ 1000)) = true := by decide +kernel
  intro n hn
  have z := List.all_eq_true.mp h n (List.mem_range.mpr (by omega))
  rw [Bool.and_eq_true] at z
  exact ⟨of_decide_eq_true z.1, of_decide_eq_true z.2⟩
theorem mono_cv {a : V} {i : Nat} : ∀ {σ : L2.St} (H : Hp) (Q Q' : List V → Hp → Prop), (∀ v H1, Q v H1 → Q' v H1) → (tCons (tC a) (tCons (tVar i) tNil)) σ H Q → (tCons (tC a) (tCons (tVar i) tNil)) σ H Q' := fun H Q Q' k ⟨v, h1, h2⟩ => ⟨v, h1, k _ _ h2⟩
theorem mem_spots {many works : Nat} {T : Tab} {k : Nat} {p : Nat × Nat} (h : (spots many works T)[k]? = some p) : p.1 < many ∧ p.2 < works := mem_grid.mp (List.mem_filter.mp (List.mem_of_getElem? h)).1
section
variable {K : PySem.W.Frag} {P : Program} {w : World} {mg : Str → Option Value} {base : Heap}
/-! ### lets_late -/
def sp_lets_late (K : PySem.W.Frag) : Sp := fun vs H Q E => ∃ (I : Inst) (many : Nat) (gv : List Gv) (T : Tab) (cs : List (Nat × List Nat)) (pa ba wa ga tha ta ca : Addr), vs = [.ref pa, .int I.cycle, .ref ba, .ref wa, .ref ga, .int (many : Nat), .ref tha] ∧ I.Ok ∧ many ≤ 12 ∧ GvOk I many gv ∧ gv.length ≤ 12 ∧
  PlanA H I pa ∧ BeatsA H I ba ∧ WaitA H I wa ∧ GivenA H gv ga ∧ H tha = some (.tup [.ref ta, .ref ca]) ∧ TableA H many I.beats.length T ta ∧ ChainsA H cs ca ∧
  (OkPaper I gv many T cs → ∀ H', Same H H' → Q (.bl true) H') ∧ (¬ OkPaper I gv many T cs → ∀ d H', Same H H' → E (.ref (aNP K)) (some d) H')
abbrev N_lets_late : List Str := ["plan", "cycle", "beats", "waiting", "given", "many", "thing", "table", "chains", "k", "work", "turn", "number", "s", "due"]
theorem sc_lets_late : FnScope N_lets_late ["plan", "cycle", "beats", "waiting", "given", "many", "thing"] (defScope (top 23)) := ⟨rfl, rfl, rfl, by decide +kernel, rfl, by decide +kernel, by decide +kernel⟩
def t_lets_late (K : PySem.W.Frag) (E : XK) : TS :=
  (tSeq (tDrop (tCall (sp_ask_shape K) [] E (tCons (tCB (rLenS K) (tCons (tOp (rIxT K) (tVar 0) (tC (.int 0))) tNil)) (tCons (tVar 5) (tCons (tVar 6) tNil)))))
  (tSeq (tAsg (tVar 6) (gTup K 2 (gCons (gName 7) (gCons (gName 8) gNil))))
  (tSeq (tFor (iEnumT K (tCons (tVar 4) tNil)) (gTup K 2 (gCons (gName 9) (gCons (gTup K 3 (gCons (gName 10) (gCons (gName 11) (gCons (gName 12) gNil)))) gNil))) (tIfS (tTest (tOp rLtI (tOp (rIxT K) (tOp (rIxT K) (tVar 7) (tVar 11)) (tVar 10)) (tVar 12))) (tRaiseNP K E (tCons (tC (.str "given")) (tCons (tVar 9) tNil))) tNext))
  (tSeq (tFor (iTup K (tVar 3)) (gName 13) (tIfS (tNot (tB (tCall sp_is_followed [] E0 (tCons (tVar 0) (tCons (tVar 1) (tCons (tVar 2) (tCons (tVar 7) (tCons (tVar 13) tNil)))))))) (tRaiseNP K E (tCons (tC (.str "span")) (tCons (tVar 13) tNil))) tNext))
  (tSeq (tFor (iEnum K (tCons (tCall sp_late_spots [] E0 (tCons (tVar 7) tNil)) tNil)) (gTup K 2 (gCons (gName 9) (gCons (gTup K 2 (gCons (gName 11) (gCons (gName 10) gNil))) gNil))) (tSeq (tAsg (tTup (tCons (tVar 11) (tCons (tVar 10) (tCons (tOp (rIxT K) (tOp (rIxT K) (tVar 7) (tVar 11)) (tVar 10)) tNil)))) (gName 14))
  (tIfS (tNot (tB (tCall sp_is_chain [] E0 (tCons (tVar 0) (tCons (tVar 1) (tCons (tVar 2) (tCons (tVar 3) (tCons (tVar 4) (tCons (tVar 14) (tCons (tOp (rIxT K) (tVar 8) (tVar 9)) tNil)))))))))) (tRaiseNP K E (tCons (tC (.str "chain")) (tCons (tVar 9) tNil))) tNext)))
  (tRet (tC (.bl true))))))))
theorem pure_lets_late (vs : List V) (H : Hp) (Q : VK) (E : XK) (h : sp_lets_late K vs H Q E) : t_lets_late K E { nx := fun _ H' => Q .non H', rt := Q } (start N_lets_late vs) H := by
  obtain ⟨I, many, gv, T, cs, pa, ba, wa, ga, tha, ta, ca, rfl, ok, hm, hgv, hgl, hP, hB, hW, hG, hth, hT, ⟨cas, hca, hcs⟩, hY, hNo⟩ := h
  obtain ⟨nb, sb, p1, p2, p3⟩ := hP.ex
  have hnl : (I.names.map V.str).length = I.beats.length := by rw [List.length_map, ok.nb]
  have lg : ("given" : Str).length ≤ 100 := by decide +kernel
  have lsp : ("span" : Str).length ≤ 100 := by decide +kernel
  have lch : ("chain" : Str).length ≤ 100 := by decide +kernel
  unfold t_lets_late
  walk_at "go"
  rw [hnl]
  refine ⟨I.beats.length, many, T, tha, ta, ca, cas.map V.ref, rfl, ok.w1, hm, hth, hT, hca, fun hnn hlen => ?_, fun hno d H1 e1 => hNo (fun z => hno ⟨fun t w ht hw => z.nn t w ht hw, by rw [List.length_map, hcs.len]; exact z.ln⟩) d H1 e1⟩
  rw [List.length_map, hcs.len] at hlen
  intro H1 e1
  walk_at "go"
  refine rd_forI ?_
  obtain ⟨gas, hga, hgr⟩ := hG
  refine ⟨_, rfl, ga, _, rfl, SqT.of (e1 _ _ hga), ?_⟩
  have hgl2 : (gas.map V.ref).length = gv.length := by rw [List.length_map, hgr.len, List.length_map]
  refine for_it walk_enumT (fun i σ' H' => ∃ (x9 x10 x11 x12 x13 x14 : Option V), σ' = [some (.ref pa), some (.int I.cycle), some (.ref ba), some (.ref wa), some (.ref ga), some (.int (many : Nat)), some (.ref tha), some (.ref ta), some (.ref ca), x9, x10, x11, x12, x13, x14] ∧ Same H H' ∧ ∀ g ∈ gv.take i, g.2.2 ≤ T g.2.1 g.1)
    ⟨none, none, none, none, none, none, rfl, e1, fun g hg => by simp at hg⟩ (fun i σ' H' _ ⟨_, _, _, _, _, _, _, e, _⟩ => SqT.of (e _ _ hga)) ?_ ?_
  · rintro i x σ' H' H3 hi ⟨x9, x10, x11, x12, x13, x14, rfl, e, hdone⟩ ⟨tp, x, y, rfl, htp, rfl, hx, hy⟩
    obtain rfl : V.int (i : Nat) = x := Option.some.inj hx
    obtain ⟨gpa, hgpa, rfl⟩ := get_map hy
    rw [hgl2] at hi
    have hge : gv[i]? = some gv[i] := List.getElem?_eq_getElem hi
    generalize gv[i] = g at hge
    have hgm : g ∈ gv := List.mem_of_getElem? hge
    have hrow : H gpa = some (.tup (gvRow g)) := hgr.at_ i gpa _ hgpa (by rw [List.getElem?_map, hge]; rfl)
    have e3 : Same H' (upd H' tp (.tup [.int (i : Nat), .ref gpa])) := Same.new htp
    have h3 : (upd H' tp (.tup [.int (i : Nat), .ref gpa])) tp = some (.tup [.int (i : Nat), .ref gpa]) := upd_same
    generalize upd H' tp (.tup [.int (i : Nat), .ref gpa]) = H3 at *
    have e03 := e.trans e3
    have hrow3 := e03 _ _ hrow
    have htm := hgv.t g hgm
    have hwm := hgv.w g hgm
    obtain ⟨as1, q1, a1, _, a2, a3⟩ := TableA.row (hT.mono e03.ts) htm
    walk_at "go"
    refine iteb (fun hb => ?_) (fun hb => ?_)
    · have hlt := of_decide_eq_true hb
      walk_at "go"
      refine rd_raise ?_ (fun H Q Q' k h => mono_cv H Q Q' k h)
      walk_at "go"
      obtain ⟨n1, n2⟩ := small_text i (by omega)
      refine ⟨_, _, rfl, lg, n1, n2, fun d H4 e4 => hNo (fun z => ?_) d H4 (e03.trans e4)⟩
      have := z.gi g hgm
      omega
    · have hge2 := of_decide_eq_false hb
      walk_at "go"
      refine ⟨_, _, _, _, _, _, rfl, e03, fun g' hg' => ?_⟩
      rw [take_snoc hge] at hg'
      rcases List.mem_append.mp hg' with hg' | hg'
      · exact hdone g' hg'
      · rw [List.mem_singleton.mp hg']
        omega
  rintro σ' H2 ⟨x9, x10, x11, x12, x13, x14, rfl, e2, hgi⟩
  rw [hgl2, List.take_length] at hgi
  walk_at "go"
  refine rd_forTv (a := wa) rfl (e2 _ _ hW) (fun i σ' H' => ∃ (x9 x10 x11 x12 x13 x14 : Option V), σ' = [some (.ref pa), some (.int I.cycle), some (.ref ba), some (.ref wa), some (.ref ga), some (.int (many : Nat)), some (.ref tha), some (.ref ta), some (.ref ca), x9, x10, x11, x12, x13, x14] ∧ Same H H' ∧ ∀ s ∈ I.wait.take i, ∀ t, Clo I many T s t)
    ⟨_, _, _, _, _, _, rfl, e2, fun s hs => by simp at hs⟩ (fun i σ' H' ⟨_, _, _, _, _, _, _, e, _⟩ => e _ _ hW) ?_ ?_
  · rintro i x σ' H' hx ⟨x9, x10, x11, x12, x13, x14, rfl, e, hdone⟩
    obtain ⟨s, hs, rfl⟩ := get_map hx
    have hsm : s ∈ I.wait := List.mem_of_getElem? hs
    have hsl := ok.wt s hsm
    walk_at "go"
    refine ⟨I, many, T, pa, ba, ta, s, rfl, ok, hm, hP.mono e.ts, hB.mono e.ts, hT.mono e.ts, hsl, fun b hb => ?_⟩
    cases b with
    | true =>
      walk_at "go"
      refine ⟨_, _, _, _, _, _, rfl, e, fun s' hs' => ?_⟩
      rw [take_snoc hs] at hs'
      rcases List.mem_append.mp hs' with hs' | hs'
      · exact hdone s' hs'
      · rw [List.mem_singleton.mp hs']
        exact hb.mp rfl
    | false =>
      walk_at "go"
      refine rd_raise ?_ (fun H Q Q' k h => mono_cv H Q Q' k h)
      walk_at "go"
      obtain ⟨n1, n2⟩ := small_text s (by have := ok.n1; omega)
      refine ⟨_, _, rfl, lsp, n1, n2, fun d H4 e4 => hNo (fun z => ?_) d H4 (e.trans e4)⟩
      have := hb.mpr (fun t ht => z.lg s hsm t ht)
      cases this
  rintro σ' H3 ⟨x9, x10, x11, x12, x13, x14, rfl, e3, hlg⟩
  have hwl : (I.wait.map fun n : Nat => V.int n).length = I.wait.length := List.length_map ..
  rw [hwl, List.take_length] at hlg
  walk_at "go"
  refine rd_forI ?_
  refine ⟨_, rfl, I.beats.length, many, T, ta, rfl, ok.w1, hm, hT.mono e3.ts, fun l H4 las e4 hl h4 hr => ?_⟩
  have e04 := e3.trans e4
  refine ⟨l, _, rfl, SqL.of h4, ?_⟩
  have hll : (las.map V.ref).length = (spots many I.beats.length T).length := by rw [List.length_map, hr.len, List.length_map]
  refine for_it walk_enum (fun i σ' H' => ∃ (x9 x10 x11 x12 x13 x14 : Option V), σ' = [some (.ref pa), some (.int I.cycle), some (.ref ba), some (.ref wa), some (.ref ga), some (.int (many : Nat)), some (.ref tha), some (.ref ta), some (.ref ca), x9, x10, x11, x12, x13, x14] ∧ Same H4 H' ∧
      ∀ (k : Nat) (p : Nat × Nat) (c : Nat × List Nat), k < i → (spots many I.beats.length T)[k]? = some p → cs[k]? = some c → chainRight I gv T p c)
    ⟨_, _, _, _, _, _, rfl, Same.refl _, fun k p c hk => absurd hk (Nat.not_lt_zero _)⟩ (fun i σ' H' _ ⟨_, _, _, _, _, _, _, e, _⟩ => SqL.of (e _ _ h4)) ?_ ?_
  · rintro i x σ' H' H5 hi ⟨x9, x10, x11, x12, x13, x14, rfl, e, hdone⟩ ⟨tp, x, y, rfl, htp, rfl, hx, hy⟩
    obtain rfl : V.int (i : Nat) = x := Option.some.inj hx
    obtain ⟨spa, hspa, rfl⟩ := get_map hy
    rw [hll] at hi
    have hpe : (spots many I.beats.length T)[i]? = some (spots many I.beats.length T)[i] := List.getElem?_eq_getElem hi
    generalize (spots many I.beats.length T)[i] = p at hpe
    obtain ⟨ht, hw⟩ := mem_spots hpe
    have hrow : H4 spa = some (.tup (spotRow p)) := hr.at_ i spa _ hspa (by rw [List.getElem?_map, hpe]; rfl)
    have hce : cs[i]? = some cs[i] := List.getElem?_eq_getElem (by omega)
    generalize cs[i] = c at hce
    have hcal : i < cas.length := by rw [hcs.len]; omega
    have hcae : cas[i]? = some cas[i] := List.getElem?_eq_getElem hcal
    generalize cas[i] = cpa at hcae
    obtain ⟨ra, r1, r2⟩ := hcs.at_ i cpa c hcae hce
    have e5 : Same H' (upd H' tp (.tup [.int (i : Nat), .ref spa])) := Same.new htp
    have h5 : (upd H' tp (.tup [.int (i : Nat), .ref spa])) tp = some (.tup [.int (i : Nat), .ref spa]) := upd_same
    generalize upd H' tp (.tup [.int (i : Nat), .ref spa]) = H5 at *
    have e45 := e.trans e5
    have e05 := e04.trans e45
    have hrow5 := e45 _ _ hrow
    obtain ⟨as1, q1, a1, _, a2, a3⟩ := TableA.row (hT.mono e05.ts) ht
    walk_at "go"
    refine newT (fun da H6 hda e6 h6 => ?_) rfl
    have e06 := e05.trans e6
    have hca6 := e06 _ _ hca
    have hat : atI (cas.map V.ref) (i : Int) = some (V.ref cpa) := at_map hcae
    walk_at "go"
    refine ⟨I, gv, pa, ba, wa, ga, da, cpa, ra, p.1, p.2, T p.1 p.2, c.1, c.2, rfl, ok, hP.mono e06.ts, hB.mono e06.ts, hW.mono e06.ts, ⟨gas, e06 _ _ hga, hgr.mono e06.ts⟩, h6, e06 _ _ r1, e06 _ _ r2, fun b H7 e7 hb => ?_⟩
    cases b with
    | true =>
      walk_at "go"
      refine ⟨_, _, _, _, _, _, rfl, (e45.trans e6).trans e7, fun k p' c' hk hp' hc' => ?_⟩
      by_cases ek : k = i
      · subst ek
        rw [hpe] at hp'
        rw [hce] at hc'
        rw [← Option.some.inj hp', ← Option.some.inj hc']
        exact hb.mp rfl
      · exact hdone k p' c' (by omega) hp' hc'
    | false =>
      walk_at "go"
      refine rd_raise ?_ (fun H Q Q' k h => mono_cv H Q Q' k h)
      walk_at "go"
      have hmw : many * I.beats.length ≤ 12 * 8 := Nat.mul_le_mul hm ok.w1
      have hsl := spots_len many I.beats.length T
      obtain ⟨n1, n2⟩ := small_text i (by omega)
      refine ⟨_, _, rfl, lch, n1, n2, fun d H8 e8 => hNo (fun z => ?_) d H8 ((e06.trans e7).trans e8)⟩
      have := hb.mpr (z.ch i p c hpe hce)
      cases this
  · rintro σ' H5 ⟨x9, x10, x11, x12, x13, x14, rfl, e, hdone⟩
    rw [hll] at hdone
    walk_at "go"
    refine hY ⟨hnn, hlen, hgi, fun s hs t ht => hlg s hs t ht, fun k p c hp hc => hdone k p c (List.getElem?_eq_some_iff.mp hp).1 hp hc⟩ H5 (e04.trans e)
theorem ok_lets_late (T : Txt K mg) : Cal P w K mg base (L2.CX P w) "lets_late" 5 ["plan", "cycle", "beats", "waiting", "given", "many", "thing"] (sp_lets_late K) := by
  have C_ask_shape := ok_ask_shape (P := P) (w := w) (base := base) T
  have C_is_followed := ok_is_followed (P := P) (w := w) (base := base) T
  have C_is_chain := ok_is_chain (P := P) (w := w) (base := base) T
  have C_late_spots := ok_late_spots (P := P) (w := w) (base := base) T
  refine Cal.of (i := 23) T (List.mem_of_getElem? (i := 17) rfl) (in_fa 16 rfl) sc_lets_late (fun vs H Q E h => ?_) (fun _ _ _ _ _ _ us hl => match us, hl with | [_, _, _, _, _, _, _], _ => rfl) (fun cdv A outer s H vs Q E hr h => ⟨t_lets_late K E, ?_, pure_lets_late vs H Q E h⟩)
  · obtain ⟨I, many, gv, T, cs, pa, ba, wa, ga, tha, ta, ca, rfl, _⟩ := h
    rfl
  · exact (pss_cons (ps_expr (pe_cal C_ask_shape (hr.mono (by decide)) (passes_call (takes_of rfl rfl rfl rfl) (fun _ _ _ _ h => h)) (pa_cons (pe_callB call_len_seq (by rfl) T.len PySem.boot_len (pa_cons (pe_ix ix_tup (pv 0) pe_int (fun _ _ => rfl)) pa_nil)) (pa_cons (pv 5) (pa_cons (pv 6) pa_nil)))))
  (pss_cons (ps_asg (pv 6) (pg_tup rfl (pgs_cons (pg_name (i := 7) sc_lets_late.nd rfl (by first | exact Or.inl rfl | exact Or.inr rfl)) (pgs_cons (pg_name (i := 8) sc_lets_late.nd rfl (by first | exact Or.inl rfl | exact Or.inr rfl)) pgs_nil))))
  (pss_cons (ps_for (passes_of rfl) rfl (pi_enumT (by rfl) T.enumerate (pa_cons (pv 4) pa_nil)) (pg_tup rfl (pgs_cons (pg_name (i := 9) sc_lets_late.nd rfl (by first | exact Or.inl rfl | exact Or.inr rfl)) (pgs_cons (pg_tup rfl (pgs_cons (pg_name (i := 10) sc_lets_late.nd rfl (by first | exact Or.inl rfl | exact Or.inr rfl)) (pgs_cons (pg_name (i := 11) sc_lets_late.nd rfl (by first | exact Or.inl rfl | exact Or.inr rfl)) (pgs_cons (pg_name (i := 12) sc_lets_late.nd rfl (by first | exact Or.inl rfl | exact Or.inr rfl)) pgs_nil)))) pgs_nil))) (pss_one (ps_if (pt_cmpR op_lt (pe_ix ix_tup (pe_ix ix_tup (pv 7) (pv 11) (fun _ _ => rfl)) (pv 10) (fun _ _ => rfl)) (pv 12) (nomark _)) (pss_one (ps_raise rfl (takes_of rfl rfl rfl rfl) (pmk_np T hr (by decide) (pa_cons pe_str (pa_cons (pv 9) pa_nil))))) pss_nil)))
  (pss_cons (ps_for (passes_of rfl) rfl (pi_tup (pv 3)) (pg_name (i := 13) sc_lets_late.nd rfl (by first | exact Or.inl rfl | exact Or.inr rfl)) (pss_one (ps_if (pt_not (pt_val (pe_cal C_is_followed (hr.mono (by decide)) pass0 (pa_cons (pv 0) (pa_cons (pv 1) (pa_cons (pv 2) (pa_cons (pv 7) (pa_cons (pv 13) pa_nil)))))))) (pss_one (ps_raise rfl (takes_of rfl rfl rfl rfl) (pmk_np T hr (by decide) (pa_cons pe_str (pa_cons (pv 13) pa_nil))))) pss_nil)))
  (pss_cons (ps_for (passes_of rfl) rfl (pi_enum (by rfl) T.enumerate (pa_cons (pe_cal C_late_spots (hr.mono (by decide)) pass0 (pa_cons (pv 7) pa_nil)) pa_nil)) (pg_tup rfl (pgs_cons (pg_name (i := 9) sc_lets_late.nd rfl (by first | exact Or.inl rfl | exact Or.inr rfl)) (pgs_cons (pg_tup rfl (pgs_cons (pg_name (i := 11) sc_lets_late.nd rfl (by first | exact Or.inl rfl | exact Or.inr rfl)) (pgs_cons (pg_name (i := 10) sc_lets_late.nd rfl (by first | exact Or.inl rfl | exact Or.inr rfl)) pgs_nil))) pgs_nil))) (pss_cons (ps_set (i := 14) sc_lets_late.nd rfl (by first | exact Or.inl rfl | exact Or.inr rfl) (pe_tup (pa_cons (pv 11) (pa_cons (pv 10) (pa_cons (pe_ix ix_tup (pe_ix ix_tup (pv 7) (pv 11) (fun _ _ => rfl)) (pv 10) (fun _ _ => rfl)) pa_nil)))))
  (pss_one (ps_if (pt_not (pt_val (pe_cal C_is_chain (hr.mono (by decide)) pass0 (pa_cons (pv 0) (pa_cons (pv 1) (pa_cons (pv 2) (pa_cons (pv 3) (pa_cons (pv 4) (pa_cons (pv 14) (pa_cons (pe_ix ix_tup (pv 8) (pv 9) (fun _ _ => rfl)) pa_nil)))))))))) (pss_one (ps_raise rfl (takes_of rfl rfl rfl rfl) (pmk_np T hr (by decide) (pa_cons pe_str (pa_cons (pv 9) pa_nil))))) pss_nil))))
  (pss_one (ps_ret pe_bl)))))))
end
end Bp

namespace Bp
open PySem PyProof.Rows L2 PySem.Spec
local macro_rules | `(tactic| walk_at "side") => `(tactic| first | assumption | omega | decide)
local macro_rules | `(tactic| walk_at "carry") => `(tactic| first | assumption | (refine Same.get (by assumption) ?_; walk_at "carry"))
local macro_rules | `(tactic| walk_at "tst") => `(tactic| first | exact Same.ts (by assumption) | exact SameX.ts1 (by assumption) (by assumption) (by intro _ z; cases z))
local macro_rules | `(tactic| walk_at "dat") => `(tactic| first | assumption | (with_reducible refine PlanA.mono (by walk_at "tst") ?_; walk_at "dat") | (with_reducible refine BeatsA.mono (by walk_at "tst") ?_; walk_at "dat") | (with_reducible refine WaitA.mono (by walk_at "tst") ?_; walk_at "dat") | (with_reducible refine GivenA.mono (by walk_at "tst") ?_; walk_at "dat") | (with_reducible refine TableA.mono (by walk_at "tst") ?_; walk_at "dat"))
local macro_rules | `(tactic| walk_at "at") => `(tactic| first | exact rfl | assumption | exact at_beat (by assumption) | exact at_tab (by assumption) | exact at_map (by assumption))
local macro_rules | `(tactic| walk_at "go1") => `(tactic| first
  | with_reducible refine rd_seq ?_
  | with_reducible refine rd_asg ?_
  | with_reducible refine rd_ret ?_
  | with_reducible refine rd_drop ?_
  | ((with_reducible refine' rd_var ?x1 ?x2); (case x1 => exact rfl))
  | with_reducible refine rd_c ?_
  | with_reducible refine rd_op ?_
  | with_reducible refine rd_un ?_
  | with_reducible refine rd_name ?_
  | with_reducible refine rd_I0 ?_
  | with_reducible refine rd_gcons ?_
  | with_reducible refine rd_gnil ?_
  | with_reducible refine rd_test ?_
  | with_reducible refine rd_B ?_
  | with_reducible refine rd_bl ?_
  | with_reducible refine rd_anil ?_
  | with_reducible refine rd_acons ?_
  | with_reducible refine rd_tup ?_
  | with_reducible refine rd_lst ?_
  | with_reducible refine rd_sdput ?_
  | with_reducible refine rd_call1 ?_
  | with_reducible refine rd_cb ?_
  | with_reducible refine rd_ifS ?_
  | with_reducible refine rd_next ?_
  | ((with_reducible refine' rd_I ?x1 ?x2); (case x1 => walk_at "side"))
  | ((with_reducible refine' rd_ixT ?x1 ?x2 ?x3); (case x1 => walk_at "carry"); (case x2 => walk_at "at"))
  | ((with_reducible refine' rd_lenT ?x1 ?x2); (case x1 => walk_at "carry"))
  | ((with_reducible refine' rd_lenL ?x1 ?x2); (case x1 => walk_at "carry"))
  | with_reducible refine rd_max2 ?_
  | with_reducible refine rd_isiI ?_
  | with_reducible refine rd_isiB ?_
  | ((with_reducible refine' rd_isiT ?x1 ?x2); (case x1 => walk_at "carry"))
  | with_reducible refine ite_yes ?_
  | with_reducible refine ite_no ?_
  | with_reducible refine ite_nf ?_
  | with_reducible refine ite_nt ?_
  | with_reducible refine rd_andV ?_
  | with_reducible refine rd_orV ?_
  | with_reducible refine rd_notV ?_
  | with_reducible refine rd_and ?_
  | with_reducible refine rd_or ?_
  | with_reducible refine rd_not ?_
  | with_reducible refine rd_eq rfl ?_
  | with_reducible refine rd_ne rfl ?_
  | ((with_reducible refine' rd_gtup ?x1 ?x2 ?x3); (case x1 => walk_at "carry"); (case x2 => exact rfl)))
local macro_rules | `(tactic| walk_at "go") => `(tactic| repeat walk_at "go1")
section
variable {K : PySem.W.Frag} {P : Program} {w : World} {mg : Str → Option Value} {base : Heap}
/-! ### late_paper -/
def sp_late_paper : Sp := fun vs H Q _ => ∃ (I : Inst) (many : Nat) (gv : List Gv) (pa ba wa ga : Addr), vs = [.ref pa, .int I.cycle, .ref ba, .ref wa, .ref ga, .int (many : Nat)] ∧ I.Ok ∧ many ≤ 12 ∧ GvOk I many gv ∧ gv.length ≤ 12 ∧ PlanA H I pa ∧ BeatsA H I ba ∧ WaitA H I wa ∧ GivenA H gv ga ∧
  ∀ p ta ca cs H' N, Same H H' → H' p = some (.tup [.ref ta, .ref ca]) → TableA H' many I.beats.length N ta → Least I gv many N → ChainsA H' cs ca → OkPaper I gv many N cs → Q (.ref p) H'
abbrev N_late_paper : List Str := ["plan", "cycle", "beats", "waiting", "given", "many", "table", "numbers", "chains", "spot"]
theorem sc_late_paper : FnScope N_late_paper ["plan", "cycle", "beats", "waiting", "given", "many"] (defScope (top 25)) := ⟨rfl, rfl, rfl, by decide +kernel, rfl, by decide +kernel, by decide +kernel⟩
def t_late_paper (K : PySem.W.Frag) : TS :=
  (tSeq (tAsg (tCall sp_lateness_of [] E0 (tCons (tVar 0) (tCons (tVar 1) (tCons (tVar 2) (tCons (tVar 3) (tCons (tVar 4) (tCons (tVar 5) tNil))))))) (gName 6))
  (tSeq (tAsg (tCall sp_spread [] E0 (tCons (tVar 0) (tCons (tVar 1) (tCons (tVar 2) (tCons (tVar 3) (tCons (tVar 4) (tCons (tVar 5) tNil))))))) (gTup K 2 (gCons (gName 7) (gCons (gName 8) gNil))))
  (tRet (tTup (tCons (tVar 6) (tCons (tCB (rTupOf K) (tCons (tLc (iList K (tCall sp_late_spots [] E0 (tCons (tVar 6) tNil))) (gName 9) tYes (tDGet (tVar 8) (tVar 9)) [9]) tNil)) tNil))))))
theorem pure_late_paper (vs : List V) (H : Hp) (Q : VK) (E : XK) (h : sp_late_paper vs H Q E) : t_late_paper K { nx := fun _ H' => Q .non H', rt := Q } (start N_late_paper vs) H := by
  obtain ⟨I, many, gv, pa, ba, wa, ga, rfl, ok, hm, hgv, hgl, hP, hB, hW, hG, hQ⟩ := h
  unfold t_late_paper
  walk_at "go"
  refine ⟨I, many, gv, pa, ba, wa, ga, rfl, ok, hm, hgv, hgl, hP, hB, hW, hG, fun ta H1 N e1 hT hL => ?_⟩
  walk_at "go"
  refine ⟨I, many, gv, pa, ba, wa, ga, rfl, ok, hm, hgv, hgl, hP.mono e1.ts, hB.mono e1.ts, hW.mono e1.ts, hG.mono e1.ts, fun p H2 dn dc num kvs cvs e2 hp hS hL2 => ?_⟩
  walk_at "go"
  obtain rfl : N = num := hL.unique hL2
  have hT2 := hT.mono e2.ts
  refine ⟨_, rfl, I.beats.length, many, N, ta, rfl, ok.w1, hm, hT2, fun l H3 las e3 hl h3 hr => ?_⟩
  refine ⟨l, rfl, ⟨_, SqL.of h3⟩, fun Dl hD => ?_⟩
  have hS3 := hS.same e3
  have hll : (las.map V.ref).length = (spots many I.beats.length N).length := by rw [List.length_map, hr.len, List.length_map]
  have hmw : many * I.beats.length ≤ 12 * 8 := Nat.mul_le_mul hm ok.w1
  have hsl := spots_len many I.beats.length N
  refine lc_list (xs := las.map V.ref) (fun i H' => Same H3 H' ∧ ∃ (as : List Addr) (cs : List (Nat × List Nat)), H' Dl = some (.lst (as.map V.ref)) ∧ as.length = i ∧ ChAt H' as cs ∧ ∀ (k : Nat) (p : Nat × Nat) (c : Nat × List Nat), (spots many I.beats.length N)[k]? = some p → cs[k]? = some c → chainRight I gv N p c)
    ⟨Same.new hD, [], [], upd_same, rfl, ⟨rfl, fun i a c h => by simp at h⟩, fun k p c _ h => by simp at h⟩ (fun i H' _ ⟨e, _⟩ => SqL.of (e _ _ h3)) ?_ ?_
  · rintro i x H' hx ⟨e, as, cs, hd, hal, hcs, hch⟩
    obtain ⟨spa, hspa, rfl⟩ := get_map hx
    have hi : i < (spots many I.beats.length N).length := by
      have z := (List.getElem?_eq_some_iff.mp hx).1
      rwa [hll] at z
    have hpe : (spots many I.beats.length N)[i]? = some (spots many I.beats.length N)[i] := List.getElem?_eq_getElem hi
    generalize (spots many I.beats.length N)[i] = sp at hpe
    have hrow : H3 spa = some (.tup (spotRow sp)) := hr.at_ i spa _ hspa (by rw [List.getElem?_map, hpe]; rfl)
    have hpos : 0 < N sp.1 sp.2 := of_decide_eq_true (List.mem_filter.mp (List.mem_of_getElem? hpe)).2
    obtain ⟨cp, cq, g, row, c1, c2, c3, c4⟩ := (hS3.same e).ch sp.1 sp.2 hpos
    refine ⟨rfl, ?_⟩
    walk_at "go"
    refine rd_yes (ite_yes ?_)
    refine rd_dgetV rfl rfl (.inl (hS3.same e).hc) (e _ _ hrow) c1 ?_
    refine ⟨_, hd, szl _ (by rw [List.length_map]; omega), ?_, as ++ [cp], cs ++ [(g, row)], ?_, ?_, ?_, ?_⟩
    · intro b o hb
      rw [upd_ne (ne_of_none hb hD)]
      exact e _ _ hb
    · rw [upd_same, List.map_append]
      rfl
    · rw [List.length_append, hal]
      rfl
    · have tt : Tst H' (upd H' Dl (.lst (as.map V.ref ++ [.ref cp]))) := (SameX.upd (o := .lst (as.map V.ref ++ [.ref cp]))).ts1 hd (by intro _ z; cases z)
      exact (hcs.mono tt).snoc (tt _ _ c2) (tt _ _ c3)
    · intro k p' c' hp' hc'
      have hcl : cs.length = i := by rw [← hcs.len, hal]
      by_cases hk : k < i
      · rw [List.getElem?_append_left (by omega)] at hc'
        exact hch k p' c' hp' hc'
      · have ek : k = i := by
          have z := (List.getElem?_eq_some_iff.mp hc').1
          simp at z
          omega
        subst ek
        rw [List.getElem?_append_right (by omega), hcl] at hc'
        simp at hc'
        rw [hpe] at hp'
        rw [← hc', ← Option.some.inj hp']
        have z := c4.short
        exact ⟨by show row.length ≤ 100; omega, c4.1⟩
  · rintro H4 ⟨e, as, cs, hd, hal, hcs, hch⟩
    rw [hll] at hal
    walk_at "go"
    refine rd_tupOf hd fun ca H5 hca e5 h5 => ?_
    walk_at "go"
    refine newT (fun p2 H6 hp2 e6 h6 => ?_) rfl
    have e36 := (e.trans e5).trans e6
    refine hQ p2 ta ca cs H6 N (((e1.trans e2).trans e3).trans e36) h6 (hT2.mono (e3.trans e36).ts) hL ⟨as, e6 _ _ h5, hcs.mono (e5.trans e6).ts⟩ ⟨fun t w _ _ => hL.fs.nn t w, by rw [← hcs.len, hal], hL.fs.gi, hL.fs.lg, hch⟩
theorem ok_late_paper (T : Txt K mg) : Cal P w K mg base CX0 "late_paper" 6 ["plan", "cycle", "beats", "waiting", "given", "many"] sp_late_paper := by
  have C_lateness_of := ok_lateness_of (P := P) (w := w) (base := base) T
  have C_spread := ok_spread (P := P) (w := w) (base := base) T
  have C_late_spots := ok_late_spots (P := P) (w := w) (base := base) T
  refine Cal.of (i := 25) T (List.mem_of_getElem? (i := 18) rfl) (in_fa 17 rfl) sc_late_paper (fun vs H Q E h => ?_) (fun _ _ _ _ _ _ us hl => match us, hl with | [_, _, _, _, _, _], _ => rfl) (fun cdv A outer s H vs Q E hr h => ⟨t_late_paper K, PSs.nox ?_, pure_late_paper vs H Q E h⟩)
  · obtain ⟨I, many, gv, pa, ba, wa, ga, rfl, _⟩ := h
    rfl
  · exact (pss_cons (ps_set (i := 6) sc_late_paper.nd rfl (by first | exact Or.inl rfl | exact Or.inr rfl) (pe_cal C_lateness_of (hr.mono (by decide)) pass0 (pa_cons (pv 0) (pa_cons (pv 1) (pa_cons (pv 2) (pa_cons (pv 3) (pa_cons (pv 4) (pa_cons (pv 5) pa_nil))))))))
  (pss_cons (ps_asg (pe_cal C_spread (hr.mono (by decide)) pass0 (pa_cons (pv 0) (pa_cons (pv 1) (pa_cons (pv 2) (pa_cons (pv 3) (pa_cons (pv 4) (pa_cons (pv 5) pa_nil))))))) (pg_tup rfl (pgs_cons (pg_name (i := 7) sc_late_paper.nd rfl (by first | exact Or.inl rfl | exact Or.inr rfl)) (pgs_cons (pg_name (i := 8) sc_late_paper.nd rfl (by first | exact Or.inl rfl | exact Or.inr rfl)) pgs_nil))))
  (pss_one (ps_ret (pe_tup (pa_cons (pv 6) (pa_cons (pe_callTy call_tuple_of (by rfl) T.tuple (by decide +kernel) (pa_cons (pe_lc (own := [("spot", 9)]) (g := (gName 9)) (tt := tYes) rfl sc_late_paper.nd (pi_list (pe_cal C_late_spots (hr.mono (by decide)) pass0 (pa_cons (pv 6) pa_nil))) (blkOk_by (own := [("spot", 9)]) (N := N_late_paper) (sc := defScope (top 25)) (by decide +kernel)) (fun _ _ _ _ _ => (pg_name (i := 9) sc_late_paper.nd rfl (by first | exact Or.inl rfl | exact Or.inr rfl))) (fun _ _ _ _ _ => pts_nil) (fun _ _ _ _ _ => (pe_dget (hu_of hr) (pv 8) (pv 9) (fun _ _ => rfl)))) pa_nil)) pa_nil)))))))
end
end Bp

namespace Bp
open PySem PyProof.Rows L2 PySem.Spec
local macro_rules | `(tactic| walk_at "side") => `(tactic| first | assumption | omega | decide)
local macro_rules | `(tactic| walk_at "carry") => `(tactic| first | assumption | (refine Same.get (by assumption) ?_; walk_at "carry"))
local macro_rules | `(tactic| walk_at "tst") => `(tactic| first | exact Same.ts (by assumption) | exact SameX.ts1 (by assumption) (by assumption) (by intro _ z; cases z))
local macro_rules | `(tactic| walk_at "dat") => `(tactic| first | assumption | (with_reducible refine PlanA.mono (by walk_at "tst") ?_; walk_at "dat") | (with_reducible refine BeatsA.mono (by walk_at "tst") ?_; walk_at "dat") | (with_reducible refine WaitA.mono (by walk_at "tst") ?_; walk_at "dat") | (with_reducible refine GivenA.mono (by walk_at "tst") ?_; walk_at "dat") | (with_reducible refine TableA.mono (by walk_at "tst") ?_; walk_at "dat"))
local macro_rules | `(tactic| walk_at "at") => `(tactic| first | exact rfl | assumption | exact at_beat (by assumption) | exact at_tab (by assumption) | exact at_map (by assumption))
local macro_rules | `(tactic| walk_at "go1") => `(tactic| first
  | with_reducible refine rd_seq ?_
  | with_reducible refine rd_asg ?_
  | with_reducible refine rd_ret ?_
  | with_reducible refine rd_drop ?_
  | ((with_reducible refine' rd_var ?x1 ?x2); (case x1 => exact rfl))
  | with_reducible refine rd_c ?_
  | with_reducible refine rd_op ?_
  | with_reducible refine rd_un ?_
  | with_reducible refine rd_name ?_
  | with_reducible refine rd_I0 ?_
  | with_reducible refine rd_gcons ?_
  | with_reducible refine rd_gnil ?_
  | with_reducible refine rd_test ?_
  | with_reducible refine rd_B ?_
  | with_reducible refine rd_bl ?_
  | with_reducible refine rd_anil ?_
  | with_reducible refine rd_acons ?_
  | with_reducible refine rd_tup ?_
  | with_reducible refine rd_lst ?_
  | with_reducible refine rd_sdput ?_
  | with_reducible refine rd_call1 ?_
  | with_reducible refine rd_cb ?_
  | with_reducible refine rd_ifS ?_
  | with_reducible refine rd_next ?_
  | ((with_reducible refine' rd_I ?x1 ?x2); (case x1 => walk_at "side"))
  | ((with_reducible refine' rd_ixT ?x1 ?x2 ?x3); (case x1 => walk_at "carry"); (case x2 => walk_at "at"))
  | ((with_reducible refine' rd_lenT ?x1 ?x2); (case x1 => walk_at "carry"))
  | ((with_reducible refine' rd_lenL ?x1 ?x2); (case x1 => walk_at "carry"))
  | with_reducible refine rd_max2 ?_
  | with_reducible refine rd_isiI ?_
  | with_reducible refine rd_isiB ?_
  | ((with_reducible refine' rd_isiT ?x1 ?x2); (case x1 => walk_at "carry"))
  | with_reducible refine ite_yes ?_
  | with_reducible refine ite_no ?_
  | with_reducible refine ite_nf ?_
  | with_reducible refine ite_nt ?_
  | with_reducible refine rd_andV ?_
  | with_reducible refine rd_orV ?_
  | with_reducible refine rd_notV ?_
  | with_reducible refine rd_and ?_
  | with_reducible refine rd_or ?_
  | with_reducible refine rd_not ?_
  | with_reducible refine rd_eq rfl ?_
  | with_reducible refine rd_ne rfl ?_
  | ((with_reducible refine' rd_gtup ?x1 ?x2 ?x3); (case x1 => walk_at "carry"); (case x2 => exact rfl)))
local macro_rules | `(tactic| walk_at "go") => `(tactic| repeat walk_at "go1")
/-! ### the feed -/
def fdK (c : Addr) (a l t : Int) : List (Key × V) := [(.inr "cells", .ref c), (.inr "at", .int a), (.inr "left", .int l), (.inr "turn", .int t)]
theorem sne1 : ¬ ("cells" : Str) = "at" := by decide +kernel
theorem sme1 : ¬ ("at" : Str) = "cells" := fun z => sne1 z.symm
theorem kne1 : ¬ (Sum.inr ("cells" : Str) : Key) = Sum.inr ("at" : Str) := fun z => sne1 (Sum.inr.inj z)
theorem sne2 : ¬ ("cells" : Str) = "left" := by decide +kernel
theorem sme2 : ¬ ("left" : Str) = "cells" := fun z => sne2 z.symm
theorem kne2 : ¬ (Sum.inr ("cells" : Str) : Key) = Sum.inr ("left" : Str) := fun z => sne2 (Sum.inr.inj z)
theorem sne3 : ¬ ("cells" : Str) = "turn" := by decide +kernel
theorem sme3 : ¬ ("turn" : Str) = "cells" := fun z => sne3 z.symm
theorem kne3 : ¬ (Sum.inr ("cells" : Str) : Key) = Sum.inr ("turn" : Str) := fun z => sne3 (Sum.inr.inj z)
theorem sne4 : ¬ ("at" : Str) = "left" := by decide +kernel
theorem sme4 : ¬ ("left" : Str) = "at" := fun z => sne4 z.symm
theorem kne4 : ¬ (Sum.inr ("at" : Str) : Key) = Sum.inr ("left" : Str) := fun z => sne4 (Sum.inr.inj z)
theorem sne5 : ¬ ("at" : Str) = "turn" := by decide +kernel
theorem sme5 : ¬ ("turn" : Str) = "at" := fun z => sne5 z.symm
theorem kne5 : ¬ (Sum.inr ("at" : Str) : Key) = Sum.inr ("turn" : Str) := fun z => sne5 (Sum.inr.inj z)
theorem sne6 : ¬ ("left" : Str) = "turn" := by decide +kernel
theorem sme6 : ¬ ("turn" : Str) = "left" := fun z => sne6 z.symm
theorem kne6 : ¬ (Sum.inr ("left" : Str) : Key) = Sum.inr ("turn" : Str) := fun z => sne6 (Sum.inr.inj z)
theorem fv_c {c : Addr} {a l t : Int} : valV (fdK c a l t) (.inr "cells") = some (.ref c) := valV_pos rfl
theorem fv_a {c : Addr} {a l t : Int} : valV (fdK c a l t) (.inr "at") = some (.int a) := (valV_neg kne1).trans (valV_pos rfl)
theorem fv_l {c : Addr} {a l t : Int} : valV (fdK c a l t) (.inr "left") = some (.int l) := (valV_neg kne2).trans ((valV_neg kne4).trans (valV_pos rfl))
theorem fv_t {c : Addr} {a l t : Int} : valV (fdK c a l t) (.inr "turn") = some (.int t) := (valV_neg kne3).trans ((valV_neg kne5).trans ((valV_neg kne6).trans (valV_pos rfl)))
theorem fp_a {c : Addr} {a l t b : Int} : putK (fdK c a l t) (.inr "at") (.int b) = fdK c b l t := by
  simp [putK, fdK, sne1, sme1, sne2, sme2, sne3, sme3, sne4, sme4, sne5, sme5, sne6, sme6]
theorem fp_l {c : Addr} {a l t b : Int} : putK (fdK c a l t) (.inr "left") (.int b) = fdK c a b t := by
  simp [putK, fdK, sne1, sme1, sne2, sme2, sne3, sme3, sne4, sme4, sne5, sme5, sne6, sme6]
theorem fp_t {c : Addr} {a l t b : Int} : putK (fdK c a l t) (.inr "turn") (.int b) = fdK c a l b := by
  simp [putK, fdK, sne1, sme1, sne2, sme2, sne3, sme3, sne4, sme4, sne5, sme5, sne6, sme6]
theorem fp_new {c : Addr} {a l t : Int} : mergeK [] (fdK c a l t) = fdK c a l t := by
  simp [mergeK, putK, fdK, sne1, sme1, sne2, sme2, sne3, sme3, sne4, sme4, sne5, sme5, sne6, sme6]
def Feed (H : Hp) (f c : Addr) : Prop := ∃ (ns : List Int) (a l t : Int), H f = some (.dK (fdK c a l t)) ∧ H c = some (.lst (ns.map V.int)) ∧ 0 < ns.length ∧ 0 ≤ l
theorem Feed.same {H H' : Hp} {f c : Addr} (e : Same H H') (h : Feed H f c) : Feed H' f c := by
  obtain ⟨ns, a, l, t, h1, h2, h3, h4⟩ := h
  exact ⟨ns, a, l, t, e _ _ h1, e _ _ h2, h3, h4⟩
theorem Feed.ex {H : Hp} {f c : Addr} (h : Feed H f c) : ∃ u, H f = some u ∧ (∀ xs, u ≠ .tup xs) ∧ (∀ xs, u ≠ .lst xs) ∧ (∀ xs, u ≠ .dT xs) := by
  obtain ⟨ns, a, l, t, h1, _⟩ := h
  exact ⟨_, h1, fun _ z => (by cases z), fun _ z => (by cases z), fun _ z => (by cases z)⟩
theorem Feed.some {H : Hp} {f c : Addr} (h : Feed H f c) : H f ≠ none := by
  obtain ⟨u, h, _⟩ := h.ex
  rw [h]
  intro z
  cases z
/-- from H to H' only the feed moved on -/
structure Fx (f c : Addr) (H H' : Hp) : Prop where
  x : SameX [f] H H'
  f0 : Feed H f c
  fd : Feed H' f c
theorem Fx.refl {f c : Addr} {H : Hp} (h : Feed H f c) : Fx f c H H := ⟨SameX.refl _ _, h, h⟩
theorem Fx.trans {f c : Addr} {H H1 H2 : Hp} (a : Fx f c H H1) (b : Fx f c H1 H2) : Fx f c H H2 := ⟨a.x.trans b.x, a.f0, b.fd⟩
theorem Fx.same {f c : Addr} {H H1 H2 : Hp} (a : Fx f c H H1) (e : Same H1 H2) : Fx f c H H2 := ⟨a.x.trans e.x, a.f0, a.fd.same e⟩
theorem Fx.of {f c : Addr} {H H1 : Hp} (h : Feed H f c) (e : Same H H1) : Fx f c H H1 := ⟨e.x, h, h.same e⟩
theorem Fx.tup {f c a : Addr} {H H' : Hp} {xs : List V} (e : Fx f c H H') (h : H a = some (.tup xs)) : H' a = some (.tup xs) := by
  obtain ⟨u, h1, h2, _⟩ := e.f0.ex
  exact e.x.get1 h1 h fun z => h2 xs z.symm
theorem Fx.lst {f c a : Addr} {H H' : Hp} {xs : List V} (e : Fx f c H H') (h : H a = some (.lst xs)) : H' a = some (.lst xs) := by
  obtain ⟨u, h1, _, h2, _⟩ := e.f0.ex
  exact e.x.get1 h1 h fun z => h2 xs z.symm
theorem Fx.ts {f c : Addr} {H H' : Hp} (e : Fx f c H H') : Tst H H' := fun _ _ h => e.tup h
theorem Fx.free {f c a : Addr} {H H' : Hp} (e : Fx f c H H') (h : H' a = none) : H a = none := by
  by_cases c : a = f
  · subst c
    exact absurd h e.fd.some
  · cases q : H a with
    | none => rfl
    | some o =>
      have z := e.x a o (by simpa using c) q
      rw [h] at z
      cases z
/-- an own new object was changed too -/
theorem Fx.out {f c l : Addr} {H H1 H2 : Hp} (e : Fx f c H H1) (h : SameX [l] H1 H2) (hn : H l = none) : Fx f c H H2 := by
  refine ⟨fun a o ha q => h a o (fun z => ?_) (e.x a o ha q), e.f0, ?_⟩
  · rw [List.mem_singleton.mp z, hn] at q
    cases q
  · obtain ⟨ns, a, l', t, q1, q2, q3, q4⟩ := e.fd
    obtain ⟨ns', a', l'', t', r1, r2, _⟩ := e.f0
    have nf : f ≠ l := fun z => by rw [← z, r1] at hn; cases hn
    have nc : c ≠ l := fun z => by rw [← z, r2] at hn; cases hn
    exact ⟨ns, a, l', t, h _ _ (by simpa using nf) q1, h _ _ (by simpa using nc) q2, q3, q4⟩
theorem cpow18 : CPow 10 18 := ⟨by decide, by decide, by decide⟩
theorem cmL {i j : Int} (h1 : -1000000000 ≤ i) (h2 : i ≤ 1000000000) : CMul i j := .inl ⟨by omega, by omega⟩
theorem cmR {i j : Int} (h1 : -1000000000 ≤ j) (h2 : j ≤ 1000000000) : CMul i j := .inr ⟨by omega, by omega⟩
theorem cdv {i j : Int} (h1 : 0 < j) (h2 : j < 1073741824) : CDiv i j := ⟨h1, h2⟩
section
variable {P : Program} {w : World} {K : PySem.W.Frag} {mg : Str → Option Value} {base : Heap} {σ : L2.St} {H : Hp} {D : Ends} {v : V} {i : Nat} {d : Addr} {kvs kvs' : List (Key × V)} {z : Str} {Q : VK}
theorem rd_fgetK (hi : σ[i]? = some (some (.ref d))) (hd : H d = some (.dK kvs)) (hv : valV kvs (.inr z) = some v) (q : Q v H) : tDGet (tVar i) (tC (.str z)) σ H Q :=
  ⟨.ref d, hi, d, v, rfl, by rw [← hv]; exact DGet.k (k := .inr z) hd, q⟩
theorem rd_fput (hi : σ[i]? = some (some (.ref d))) (hd : H d = some (.dK kvs)) (hp : putK kvs (.inr z) v = kvs') (hl : kvs.length < 100000) (q : ∀ H2, SameX [d] H H2 → H2 d = some (.dK kvs') → D.nx σ H2) : PutAt (tVar i) (tC (.str z)) v D σ H :=
  ⟨.ref d, hi, d, _, rfl, DPut.k (k := .inr z) hd (szl _ hl), q _ SameX.upd (by rw [hp]; exact upd_same)⟩
local macro_rules | `(tactic| walk_at "side") => `(tactic| first | exact cpow18 | exact cdv (by omega) (by omega) | exact cmL (by omega) (by omega) | exact cmR (by omega) (by omega))
local macro_rules | `(tactic| walk_at "fv") => `(tactic| first | exact fv_c | exact fv_a | exact fv_l | exact fv_t)
local macro_rules | `(tactic| walk_at "go1") => `(tactic| ((with_reducible refine' rd_fgetK ?x1 ?x2 ?x3 ?x4); (case x1 => exact rfl); (case x2 => walk_at "carry"); (case x3 => walk_at "fv")))
/-! ### _law_draw -/
def sp__law_draw : Sp := fun vs H Q _ => ∃ (f c : Addr) (n : Int), vs = [.ref f, .int n] ∧ 0 < n ∧ n < 1073741824 ∧ Feed H f c ∧ ∀ r H', Fx f c H H' → 0 ≤ r → r < n → Q (.int r) H'
theorem use_draw {E : XK} {f c : Addr} {n : Int} (h0 : 0 < n) (h1 : n < 1073741824) (hf : Feed H f c) (q : ∀ r H', Fx f c H H' → 0 ≤ r → r < n → Q (.int r) H') : sp__law_draw [.ref f, .int n] H Q E := ⟨f, c, n, rfl, h0, h1, hf, q⟩
abbrev N__law_draw : List Str := ["_law_feed_here", "_law_many", "_law_cell", "_law_mixed", "_law_found"]
theorem sc__law_draw : FnScope N__law_draw ["_law_feed_here", "_law_many"] (defScope (top 28)) := ⟨rfl, rfl, rfl, by decide +kernel, rfl, by decide +kernel, by decide +kernel⟩
def t__law_draw (K : PySem.W.Frag) : TS :=
  (tSeq (sDPut (tVar 0) (tC (.str "turn")) (tOp rAddI (tDGet (tVar 0) (tC (.str "turn"))) (tC (.int 1))))
  (tSeq (tIfS (tTest (tOp rEq (tDGet (tVar 0) (tC (.str "left"))) (tC (.int 0)))) (tSeq (tAsg (tOp (rIxL K) (tDGet (tVar 0) (tC (.str "cells"))) (tOp rModI (tDGet (tVar 0) (tC (.str "at"))) (tCB (rLenS K) (tCons (tDGet (tVar 0) (tC (.str "cells"))) tNil)))) (gName 2))
  (tSeq (sDPut (tVar 0) (tC (.str "at")) (tOp rAddI (tDGet (tVar 0) (tC (.str "at"))) (tC (.int 1))))
  (tSeq (tIfS (tTest (tOp rLtI (tVar 2) (tOp rPowI (tC (.int 10)) (tC (.int 18))))) (tSeq (tAsg (tOp rModI (tOp rMulI (tOp rAddI (tOp rModI (tVar 2) (tC (.int 2147483629))) (tOp rMulI (tC (.int 1019)) (tDGet (tVar 0) (tC (.str "turn"))))) (tC (.int 48271))) (tC (.int 2147483647))) (gName 3))
  (tSeq (tAsg (tOp rModI (tOp rMulI (tOp rAddI (tOp rDivI (tVar 3) (tC (.int 13))) (tOp rMulI (tC (.int 43)) (tDGet (tVar 0) (tC (.str "turn"))))) (tC (.int 69621))) (tC (.int 2147483587))) (gName 3))
  (tRet (tOp rModI (tOp rDivI (tVar 3) (tC (.int 11))) (tVar 1))))) tNext)
  (sDPut (tVar 0) (tC (.str "left")) (tVar 2))))) tNext)
  (tSeq (tAsg (tOp rModI (tDGet (tVar 0) (tC (.str "left"))) (tVar 1)) (gName 4))
  (tSeq (sDPut (tVar 0) (tC (.str "left")) (tOp rDivI (tDGet (tVar 0) (tC (.str "left"))) (tVar 1)))
  (tRet (tVar 4))))))
theorem pure__law_draw (vs : List V) (H : Hp) (Q : VK) (E : XK) (h : sp__law_draw vs H Q E) : t__law_draw K { nx := fun _ H' => Q .non H', rt := Q } (start N__law_draw vs) H := by
  obtain ⟨f, c, n, rfl, hn0, hn1, hf, hQ⟩ := h
  obtain ⟨ns, a, l, t, q1, q2, q3, q4⟩ := id hf
  have nfc : c ≠ f := fun z => by rw [z, q1] at q2; cases q2
  unfold t__law_draw
  walk_at "go"
  refine rd_fput rfl q1 fp_t (by show 4 < 100000; decide) fun H1 e1 h1 => ?_
  have hc1 : H1 c = some (.lst (ns.map V.int)) := e1 _ _ (by simpa using nfc) q2
  have hlen : 0 < ((ns.map V.int).length : Int) := by rw [List.length_map]; omega
  walk_at "go"
  refine iteb (fun hb => ?_) (fun hb => ?_)
  · walk_at "go"
    have hm := Int.emod_nonneg a (b := ((ns.map V.int).length : Int)) (by omega)
    have hm2 := Int.emod_lt_of_pos a hlen
    obtain ⟨k, hk⟩ := Int.eq_ofNat_of_zero_le hm
    have hkl : k < ns.length := by rw [List.length_map] at hm2; rw [List.length_map] at hk; omega
    have hke : ns[k]? = some ns[k] := List.getElem?_eq_getElem hkl
    generalize ns[k] = x at hke
    refine rd_ixL hc1 (by rw [hk]; exact at_map hke) ?_
    walk_at "go"
    refine rd_fput rfl h1 fp_a (by show 4 < 100000; decide) fun H2 e2 h2 => ?_
    have hc2 : H2 c = some (.lst (ns.map V.int)) := e2 _ _ (by simpa using nfc) hc1
    walk_at "go"
    refine iteb (fun hb2 => ?_) (fun hb2 => ?_)
    · walk_at "go"
      exact hQ _ H2 ⟨e1.trans e2, hf, ns, _, l, _, h2, hc2, q3, q4⟩ (Int.emod_nonneg _ (by omega)) (Int.emod_lt_of_pos _ hn0)
    · walk_at "go"
      refine rd_fput rfl h2 fp_l (by show 4 < 100000; decide) fun H3 e3 h3 => ?_
      have hc3 : H3 c = some (.lst (ns.map V.int)) := e3 _ _ (by simpa using nfc) hc2
      have hx : (10 : Int) ^ (18 : Int).toNat ≤ x := by
        have z := of_decide_eq_false hb2
        omega
      have hx0 : 0 ≤ x := Int.le_trans (by decide) hx
      walk_at "go"
      refine rd_fput rfl h3 fp_l (by show 4 < 100000; decide) fun H4 e4 h4 => ?_
      have hc4 : H4 c = some (.lst (ns.map V.int)) := e4 _ _ (by simpa using nfc) hc3
      walk_at "go"
      exact hQ _ H4 ⟨((e1.trans e2).trans e3).trans e4, hf, ns, _, _, _, h4, hc4, q3, Int.ediv_nonneg hx0 (by omega)⟩ (Int.emod_nonneg _ (by omega)) (Int.emod_lt_of_pos _ hn0)
  · walk_at "go"
    refine rd_fput rfl h1 fp_l (by show 4 < 100000; decide) fun H4 e4 h4 => ?_
    have hc4 : H4 c = some (.lst (ns.map V.int)) := e4 _ _ (by simpa using nfc) hc1
    walk_at "go"
    exact hQ _ H4 ⟨e1.trans e4, hf, ns, _, _, _, h4, hc4, q3, Int.ediv_nonneg q4 (by omega)⟩ (Int.emod_nonneg _ (by omega)) (Int.emod_lt_of_pos _ hn0)
theorem ok__law_draw (T : Txt K mg) : Cal P w K mg base CX0 "_law_draw" 1 ["_law_feed_here", "_law_many"] sp__law_draw := by
  refine Cal.of (i := 28) T (List.mem_of_getElem? (i := 20) rfl) (in_fa 19 rfl) sc__law_draw (fun vs H Q E h => ?_) (fun _ _ _ _ _ _ us hl => match us, hl with | [_, _], _ => rfl) (fun cdv A outer s H vs Q E hr h => ⟨t__law_draw K, PSs.nox ?_, pure__law_draw vs H Q E h⟩)
  · obtain ⟨f, c, n, rfl, _⟩ := h
    rfl
  · exact (pss_cons (ps_dput (hu_of hr) (pv 0) pe_str (pe_op op_add (pe_dget (hu_of hr) (pv 0) pe_str (fun _ _ => rfl)) pe_int) rfl)
  (pss_cons (ps_if (pt_cmpR op_eq (pe_dget (hu_of hr) (pv 0) pe_str (fun _ _ => rfl)) pe_int (nomark _)) (pss_cons (ps_set (i := 2) sc__law_draw.nd rfl (by first | exact Or.inl rfl | exact Or.inr rfl) (pe_ix ix_list (pe_dget (hu_of hr) (pv 0) pe_str (fun _ _ => rfl)) (pe_op op_mod (pe_dget (hu_of hr) (pv 0) pe_str (fun _ _ => rfl)) (pe_callB call_len_seq (by rfl) T.len PySem.boot_len (pa_cons (pe_dget (hu_of hr) (pv 0) pe_str (fun _ _ => rfl)) pa_nil))) (fun _ _ => rfl)))
  (pss_cons (ps_dput (hu_of hr) (pv 0) pe_str (pe_op op_add (pe_dget (hu_of hr) (pv 0) pe_str (fun _ _ => rfl)) pe_int) rfl)
  (pss_cons (ps_if (pt_cmpR op_lt (pv 2) (pe_op op_pow pe_int pe_int) (nomark _)) (pss_cons (ps_set (i := 3) sc__law_draw.nd rfl (by first | exact Or.inl rfl | exact Or.inr rfl) (pe_op op_mod (pe_op op_mul (pe_op op_add (pe_op op_mod (pv 2) pe_int) (pe_op op_mul pe_int (pe_dget (hu_of hr) (pv 0) pe_str (fun _ _ => rfl)))) pe_int) pe_int))
  (pss_cons (ps_set (i := 3) sc__law_draw.nd rfl (by first | exact Or.inl rfl | exact Or.inr rfl) (pe_op op_mod (pe_op op_mul (pe_op op_add (pe_op op_fdiv (pv 3) pe_int) (pe_op op_mul pe_int (pe_dget (hu_of hr) (pv 0) pe_str (fun _ _ => rfl)))) pe_int) pe_int))
  (pss_one (ps_ret (pe_op op_mod (pe_op op_fdiv (pv 3) pe_int) (pv 1)))))) pss_nil)
  (pss_one (ps_dput (hu_of hr) (pv 0) pe_str (pv 2) rfl))))) pss_nil)
  (pss_cons (ps_set (i := 4) sc__law_draw.nd rfl (by first | exact Or.inl rfl | exact Or.inr rfl) (pe_op op_mod (pe_dget (hu_of hr) (pv 0) pe_str (fun _ _ => rfl)) (pv 1)))
  (pss_cons (ps_dput (hu_of hr) (pv 0) pe_str (pe_op op_fdiv (pe_dget (hu_of hr) (pv 0) pe_str (fun _ _ => rfl)) (pv 1)) rfl)
  (pss_one (ps_ret (pv 4)))))))
/-! ### _law_feed -/
theorem sq_same {a : Addr} {xs : List V} {H' : Hp} (e : Same H H') (h : SqL K H a xs) : SqL K H' a xs := by
  rcases (h) with (h | ⟨o, h⟩) | h
  · exact .inl (.inl (e _ _ h))
  · exact (.inl (.inr ⟨o, e _ _ h⟩))
  · exact .inr h
def sp__law_feed (K : PySem.W.Frag) : Sp := fun vs H Q _ => ∃ (a : Addr) (ns : List Int), vs = [.ref a] ∧ SqL K H a (ns.map V.int) ∧ ns.length ≤ 63 ∧ ∀ f c H', Same H H' → Feed H' f c → Q (.ref f) H'
abbrev N__law_feed : List Str := ["_law_script"]
theorem sc__law_feed : FnScope N__law_feed ["_law_script"] (defScope (top 27)) := ⟨rfl, rfl, rfl, by decide +kernel, rfl, by decide +kernel, by decide +kernel⟩
def t__law_feed (K : PySem.W.Frag) : TS :=
  (tRet (tDisp [((tC (.str "cells")), (tOp rCat (tCB (rListOf K) (tCons (tSl (rSlL K) (tVar 0) tNoPart (tPart (tC (.int 63)))) tNil)) (tOp rRep (tLst (tCons (tC (.int 0)) tNil)) (tCB rInt1 (tCons (tOp rEq (tCB (rLenS K) (tCons (tVar 0) tNil)) (tC (.int 0))) tNil))))), ((tC (.str "at")), (tC (.int 0))), ((tC (.str "left")), (tC (.int 0))), ((tC (.str "turn")), (tC (.int 0)))]))
theorem pure__law_feed (vs : List V) (H : Hp) (Q : VK) (E : XK) (h : sp__law_feed K vs H Q E) : t__law_feed K { nx := fun _ H' => Q .non H', rt := Q } (start N__law_feed vs) H := by
  obtain ⟨a, ns, rfl, ha, hl, hQ⟩ := h
  unfold t__law_feed
  walk_at "go"
  intro p hp
  have e1 : Same H (upd H p (.dK [])) := Same.new hp
  have h1 : (upd H p (.dK [])) p = some (.dK []) := upd_same
  generalize upd H p (.dK []) = H1 at *
  have ha1 := sq_same e1 ha
  refine ⟨_, rfl, 63, rfl, a, _, rfl, ha1, fun q hq => ?_⟩
  have e2 : Same H1 (upd H1 q (.lst (cutV (ns.map V.int) none (some 63)))) := Same.new hq
  have h2 : (upd H1 q (.lst (cutV (ns.map V.int) none (some 63)))) q = some (.lst (cutV (ns.map V.int) none (some 63))) := upd_same
  generalize upd H1 q (.lst (cutV (ns.map V.int) none (some 63))) = H2 at *
  have ec : cutV (ns.map V.int) none (some 63) = ns.map V.int := by
    unfold cutV
    have z : HT.sIx (ns.map V.int).length (ns.map V.int).length (some 63) = min 63 (ns.map V.int).length := HT.sIx_nat _ _ 63
    rw [HT.sIx_none, z, List.drop_zero, List.take_of_length_le]
    rw [List.length_map]
    omega
  rw [ec] at h2
  refine rd_anil ?_
  refine rd_listOf h2 fun g H3 hg e3 h3 => ?_
  walk_at "go"
  refine newL (fun u H4 hu e4 h4 => ?_) rfl
  have ha4 := sq_same e4 (sq_same e3 (sq_same e2 ha1))
  walk_at "go"
  refine ⟨a, _, rfl, .inl ha4, ?_⟩
  walk_at "go"
  have e04 := ((e1.trans e2).trans e3).trans e4
  refine .inr ⟨_, rfl, ?_⟩
  have hk : ∀ b : Bool, (-(2 ^ 63) ≤ (if b = true then 1 else 0 : Int)) ∧ (if b = true then 1 else 0 : Int) < 2 ^ 63 ∧ (if b = true then 1 else 0 : Int).toNat ≤ 1 := by decide
  obtain ⟨k1, k2, k3⟩ := hk (decide (V.int ((ns.map V.int).length : Int) = V.int 0))
  refine ⟨u, _, _, rfl, rfl, h4, k1, k2, by show 1 * _ ≤ _; exact Nat.le_trans (by omega) (sz 1 (by decide)), fun r hr => ?_⟩
  have e5 : Same H4 (upd H4 r (.lst (List.replicate (if (decide (V.int ((ns.map V.int).length : Int) = V.int 0)) = true then 1 else 0 : Int).toNat [V.int 0]).flatten)) := Same.new hr
  have h5 : (upd H4 r (.lst (List.replicate (if (decide (V.int ((ns.map V.int).length : Int) = V.int 0)) = true then 1 else 0 : Int).toNat [V.int 0]).flatten)) r = some (.lst (List.replicate (if (decide (V.int ((ns.map V.int).length : Int) = V.int 0)) = true then 1 else 0 : Int).toNat [V.int 0]).flatten) := upd_same
  generalize upd H4 r (.lst (List.replicate (if (decide (V.int ((ns.map V.int).length : Int) = V.int 0)) = true then 1 else 0 : Int).toNat [V.int 0]).flatten) = H5 at *
  obtain ⟨ms, hms, hml, hml2⟩ : ∃ ms : List Int, (List.replicate (if (decide (V.int ((ns.map V.int).length : Int) = V.int 0)) = true then 1 else 0 : Int).toNat [V.int 0]).flatten = ms.map V.int ∧ 0 < (ns ++ ms).length ∧ ms.length ≤ 1 := by
    cases ns with
    | nil => exact ⟨[0], rfl, by decide, by decide⟩
    | cons x xs =>
      refine ⟨[], ?_, by simp, by decide⟩
      rw [decide_eq_false (fun z => by injection z with z; simp at z; omega)]
      rfl
  rw [hms] at h5
  refine ⟨g, r, _, _, rfl, rfl, e5 _ _ (e4 _ _ h3), h5, sz _ (by rw [List.length_map, List.length_map]; omega), fun c hc => ?_⟩
  rw [← List.map_append]
  have e6 : Same H5 (upd H5 c (.lst ((ns ++ ms).map V.int))) := Same.new hc
  have h6 : (upd H5 c (.lst ((ns ++ ms).map V.int))) c = some (.lst ((ns ++ ms).map V.int)) := upd_same
  generalize upd H5 c (.lst ((ns ++ ms).map V.int)) = H6 at *
  have h16 := e6 _ _ (e5 _ _ (e4 _ _ (e3 _ _ (e2 _ _ h1))))
  refine ⟨h16, fdK c 0 0 0, rfl, by show 4 ≤ 15; decide, ?_⟩
  have ncp : c ≠ p := fun z => by rw [z, h16] at h6; cases h6
  rw [fp_new]
  refine hQ p c _ (SameX.out ((e04.trans e5).trans e6) (SameX.upd (l := p)) (fun z hz => by rw [List.mem_singleton.mp hz]; exact hp)) ⟨ns ++ ms, 0, 0, 0, upd_same, ?_, hml, by decide⟩
  rw [upd_ne ncp]
  exact h6
theorem ok__law_feed (T : Txt K mg) : Cal P w K mg base CX0 "_law_feed" 1 ["_law_script"] (sp__law_feed K) := by
  refine Cal.of (i := 27) T (List.mem_of_getElem? (i := 19) rfl) (in_fa 18 rfl) sc__law_feed (fun vs H Q E h => ?_) (fun _ _ _ _ _ _ us hl => match us, hl with | [_], _ => rfl) (fun cdv A outer s H vs Q E hr h => ⟨t__law_feed K, PSs.nox ?_, pure__law_feed vs H Q E h⟩)
  · obtain ⟨a, ns, rfl, _⟩ := h
    rfl
  · exact (pss_one (ps_ret (pe_disp (pps_cons pe_str (pe_op op_cat (pe_callTy call_list_of (by rfl) T.list (by decide +kernel) (pa_cons (pe_slice sl_list (pv 0) po_none (po_some pe_int)) pa_nil)) (pe_op op_rep (pe_lst (pa_cons pe_int pa_nil)) (pe_callTy call_int1 (by rfl) T.int (by decide +kernel) (pa_cons (pe_cmpR op_eq (pe_callB call_len_seq (by rfl) T.len PySem.boot_len (pa_cons (pv 0) pa_nil)) pe_int (nomark _)) pa_nil)))) (pps_cons pe_str pe_int (pps_cons pe_str pe_int (pps_cons pe_str pe_int pps_nil)))) (by rfl) (by rfl) (fun z => by cases z) (by decide))))
end
end Bp

namespace Bp
open PySem PyProof.Rows L2 PySem.Spec
local macro_rules | `(tactic| walk_at "side") => `(tactic| first | assumption | omega | decide)
local macro_rules | `(tactic| walk_at "carry") => `(tactic| first | assumption | (refine Same.get (by assumption) ?_; walk_at "carry"))
local macro_rules | `(tactic| walk_at "tst") => `(tactic| first | exact Same.ts (by assumption) | exact SameX.ts1 (by assumption) (by assumption) (by intro _ z; cases z))
local macro_rules | `(tactic| walk_at "dat") => `(tactic| first | assumption | (with_reducible refine PlanA.mono (by walk_at "tst") ?_; walk_at "dat") | (with_reducible refine BeatsA.mono (by walk_at "tst") ?_; walk_at "dat") | (with_reducible refine WaitA.mono (by walk_at "tst") ?_; walk_at "dat") | (with_reducible refine GivenA.mono (by walk_at "tst") ?_; walk_at "dat") | (with_reducible refine TableA.mono (by walk_at "tst") ?_; walk_at "dat"))
local macro_rules | `(tactic| walk_at "at") => `(tactic| first | exact rfl | assumption | exact at_beat (by assumption) | exact at_tab (by assumption) | exact at_map (by assumption))
local macro_rules | `(tactic| walk_at "go1") => `(tactic| first
  | with_reducible refine rd_seq ?_
  | with_reducible refine rd_asg ?_
  | with_reducible refine rd_ret ?_
  | with_reducible refine rd_drop ?_
  | ((with_reducible refine' rd_var ?x1 ?x2); (case x1 => exact rfl))
  | with_reducible refine rd_c ?_
  | with_reducible refine rd_op ?_
  | with_reducible refine rd_un ?_
  | with_reducible refine rd_name ?_
  | with_reducible refine rd_I0 ?_
  | with_reducible refine rd_gcons ?_
  | with_reducible refine rd_gnil ?_
  | with_reducible refine rd_test ?_
  | with_reducible refine rd_B ?_
  | with_reducible refine rd_bl ?_
  | with_reducible refine rd_anil ?_
  | with_reducible refine rd_acons ?_
  | with_reducible refine rd_tup ?_
  | with_reducible refine rd_lst ?_
  | with_reducible refine rd_sdput ?_
  | with_reducible refine rd_call1 ?_
  | with_reducible refine rd_cb ?_
  | with_reducible refine rd_ifS ?_
  | with_reducible refine rd_next ?_
  | ((with_reducible refine' rd_I ?x1 ?x2); (case x1 => walk_at "side"))
  | ((with_reducible refine' rd_ixT ?x1 ?x2 ?x3); (case x1 => walk_at "carry"); (case x2 => walk_at "at"))
  | ((with_reducible refine' rd_lenT ?x1 ?x2); (case x1 => walk_at "carry"))
  | ((with_reducible refine' rd_lenL ?x1 ?x2); (case x1 => walk_at "carry"))
  | with_reducible refine rd_max2 ?_
  | with_reducible refine rd_isiI ?_
  | with_reducible refine rd_isiB ?_
  | ((with_reducible refine' rd_isiT ?x1 ?x2); (case x1 => walk_at "carry"))
  | with_reducible refine ite_yes ?_
  | with_reducible refine ite_no ?_
  | with_reducible refine ite_nf ?_
  | with_reducible refine ite_nt ?_
  | with_reducible refine rd_andV ?_
  | with_reducible refine rd_orV ?_
  | with_reducible refine rd_notV ?_
  | with_reducible refine rd_and ?_
  | with_reducible refine rd_or ?_
  | with_reducible refine rd_not ?_
  | with_reducible refine rd_eq rfl ?_
  | with_reducible refine rd_ne rfl ?_
  | ((with_reducible refine' rd_gtup ?x1 ?x2 ?x3); (case x1 => walk_at "carry"); (case x2 => exact rfl)))
local macro_rules | `(tactic| walk_at "go") => `(tactic| repeat walk_at "go1")
/-! ### what is drawn -/
section
variable {P : Program} {w : World} {K : PySem.W.Frag} {mg : Str → Option Value} {base : Heap} {σ : L2.St} {H : Hp} {D : Ends} {v : V} {i j : Nat} {a d : Addr} {Q : VK} {te tv : TE} {m n : Int}
theorem rd_par {ta : TA} (h : ta σ H fun vs H1 => ∃ v w, vs = [v, w] ∧ D.nx ((σ.set i (some v)).set j (some w)) H1) : tPar i j ta D σ H := h
theorem rd_two {x y : V} {G : V → V → Prop} (h : G x y) : ∃ v w, [x, y] = [v, w] ∧ G v w := ⟨x, y, rfl, h⟩
theorem rd_catL {xs ys zs : List V} {b : Addr} (ha : H a = some (.lst xs)) (hb : H b = some (.lst ys)) (hz : xs.length + ys.length ≤ 100000) (e : xs ++ ys = zs) (q : ∀ p H1, H p = none → Same H H1 → H1 p = some (.lst zs) → Q (.ref p) H1) : rCat (.ref a) (.ref b) H Q := by
  subst e
  exact ⟨a, b, xs, ys, rfl, rfl, ha, hb, sz _ hz, fun p hp => q p _ hp (Same.new hp) upd_same⟩
theorem rd_pick {xs : List Int} (hx : H a = some (.lst (xs.map V.int))) (h0 : 0 ≤ m) (h1 : m < xs.length) (q : ∀ x, x ∈ xs → Q (.int x) H) : rIxL K (.ref a) (.int m) H Q := by
  obtain ⟨k, rfl⟩ := Int.eq_ofNat_of_zero_le h0
  have hk : k < xs.length := by omega
  exact rd_ixL hx (at_map (List.getElem?_eq_getElem hk)) (q _ (List.getElem_mem hk))
/-- a comprehension of drawn numbers -/
theorem rd_lcF {vs : List Nat} {f c : Addr} (Pr : Int → Prop) (h : ∀ Q : VK, Q (.int n) H → te σ H Q) (hn : n ≤ 90000) (hn0 : 0 ≤ n) (hf : Feed H f c) (hw : ∀ x, wipe ((wipe σ vs).set j (some x)) vs = wipe σ vs)
    (he : ∀ (i : Nat) H1, (i : Int) < n → Fx f c H H1 → ∀ Q : VK, (∀ x H2, Fx f c H1 H2 → Pr x → Q (.int x) H2) → tv ((wipe σ vs).set j (some (.int (i : Nat)))) H1 Q)
    (q : ∀ p H1 (xs : List Int), H p = none → Fx f c H H1 → H1 p = some (.lst (xs.map V.int)) → (xs.length : Int) = n → (∀ x ∈ xs, Pr x) → Q (.ref p) H1) : tLc (iRng1 (tCons te tNil)) (gName j) tYes tv vs σ H Q := by
  refine h _ ⟨n, rfl, by omega, by omega, fun Dl hD => ?_⟩
  refine lc_range (lo := 0) (n := n.toNat) (fun i H' => Fx f c H H' ∧ ∃ xs : List Int, H' Dl = some (.lst (xs.map V.int)) ∧ xs.length = i ∧ ∀ x ∈ xs, Pr x) ⟨(Fx.of hf (Same.new hD)), [], upd_same, rfl, fun x hx => by cases hx⟩ (fun i H' hi ⟨p1, xs, p2, p3, p4⟩ => ?_) (fun H' ⟨p1, xs, p2, p3, p4⟩ => q Dl H' xs hD p1 p2 (by omega) p4)
  have e0 : (0 : Int) + (i : Int) = (i : Int) := (Int.zero_add _)
  rw [e0]
  refine ⟨hw _, rd_yes ?_⟩
  refine ite_yes ?_
  refine he i H' (by omega) p1 _ fun x H2 e2 hx => ⟨_, e2.lst p2, szl _ (by rw [List.length_map]; omega), ?_⟩
  refine ⟨Fx.out (p1.trans e2) SameX.upd hD, xs ++ [x], ?_, by rw [List.length_append, p3]; rfl, fun y hy => ?_⟩
  · rw [upd_same, List.map_append]
    rfl
  · rcases List.mem_append.mp hy with hy | hy
    · exact p4 y hy
    · rw [List.mem_singleton.mp hy]
      exact hx
local macro_rules | `(tactic| walk_at "side") => `(tactic| first | exact cpow18 | exact cdv (by omega) (by omega) | exact cmL (by omega) (by omega) | exact cmR (by omega) (by omega))
local macro_rules | `(tactic| walk_at "go1") => `(tactic| first | with_reducible refine rd_par ?_ | with_reducible refine rd_two ?_)
/-! ### _law_names -/
def NM : List Str := ["a", "ab", "abc", "b", "ba", "works", "span", "apart", "at", "none", "hold", "zzzzzzzz", "z", "o", "find", "late", "n"]
def sp__law_names : Sp := fun vs H Q _ => ∃ (f c : Addr) (n : Nat), vs = [.ref f, .int (n : Nat)] ∧ n ≤ 8 ∧ Feed H f c ∧ ∀ p H' (ss : List Str), Fx f c H H' → H' p = some (.tup (ss.map V.str)) → ss.length = n → (∀ s ∈ ss, s ∈ NM) → Q (.ref p) H'
abbrev N__law_names : List Str := ["_law_feed_here", "_law_many", "_law_some", "_law_first", "_law_step", "_law_k"]
theorem sc__law_names : FnScope N__law_names ["_law_feed_here", "_law_many"] (defScope (top 29)) := ⟨rfl, rfl, rfl, by decide +kernel, rfl, by decide +kernel, by decide +kernel⟩
def t__law_names (K : PySem.W.Frag) : TS :=
  (tSeq (tAsg (tLst (tCons (tC (.str "a")) (tCons (tC (.str "ab")) (tCons (tC (.str "abc")) (tCons (tC (.str "b")) (tCons (tC (.str "ba")) (tCons (tC (.str "works")) (tCons (tC (.str "span")) (tCons (tC (.str "apart")) (tCons (tC (.str "at")) (tCons (tC (.str "none")) (tCons (tC (.str "hold")) (tCons (tC (.str "zzzzzzzz")) (tCons (tC (.str "z")) (tCons (tC (.str "o")) (tCons (tC (.str "find")) tNil)))))))))))))))) (gName 2))
  (tSeq (tAsg (tOp rCat (tVar 2) (tLst (tCons (tC (.str "late")) (tCons (tC (.str "n")) tNil)))) (gName 2))
  (tSeq (tAsg (tCall sp__law_draw [] E0 (tCons (tVar 0) (tCons (tC (.int 17)) tNil))) (gName 3))
  (tSeq (tAsg (tOp rAddI (tC (.int 1)) (tCall sp__law_draw [] E0 (tCons (tVar 0) (tCons (tC (.int 16)) tNil)))) (gName 4))
  (tRet (tCB (rTupOf K) (tCons (tLc (iRng1 (tCons (tVar 1) tNil)) (gName 5) tYes (tOp (rIxL K) (tVar 2) (tOp rModI (tOp rAddI (tVar 3) (tOp rMulI (tVar 4) (tVar 5))) (tC (.int 17)))) [5]) tNil)))))))
theorem pure__law_names (vs : List V) (H : Hp) (Q : VK) (E : XK) (h : sp__law_names vs H Q E) : t__law_names K { nx := fun _ H' => Q .non H', rt := Q } (start N__law_names vs) H := by
  obtain ⟨f, c, n, rfl, hn, hf, hQ⟩ := h
  unfold t__law_names
  walk_at "go"
  refine newL (fun l1 H1 hl1 e1 h1 => ?_) rfl
  walk_at "go"
  refine newL (fun l2 H2 hl2 e2 h2 => ?_) rfl
  refine rd_catL (zs := NM.map V.str) (e2 _ _ h1) h2 (by show 17 ≤ 100000; decide) rfl fun l3 H3 hl3 e3 h3 => ?_
  have x3 := Fx.of hf ((e1.trans e2).trans e3)
  walk_at "go"
  refine use_draw (by decide) (by decide) x3.fd fun r H4 x4 r0 r1 => ?_
  walk_at "go"
  refine use_draw (by decide) (by decide) x4.fd fun s H5 x5 s0 s1 => ?_
  walk_at "go"
  have h5 := x5.lst (x4.lst h3)
  refine rd_lcR (fun k => .str (NM.getD ((r + (1 + s) * (k : Int)) % 17).toNat "")) (n := (n : Nat)) (fun Q k => by walk_at "go"; exact k) (by omega) (by omega) (fun x => rfl) (fun k H6 hk e6 Q q => ?_) fun p H6 hp e6 h6 => ?_
  · walk_at "go"
    have m0 := Int.emod_nonneg (r + (1 + s) * (k : Int)) (b := 17) (by decide)
    have m1 := Int.emod_lt_of_pos (r + (1 + s) * (k : Int)) (b := 17) (by decide)
    obtain ⟨z, hz⟩ := Int.eq_ofNat_of_zero_le m0
    have hzl : z < NM.length := by show z < 17; omega
    refine rd_ixL (e6 _ _ h5) (v := .str (NM.getD z "")) (by rw [hz]; exact at_map (by rw [List.getD_eq_getElem?_getD, List.getElem?_eq_getElem hzl]; rfl)) ?_
    have e : ((r + (1 + s) * (k : Int)) % 17).toNat = z := by rw [hz]; rfl
    rw [← e]
    exact q H6 (Same.refl _)
  · walk_at "go"
    refine rd_tupOf h6 fun p2 H7 hp2 e7 h7 => ?_
    refine hQ p2 H7 ((List.range n).map fun k : Nat => NM.getD ((r + (1 + s) * (k : Int)) % 17).toNat "") (((x3.trans x4).trans x5).same (e6.trans e7)) (by rw [h7, List.map_map]; rfl) (by simp) fun y hy => ?_
    obtain ⟨k, _, rfl⟩ := List.mem_map.mp hy
    have m0 := Int.emod_nonneg (r + (1 + s) * (k : Int)) (b := 17) (by decide)
    have m1 := Int.emod_lt_of_pos (r + (1 + s) * (k : Int)) (b := 17) (by decide)
    have hzl : ((r + (1 + s) * (k : Int)) % 17).toNat < NM.length := by show _ < 17; omega
    rw [List.getD_eq_getElem?_getD, List.getElem?_eq_getElem hzl]
    exact List.getElem_mem hzl
theorem ok__law_names (T : Txt K mg) : Cal P w K mg base CX0 "_law_names" 2 ["_law_feed_here", "_law_many"] sp__law_names := by
  have C__law_draw := ok__law_draw (P := P) (w := w) (base := base) T
  refine Cal.of (i := 29) T (List.mem_of_getElem? (i := 21) rfl) (in_fa 20 rfl) sc__law_names (fun vs H Q E h => ?_) (fun _ _ _ _ _ _ us hl => match us, hl with | [_, _], _ => rfl) (fun cdv A outer s H vs Q E hr h => ⟨t__law_names K, PSs.nox ?_, pure__law_names vs H Q E h⟩)
  · obtain ⟨f, c, n, rfl, _⟩ := h
    rfl
  · exact (pss_cons (ps_set (i := 2) sc__law_names.nd rfl (by first | exact Or.inl rfl | exact Or.inr rfl) (pe_lst (pa_cons pe_str (pa_cons pe_str (pa_cons pe_str (pa_cons pe_str (pa_cons pe_str (pa_cons pe_str (pa_cons pe_str (pa_cons pe_str (pa_cons pe_str (pa_cons pe_str (pa_cons pe_str (pa_cons pe_str (pa_cons pe_str (pa_cons pe_str (pa_cons pe_str pa_nil)))))))))))))))))
  (pss_cons (ps_set (i := 2) sc__law_names.nd rfl (by first | exact Or.inl rfl | exact Or.inr rfl) (pe_op op_cat (pv 2) (pe_lst (pa_cons pe_str (pa_cons pe_str pa_nil)))))
  (pss_cons (ps_set (i := 3) sc__law_names.nd rfl (by first | exact Or.inl rfl | exact Or.inr rfl) (pe_cal C__law_draw (hr.mono (by decide)) pass0 (pa_cons (pv 0) (pa_cons pe_int pa_nil))))
  (pss_cons (ps_set (i := 4) sc__law_names.nd rfl (by first | exact Or.inl rfl | exact Or.inr rfl) (pe_op op_add pe_int (pe_cal C__law_draw (hr.mono (by decide)) pass0 (pa_cons (pv 0) (pa_cons pe_int pa_nil)))))
  (pss_one (ps_ret (pe_callTy call_tuple_of (by rfl) T.tuple (by decide +kernel) (pa_cons (pe_lc (own := [("_law_k", 5)]) (g := (gName 5)) (tt := tYes) rfl sc__law_names.nd (pi_range1 rfl T.range (pa_cons (pv 1) pa_nil)) (blkOk_by (own := [("_law_k", 5)]) (N := N__law_names) (sc := defScope (top 29)) (by decide +kernel)) (fun _ _ _ _ _ => (pg_name (i := 5) sc__law_names.nd rfl (by first | exact Or.inl rfl | exact Or.inr rfl))) (fun _ _ _ _ _ => pts_nil) (fun _ _ _ _ _ => (pe_ix ix_list (pv 2) (pe_op op_mod (pe_op op_add (pv 3) (pe_op op_mul (pv 4) (pv 5))) pe_int) (fun _ _ => rfl)))) pa_nil))))))))
/-! ### _law_number -/
def sp__law_number : Sp := fun vs H Q _ => ∃ (f c : Addr) (n : Int), vs = [.ref f, .int n] ∧ 0 < n ∧ n ≤ 600 ∧ Feed H f c ∧ ∀ r H', Fx f c H H' → 0 ≤ r → r ≤ 1800 → Q (.int r) H'
theorem use_number {E : XK} {f c : Addr} {n : Int} (h0 : 0 < n) (h1 : n ≤ 600) (hf : Feed H f c) (q : ∀ r H', Fx f c H H' → 0 ≤ r → r ≤ 1800 → Q (.int r) H') : sp__law_number [.ref f, .int n] H Q E := ⟨f, c, n, rfl, h0, h1, hf, q⟩
abbrev N__law_number : List Str := ["_law_feed_here", "_law_cycle"]
theorem sc__law_number : FnScope N__law_number ["_law_feed_here", "_law_cycle"] (defScope (top 30)) := ⟨rfl, rfl, rfl, by decide +kernel, rfl, by decide +kernel, by decide +kernel⟩
def t__law_number (K : PySem.W.Frag) : TS :=
  (tRet (tOp (rIxL K) (tLst (tCons (tC (.int 0)) (tCons (tCall sp__law_draw [] E0 (tCons (tVar 0) (tCons (tVar 1) tNil))) (tCons (tCall sp__law_draw [] E0 (tCons (tVar 0) (tCons (tVar 1) tNil))) (tCons (tCall sp__law_draw [] E0 (tCons (tVar 0) (tCons (tOp rAddI (tOp rMulI (tC (.int 3)) (tVar 1)) (tC (.int 1))) tNil))) tNil))))) (tCall sp__law_draw [] E0 (tCons (tVar 0) (tCons (tC (.int 4)) tNil)))))
theorem pure__law_number (vs : List V) (H : Hp) (Q : VK) (E : XK) (h : sp__law_number vs H Q E) : t__law_number K { nx := fun _ H' => Q .non H', rt := Q } (start N__law_number vs) H := by
  obtain ⟨f, c, n, rfl, hn0, hn, hf, hQ⟩ := h
  unfold t__law_number
  walk_at "go"
  refine use_draw (by omega) (by omega) hf fun r1 H1 x1 a1 b1 => ?_
  walk_at "go"
  refine use_draw (by omega) (by omega) x1.fd fun r2 H2 x2 a2 b2 => ?_
  walk_at "go"
  refine use_draw (by omega) (by omega) x2.fd fun r3 H3 x3 a3 b3 => ?_
  walk_at "go"
  refine newL (fun l H4 hl e4 h4 => ?_) rfl
  walk_at "go"
  refine use_draw (by omega) (by omega) (x3.fd.same e4) fun r5 H5 x5 a5 b5 => ?_
  refine rd_pick (xs := [0, r1, r2, r3]) (x5.lst h4) a5 (by show r5 < 4; exact b5) fun x hx => ?_
  have hb : 0 ≤ x ∧ x ≤ 1800 := by
    simp only [or_false, List.mem_cons, List.not_mem_nil] at hx
    omega
  exact hQ x H5 ((((x1.trans x2).trans x3).same e4).trans x5) hb.1 hb.2
theorem ok__law_number (T : Txt K mg) : Cal P w K mg base CX0 "_law_number" 2 ["_law_feed_here", "_law_cycle"] sp__law_number := by
  have C__law_draw := ok__law_draw (P := P) (w := w) (base := base) T
  refine Cal.of (i := 30) T (List.mem_of_getElem? (i := 22) rfl) (in_fa 21 rfl) sc__law_number (fun vs H Q E h => ?_) (fun _ _ _ _ _ _ us hl => match us, hl with | [_, _], _ => rfl) (fun cdv A outer s H vs Q E hr h => ⟨t__law_number K, PSs.nox ?_, pure__law_number vs H Q E h⟩)
  · obtain ⟨f, c, n, rfl, _⟩ := h
    rfl
  · exact (pss_one (ps_ret (pe_ix ix_list (pe_lst (pa_cons pe_int (pa_cons (pe_cal C__law_draw (hr.mono (by decide)) pass0 (pa_cons (pv 0) (pa_cons (pv 1) pa_nil))) (pa_cons (pe_cal C__law_draw (hr.mono (by decide)) pass0 (pa_cons (pv 0) (pa_cons (pv 1) pa_nil))) (pa_cons (pe_cal C__law_draw (hr.mono (by decide)) pass0 (pa_cons (pv 0) (pa_cons (pe_op op_add (pe_op op_mul pe_int (pv 1)) pe_int) pa_nil))) pa_nil))))) (pe_cal C__law_draw (hr.mono (by decide)) pass0 (pa_cons (pv 0) (pa_cons pe_int pa_nil))) (fun _ _ => rfl))))
/-! ### _law_beats -/
def sp__law_beats : Sp := fun vs H Q _ => ∃ (f c : Addr) (n : Nat) (cy : Int), vs = [.ref f, .int (n : Nat), .int cy] ∧ n ≤ 8 ∧ 0 < cy ∧ cy ≤ 600 ∧ Feed H f c ∧ ∀ p H' (bs : List Int), Fx f c H H' → H' p = some (.tup (bs.map V.int)) → bs.length = n → (∀ b ∈ bs, 0 ≤ b ∧ b < cy) → Q (.ref p) H'
abbrev N__law_beats : List Str := ["_law_feed_here", "_law_works", "_law_cycle", "_law_k"]
theorem sc__law_beats : FnScope N__law_beats ["_law_feed_here", "_law_works", "_law_cycle"] (defScope (top 34)) := ⟨rfl, rfl, rfl, by decide +kernel, rfl, by decide +kernel, by decide +kernel⟩
def t__law_beats (K : PySem.W.Frag) : TS :=
  (tRet (tCB (rTupOf K) (tCons (tLc (iRng1 (tCons (tVar 1) tNil)) (gName 3) tYes (tCall sp__law_draw [] E0 (tCons (tVar 0) (tCons (tVar 2) tNil))) [3]) tNil)))
theorem pure__law_beats (vs : List V) (H : Hp) (Q : VK) (E : XK) (h : sp__law_beats vs H Q E) : t__law_beats K { nx := fun _ H' => Q .non H', rt := Q } (start N__law_beats vs) H := by
  obtain ⟨f, c, n, cy, rfl, hn, hc0, hc, hf, hQ⟩ := h
  unfold t__law_beats
  walk_at "go"
  refine rd_lcF (fun b => 0 ≤ b ∧ b < cy) (n := (n : Nat)) (fun Q k => by walk_at "go"; exact k) (by omega) (by omega) hf (fun x => rfl) (fun k H1 hk x1 Q q => ?_) fun p H1 xs hp x1 h1 hl hall => ?_
  · walk_at "go"
    exact use_draw hc0 (by omega) x1.fd fun r H2 x2 r0 r1 => q r H2 x2 ⟨r0, r1⟩
  · walk_at "go"
    refine rd_tupOf h1 fun p2 H2 hp2 e2 h2 => ?_
    exact hQ p2 H2 xs (x1.same e2) h2 (by omega) hall
theorem ok__law_beats (T : Txt K mg) : Cal P w K mg base CX0 "_law_beats" 2 ["_law_feed_here", "_law_works", "_law_cycle"] sp__law_beats := by
  have C__law_draw := ok__law_draw (P := P) (w := w) (base := base) T
  refine Cal.of (i := 34) T (List.mem_of_getElem? (i := 26) rfl) (in_fa 25 rfl) sc__law_beats (fun vs H Q E h => ?_) (fun _ _ _ _ _ _ us hl => match us, hl with | [_, _, _], _ => rfl) (fun cdv A outer s H vs Q E hr h => ⟨t__law_beats K, PSs.nox ?_, pure__law_beats vs H Q E h⟩)
  · obtain ⟨f, c, n, cy, rfl, _⟩ := h
    rfl
  · exact (pss_one (ps_ret (pe_callTy call_tuple_of (by rfl) T.tuple (by decide +kernel) (pa_cons (pe_lc (own := [("_law_k", 3)]) (g := (gName 3)) (tt := tYes) rfl sc__law_beats.nd (pi_range1 rfl T.range (pa_cons (pv 1) pa_nil)) (blkOk_by (own := [("_law_k", 3)]) (N := N__law_beats) (sc := defScope (top 34)) (by decide +kernel)) (fun _ _ _ _ _ => (pg_name (i := 3) sc__law_beats.nd rfl (by first | exact Or.inl rfl | exact Or.inr rfl))) (fun _ _ _ _ _ => pts_nil) (fun _ _ _ _ _ => (pe_cal C__law_draw (hr.mono (by decide)) pass0 (pa_cons (pv 0) (pa_cons (pv 2) pa_nil))))) pa_nil))))
/-! ### _law_span -/
structure SpOk (works : Nat) (s : Span) : Prop where
  w : s.word = "apart" ∨ s.word = "span"
  o : s.one < works
  t : s.other < works
  l : 0 ≤ s.low ∧ s.low ≤ 10000
  h : -10000 ≤ s.high ∧ s.high ≤ 10000
def sp__law_span : Sp := fun vs H Q _ => ∃ (f c : Addr) (n : Nat) (cy : Int), vs = [.ref f, .int (n : Nat), .int cy] ∧ 0 < n ∧ n ≤ 8 ∧ 0 < cy ∧ cy ≤ 600 ∧ Feed H f c ∧ ∀ p H' (s : Span), Fx f c H H' → H' p = some (.tup s.row) → SpOk n s → Q (.ref p) H'
abbrev N__law_span : List Str := ["_law_feed_here", "_law_works", "_law_cycle", "_law_one", "_law_other", "_law_low", "_law_wide"]
theorem sc__law_span : FnScope N__law_span ["_law_feed_here", "_law_works", "_law_cycle"] (defScope (top 31)) := ⟨rfl, rfl, rfl, by decide +kernel, rfl, by decide +kernel, by decide +kernel⟩
def t__law_span (K : PySem.W.Frag) : TS :=
  (tSeq (tPar 3 4 (tCons (tCall sp__law_draw [] E0 (tCons (tVar 0) (tCons (tVar 1) tNil))) (tCons (tCall sp__law_draw [] E0 (tCons (tVar 0) (tCons (tVar 1) tNil))) tNil)))
  (tSeq (tAsg (tCall sp__law_number [] E0 (tCons (tVar 0) (tCons (tVar 2) tNil))) (gName 5))
  (tSeq (tIfS (tTest (tOp rEq (tCall sp__law_draw [] E0 (tCons (tVar 0) (tCons (tC (.int 3)) tNil))) (tC (.int 0)))) (tRet (tTup (tCons (tC (.str "apart")) (tCons (tVar 3) (tCons (tVar 4) (tCons (tVar 5) (tCons (tCall sp__law_number [] E0 (tCons (tVar 0) (tCons (tVar 2) tNil))) tNil))))))) tNext)
  (tSeq (tAsg (tOp (rIxL K) (tLst (tCons (tC (.int 0)) (tCons (tC (.int 0)) (tCons (tC (.int 1)) (tCons (tCall sp__law_draw [] E0 (tCons (tVar 0) (tCons (tVar 2) tNil))) (tCons (tOp rSubI (tVar 2) (tC (.int 1))) (tCons (tOp rAddI (tVar 2) (tCall sp__law_draw [] E0 (tCons (tVar 0) (tCons (tC (.int 5)) tNil)))) tNil))))))) (tCall sp__law_draw [] E0 (tCons (tVar 0) (tCons (tC (.int 6)) tNil)))) (gName 6))
  (tRet (tTup (tCons (tC (.str "span")) (tCons (tVar 3) (tCons (tVar 4) (tCons (tVar 5) (tCons (tOp rAddI (tVar 5) (tVar 6)) tNil)))))))))))
theorem pure__law_span (vs : List V) (H : Hp) (Q : VK) (E : XK) (h : sp__law_span vs H Q E) : t__law_span K { nx := fun _ H' => Q .non H', rt := Q } (start N__law_span vs) H := by
  obtain ⟨f, c, n, cy, rfl, hn0, hn, hc0, hc, hf, hQ⟩ := h
  unfold t__law_span
  walk_at "go"
  refine use_draw (by omega) (by omega) hf fun r1 H1 x1 a1 b1 => ?_
  walk_at "go"
  refine use_draw (by omega) (by omega) x1.fd fun r2 H2 x2 a2 b2 => ?_
  obtain ⟨o, rfl⟩ := Int.eq_ofNat_of_zero_le a1
  obtain ⟨t, rfl⟩ := Int.eq_ofNat_of_zero_le a2
  walk_at "go"
  refine use_number (by omega) (by omega) x2.fd fun lo H3 x3 a3 b3 => ?_
  walk_at "go"
  refine use_draw (by omega) (by omega) x3.fd fun r4 H4 x4 a4 b4 => ?_
  walk_at "go"
  have x04 := ((x1.trans x2).trans x3).trans x4
  refine iteb (fun hb => ?_) (fun hb => ?_)
  · walk_at "go"
    refine use_number (by omega) (by omega) x4.fd fun hi H5 x5 a5 b5 => ?_
    walk_at "go"
    refine newT (fun p H6 hp e6 h6 => ?_) rfl
    exact hQ p H6 ⟨"apart", o, t, lo, hi⟩ ((x04.trans x5).same e6) h6 ⟨.inl rfl, by show o < n; omega, by show t < n; omega, ⟨by show 0 ≤ lo; omega, by show lo ≤ 10000; omega⟩, ⟨by show -10000 ≤ hi; omega, by show hi ≤ 10000; omega⟩⟩
  · walk_at "go"
    refine use_draw (by omega) (by omega) x4.fd fun r5 H5 x5 a5 b5 => ?_
    walk_at "go"
    refine use_draw (by omega) (by omega) x5.fd fun r6 H6 x6 a6 b6 => ?_
    walk_at "go"
    refine newL (fun l H7 hl e7 h7 => ?_) rfl
    walk_at "go"
    refine use_draw (by omega) (by omega) (x6.fd.same e7) fun r8 H8 x8 a8 b8 => ?_
    refine rd_pick (xs := [0, 0, 1, r5, cy - 1, cy + r6]) (x8.lst h7) a8 (by show r8 < 6; exact b8) fun x hx => ?_
    have hb : 0 ≤ x ∧ x ≤ 1800 := by
      simp only [or_false, List.mem_cons, List.not_mem_nil] at hx
      omega
    walk_at "go"
    refine newT (fun p H9 hp e9 h9 => ?_) rfl
    exact hQ p H9 ⟨"span", o, t, lo, lo + x⟩ (((((x04.trans x5).trans x6).same e7).trans x8).same e9) h9 ⟨.inr rfl, by show o < n; omega, by show t < n; omega, ⟨by show 0 ≤ lo; omega, by show lo ≤ 10000; omega⟩, ⟨by show -10000 ≤ lo + x; omega, by show lo + x ≤ 10000; omega⟩⟩
theorem ok__law_span (T : Txt K mg) : Cal P w K mg base CX0 "_law_span" 3 ["_law_feed_here", "_law_works", "_law_cycle"] sp__law_span := by
  have C__law_draw := ok__law_draw (P := P) (w := w) (base := base) T
  have C__law_number := ok__law_number (P := P) (w := w) (base := base) T
  refine Cal.of (i := 31) T (List.mem_of_getElem? (i := 23) rfl) (in_fa 22 rfl) sc__law_span (fun vs H Q E h => ?_) (fun _ _ _ _ _ _ us hl => match us, hl with | [_, _, _], _ => rfl) (fun cdv A outer s H vs Q E hr h => ⟨t__law_span K, PSs.nox ?_, pure__law_span vs H Q E h⟩)
  · obtain ⟨f, c, n, cy, rfl, _⟩ := h
    rfl
  · exact (pss_cons (ps_par (by rfl) sc__law_span.nd rfl rfl (by decide) rfl rfl (pa_cons (pe_cal C__law_draw (hr.mono (by decide)) pass0 (pa_cons (pv 0) (pa_cons (pv 1) pa_nil))) (pa_cons (pe_cal C__law_draw (hr.mono (by decide)) pass0 (pa_cons (pv 0) (pa_cons (pv 1) pa_nil))) pa_nil)) (by rfl))
  (pss_cons (ps_set (i := 5) sc__law_span.nd rfl (by first | exact Or.inl rfl | exact Or.inr rfl) (pe_cal C__law_number (hr.mono (by decide)) pass0 (pa_cons (pv 0) (pa_cons (pv 2) pa_nil))))
  (pss_cons (ps_if (pt_cmpR op_eq (pe_cal C__law_draw (hr.mono (by decide)) pass0 (pa_cons (pv 0) (pa_cons pe_int pa_nil))) pe_int (nomark _)) (pss_one (ps_ret (pe_tup (pa_cons pe_str (pa_cons (pv 3) (pa_cons (pv 4) (pa_cons (pv 5) (pa_cons (pe_cal C__law_number (hr.mono (by decide)) pass0 (pa_cons (pv 0) (pa_cons (pv 2) pa_nil))) pa_nil)))))))) pss_nil)
  (pss_cons (ps_set (i := 6) sc__law_span.nd rfl (by first | exact Or.inl rfl | exact Or.inr rfl) (pe_ix ix_list (pe_lst (pa_cons pe_int (pa_cons pe_int (pa_cons pe_int (pa_cons (pe_cal C__law_draw (hr.mono (by decide)) pass0 (pa_cons (pv 0) (pa_cons (pv 2) pa_nil))) (pa_cons (pe_op op_sub (pv 2) pe_int) (pa_cons (pe_op op_add (pv 2) (pe_cal C__law_draw (hr.mono (by decide)) pass0 (pa_cons (pv 0) (pa_cons pe_int pa_nil)))) pa_nil))))))) (pe_cal C__law_draw (hr.mono (by decide)) pass0 (pa_cons (pv 0) (pa_cons pe_int pa_nil))) (fun _ _ => rfl)))
  (pss_one (ps_ret (pe_tup (pa_cons pe_str (pa_cons (pv 3) (pa_cons (pv 4) (pa_cons (pv 5) (pa_cons (pe_op op_add (pv 5) (pv 6)) pa_nil))))))))))))
/-! ### _law_fitting -/
def sp__law_fitting : Sp := fun vs H Q _ => ∃ (f c b : Addr) (bs : List Int) (cy : Int), vs = [.ref f, .ref b, .int cy] ∧ H b = some (.lst (bs.map V.int)) ∧ 0 < bs.length ∧ bs.length ≤ 8 ∧ 0 < cy ∧ cy ≤ 600 ∧ Feed H f c ∧ ∀ p H' (s : Span), Fx f c H H' → H' p = some (.tup s.row) → SpOk bs.length s → Q (.ref p) H'
abbrev N__law_fitting : List Str := ["_law_feed_here", "_law_beats_here", "_law_cycle", "_law_one", "_law_other", "_law_gap", "_law_low", "_law_length"]
theorem sc__law_fitting : FnScope N__law_fitting ["_law_feed_here", "_law_beats_here", "_law_cycle"] (defScope (top 32)) := ⟨rfl, rfl, rfl, by decide +kernel, rfl, by decide +kernel, by decide +kernel⟩
def t__law_fitting (K : PySem.W.Frag) : TS :=
  (tSeq (tPar 3 4 (tCons (tCall sp__law_draw [] E0 (tCons (tVar 0) (tCons (tCB (rLenS K) (tCons (tVar 1) tNil)) tNil))) (tCons (tCall sp__law_draw [] E0 (tCons (tVar 0) (tCons (tCB (rLenS K) (tCons (tVar 1) tNil)) tNil))) tNil)))
  (tSeq (tAsg (tOp rModI (tOp rSubI (tOp (rIxL K) (tVar 1) (tVar 4)) (tOp (rIxL K) (tVar 1) (tVar 3))) (tVar 2)) (gName 5))
  (tSeq (tIfS (tTest (tOp rEq (tCall sp__law_draw [] E0 (tCons (tVar 0) (tCons (tC (.int 3)) tNil))) (tC (.int 0)))) (tRet (tTup (tCons (tC (.str "apart")) (tCons (tVar 3) (tCons (tVar 4) (tCons (tCall sp__law_draw [] E0 (tCons (tVar 0) (tCons (tOp rAddI (tVar 5) (tC (.int 1))) tNil))) (tCons (tCall sp__law_draw [] E0 (tCons (tVar 0) (tCons (tOp rAddI (tOp rSubI (tVar 2) (tVar 5)) (tC (.int 1))) tNil))) tNil))))))) tNext)
  (tSeq (tAsg (tCall sp__law_number [] E0 (tCons (tVar 0) (tCons (tVar 2) tNil))) (gName 6))
  (tSeq (tAsg (tOp rAddI (tVar 6) (tOp rModI (tOp rSubI (tVar 5) (tVar 6)) (tVar 2))) (gName 7))
  (tRet (tTup (tCons (tC (.str "span")) (tCons (tVar 3) (tCons (tVar 4) (tCons (tVar 6) (tCons (tOp rAddI (tVar 7) (tOp (rIxL K) (tLst (tCons (tC (.int 0)) (tCons (tC (.int 0)) (tCons (tC (.int 1)) (tCons (tCall sp__law_draw [] E0 (tCons (tVar 0) (tCons (tVar 2) tNil))) tNil))))) (tCall sp__law_draw [] E0 (tCons (tVar 0) (tCons (tC (.int 4)) tNil))))) tNil))))))))))))
theorem pure__law_fitting (vs : List V) (H : Hp) (Q : VK) (E : XK) (h : sp__law_fitting vs H Q E) : t__law_fitting K { nx := fun _ H' => Q .non H', rt := Q } (start N__law_fitting vs) H := by
  obtain ⟨f, c, b, bs, cy, rfl, hb, hn0, hn, hc0, hc, hf, hQ⟩ := h
  have hlen : (bs.map V.int).length = bs.length := List.length_map ..
  unfold t__law_fitting
  walk_at "go"
  rw [hlen]
  refine use_draw (by omega) (by omega) hf fun r1 H1 x1 a1 b1 => ?_
  have hb1 := x1.lst hb
  walk_at "go"
  rw [hlen]
  refine use_draw (by omega) (by omega) x1.fd fun r2 H2 x2 a2 b2 => ?_
  have hb2 := x2.lst hb1
  obtain ⟨o, rfl⟩ := Int.eq_ofNat_of_zero_le a1
  obtain ⟨t, rfl⟩ := Int.eq_ofNat_of_zero_le a2
  walk_at "go"
  refine rd_pick (xs := bs) hb2 (by omega) b2 fun bt _ => ?_
  walk_at "go"
  refine rd_pick (xs := bs) hb2 (by omega) b1 fun bo _ => ?_
  walk_at "go"
  have g0 := Int.emod_nonneg (bt - bo) (b := cy) (by omega)
  have g1 := Int.emod_lt_of_pos (bt - bo) hc0
  generalize (bt - bo) % cy = gap at *
  refine use_draw (by omega) (by omega) x2.fd fun r4 H4 x4 a4 b4 => ?_
  walk_at "go"
  have x04 := (x1.trans x2).trans x4
  refine iteb (fun hb => ?_) (fun hb => ?_)
  · walk_at "go"
    refine use_draw (by omega) (by omega) x4.fd fun lo H5 x5 a5 b5 => ?_
    walk_at "go"
    refine use_draw (by omega) (by omega) x5.fd fun hi H6 x6 a6 b6 => ?_
    walk_at "go"
    refine newT (fun p H7 hp e7 h7 => ?_) rfl
    exact hQ p H7 ⟨"apart", o, t, lo, hi⟩ (((x04.trans x5).trans x6).same e7) h7 ⟨.inl rfl, by show o < bs.length; omega, by show t < bs.length; omega, ⟨by show 0 ≤ lo; omega, by show lo ≤ 10000; omega⟩, ⟨by show -10000 ≤ hi; omega, by show hi ≤ 10000; omega⟩⟩
  · walk_at "go"
    refine use_number (by omega) (by omega) x4.fd fun lo H5 x5 a5 b5 => ?_
    walk_at "go"
    have m0 := Int.emod_nonneg (gap - lo) (b := cy) (by omega)
    have m1 := Int.emod_lt_of_pos (gap - lo) hc0
    generalize (gap - lo) % cy = ml at *
    refine use_draw (by omega) (by omega) x5.fd fun r6 H6 x6 a6 b6 => ?_
    walk_at "go"
    refine newL (fun l H7 hl e7 h7 => ?_) rfl
    walk_at "go"
    refine use_draw (by omega) (by omega) (x6.fd.same e7) fun r8 H8 x8 a8 b8 => ?_
    refine rd_pick (xs := [0, 0, 1, r6]) (x8.lst h7) a8 (by show r8 < 4; exact b8) fun x hx => ?_
    have hb : 0 ≤ x ∧ x ≤ 1800 := by
      simp only [or_false, List.mem_cons, List.not_mem_nil] at hx
      omega
    walk_at "go"
    refine newT (fun p H9 hp e9 h9 => ?_) rfl
    exact hQ p H9 ⟨"span", o, t, lo, lo + ml + x⟩ (((((x04.trans x5).trans x6).same e7).trans x8).same e9) h9 ⟨.inr rfl, by show o < bs.length; omega, by show t < bs.length; omega, ⟨by show 0 ≤ lo; omega, by show lo ≤ 10000; omega⟩, ⟨by show -10000 ≤ lo + ml + x; omega, by show lo + ml + x ≤ 10000; omega⟩⟩
theorem ok__law_fitting (T : Txt K mg) : Cal P w K mg base CX0 "_law_fitting" 3 ["_law_feed_here", "_law_beats_here", "_law_cycle"] sp__law_fitting := by
  have C__law_draw := ok__law_draw (P := P) (w := w) (base := base) T
  have C__law_number := ok__law_number (P := P) (w := w) (base := base) T
  refine Cal.of (i := 32) T (List.mem_of_getElem? (i := 24) rfl) (in_fa 23 rfl) sc__law_fitting (fun vs H Q E h => ?_) (fun _ _ _ _ _ _ us hl => match us, hl with | [_, _, _], _ => rfl) (fun cdv A outer s H vs Q E hr h => ⟨t__law_fitting K, PSs.nox ?_, pure__law_fitting vs H Q E h⟩)
  · obtain ⟨f, c, b, bs, cy, rfl, _⟩ := h
    rfl
  · exact (pss_cons (ps_par (by rfl) sc__law_fitting.nd rfl rfl (by decide) rfl rfl (pa_cons (pe_cal C__law_draw (hr.mono (by decide)) pass0 (pa_cons (pv 0) (pa_cons (pe_callB call_len_seq (by rfl) T.len PySem.boot_len (pa_cons (pv 1) pa_nil)) pa_nil))) (pa_cons (pe_cal C__law_draw (hr.mono (by decide)) pass0 (pa_cons (pv 0) (pa_cons (pe_callB call_len_seq (by rfl) T.len PySem.boot_len (pa_cons (pv 1) pa_nil)) pa_nil))) pa_nil)) (by rfl))
  (pss_cons (ps_set (i := 5) sc__law_fitting.nd rfl (by first | exact Or.inl rfl | exact Or.inr rfl) (pe_op op_mod (pe_op op_sub (pe_ix ix_list (pv 1) (pv 4) (fun _ _ => rfl)) (pe_ix ix_list (pv 1) (pv 3) (fun _ _ => rfl))) (pv 2)))
  (pss_cons (ps_if (pt_cmpR op_eq (pe_cal C__law_draw (hr.mono (by decide)) pass0 (pa_cons (pv 0) (pa_cons pe_int pa_nil))) pe_int (nomark _)) (pss_one (ps_ret (pe_tup (pa_cons pe_str (pa_cons (pv 3) (pa_cons (pv 4) (pa_cons (pe_cal C__law_draw (hr.mono (by decide)) pass0 (pa_cons (pv 0) (pa_cons (pe_op op_add (pv 5) pe_int) pa_nil))) (pa_cons (pe_cal C__law_draw (hr.mono (by decide)) pass0 (pa_cons (pv 0) (pa_cons (pe_op op_add (pe_op op_sub (pv 2) (pv 5)) pe_int) pa_nil))) pa_nil)))))))) pss_nil)
  (pss_cons (ps_set (i := 6) sc__law_fitting.nd rfl (by first | exact Or.inl rfl | exact Or.inr rfl) (pe_cal C__law_number (hr.mono (by decide)) pass0 (pa_cons (pv 0) (pa_cons (pv 2) pa_nil))))
  (pss_cons (ps_set (i := 7) sc__law_fitting.nd rfl (by first | exact Or.inl rfl | exact Or.inr rfl) (pe_op op_add (pv 6) (pe_op op_mod (pe_op op_sub (pv 5) (pv 6)) (pv 2))))
  (pss_one (ps_ret (pe_tup (pa_cons pe_str (pa_cons (pv 3) (pa_cons (pv 4) (pa_cons (pv 6) (pa_cons (pe_op op_add (pv 7) (pe_ix ix_list (pe_lst (pa_cons pe_int (pa_cons pe_int (pa_cons pe_int (pa_cons (pe_cal C__law_draw (hr.mono (by decide)) pass0 (pa_cons (pv 0) (pa_cons (pv 2) pa_nil))) pa_nil))))) (pe_cal C__law_draw (hr.mono (by decide)) pass0 (pa_cons (pv 0) (pa_cons pe_int pa_nil))) (fun _ _ => rfl))) pa_nil)))))))))))))
end
end Bp

namespace Bp
open PySem PyProof.Rows L2 PySem.Spec
local macro_rules | `(tactic| walk_at "side") => `(tactic| first | assumption | omega | decide)
local macro_rules | `(tactic| walk_at "carry") => `(tactic| first | assumption | (refine Same.get (by assumption) ?_; walk_at "carry"))
local macro_rules | `(tactic| walk_at "tst") => `(tactic| first | exact Same.ts (by assumption) | exact SameX.ts1 (by assumption) (by assumption) (by intro _ z; cases z))
local macro_rules | `(tactic| walk_at "dat") => `(tactic| first | assumption | (with_reducible refine PlanA.mono (by walk_at "tst") ?_; walk_at "dat") | (with_reducible refine BeatsA.mono (by walk_at "tst") ?_; walk_at "dat") | (with_reducible refine WaitA.mono (by walk_at "tst") ?_; walk_at "dat") | (with_reducible refine GivenA.mono (by walk_at "tst") ?_; walk_at "dat") | (with_reducible refine TableA.mono (by walk_at "tst") ?_; walk_at "dat"))
local macro_rules | `(tactic| walk_at "at") => `(tactic| first | exact rfl | assumption | exact at_beat (by assumption) | exact at_tab (by assumption) | exact at_map (by assumption))
local macro_rules | `(tactic| walk_at "go1") => `(tactic| first
  | with_reducible refine rd_seq ?_
  | with_reducible refine rd_asg ?_
  | with_reducible refine rd_ret ?_
  | with_reducible refine rd_drop ?_
  | ((with_reducible refine' rd_var ?x1 ?x2); (case x1 => exact rfl))
  | with_reducible refine rd_c ?_
  | with_reducible refine rd_op ?_
  | with_reducible refine rd_un ?_
  | with_reducible refine rd_name ?_
  | with_reducible refine rd_I0 ?_
  | with_reducible refine rd_gcons ?_
  | with_reducible refine rd_gnil ?_
  | with_reducible refine rd_test ?_
  | with_reducible refine rd_B ?_
  | with_reducible refine rd_bl ?_
  | with_reducible refine rd_anil ?_
  | with_reducible refine rd_acons ?_
  | with_reducible refine rd_tup ?_
  | with_reducible refine rd_lst ?_
  | with_reducible refine rd_sdput ?_
  | with_reducible refine rd_call1 ?_
  | with_reducible refine rd_cb ?_
  | with_reducible refine rd_ifS ?_
  | with_reducible refine rd_next ?_
  | ((with_reducible refine' rd_I ?x1 ?x2); (case x1 => walk_at "side"))
  | ((with_reducible refine' rd_ixT ?x1 ?x2 ?x3); (case x1 => walk_at "carry"); (case x2 => walk_at "at"))
  | ((with_reducible refine' rd_lenT ?x1 ?x2); (case x1 => walk_at "carry"))
  | ((with_reducible refine' rd_lenL ?x1 ?x2); (case x1 => walk_at "carry"))
  | with_reducible refine rd_max2 ?_
  | with_reducible refine rd_isiI ?_
  | with_reducible refine rd_isiB ?_
  | ((with_reducible refine' rd_isiT ?x1 ?x2); (case x1 => walk_at "carry"))
  | with_reducible refine ite_yes ?_
  | with_reducible refine ite_no ?_
  | with_reducible refine ite_nf ?_
  | with_reducible refine ite_nt ?_
  | with_reducible refine rd_andV ?_
  | with_reducible refine rd_orV ?_
  | with_reducible refine rd_notV ?_
  | with_reducible refine rd_and ?_
  | with_reducible refine rd_or ?_
  | with_reducible refine rd_not ?_
  | with_reducible refine rd_eq rfl ?_
  | with_reducible refine rd_ne rfl ?_
  | ((with_reducible refine' rd_gtup ?x1 ?x2 ?x3); (case x1 => walk_at "carry"); (case x2 => exact rfl)))
local macro_rules | `(tactic| walk_at "go") => `(tactic| repeat walk_at "go1")
section
variable {P : Program} {w : World} {K : PySem.W.Frag} {mg : Str → Option Value} {base : Heap} {σ : L2.St} {H : Hp} {D : Ends} {v : V} {i j : Nat} {a d l : Addr} {Q : VK} {te tv : TE} {m n : Int} {xs : List V} {tr : TA}
abbrev rInsert : V → List V → Hp → VK → Prop := fun x vs H Q => ∃ (l : Addr) (xs : List V) (i : Int) (y : V), x = .ref l ∧ vs = [.int i, y] ∧ H l = some (.lst xs) ∧ xs.length < sizeLine ∧ 0 ≤ i ∧ i < 2 ^ 63 ∧ Q .non (upd H l (.lst (xs.take i.toNat ++ [y] ++ xs.drop i.toNat)))
theorem rd_insert (hi : σ[i]? = some (some (.ref l))) (hx : H l = some (.lst xs)) (h : tr σ H fun vs H1 => rInsert (.ref l) vs H1 fun _ H2 => D.nx σ H2) : tDrop (tBM K "list" rInsert (tVar i) tr) D σ H :=
  ⟨.ref l, hi, .inl ⟨rfl, _, SqL.of hx⟩, h⟩
theorem rd_ins (hx : H l = some (.lst xs)) (hz : xs.length < 100000) (h0 : 0 ≤ n) (h1 : n ≤ 100000) (q : ∀ H2, SameX [l] H H2 → H2 l = some (.lst (xs.take n.toNat ++ [v] ++ xs.drop n.toNat)) → Q .non H2) : rInsert (.ref l) [.int n, v] H Q :=
  ⟨l, xs, n, v, rfl, rfl, hx, szl _ hz, h0, by omega, q _ SameX.upd upd_same⟩
theorem rd_iR {R : It → Hp → Prop} {ta : TA} (h : ta σ H fun vs H1 => ∃ j : Int, vs = [.int j] ∧ -(2 ^ 62) ≤ j ∧ j < 2 ^ 62 ∧ R (Itr 0 j.toNat) H1) : iRng1 ta σ H R := h
theorem rd_chain {ta tb tc : TE} {r r' : R2} (h : ta σ H fun x H1 => tb σ H1 fun y H2 => r x y H2 fun z H3 => ∃ k, z = .bl k ∧ if k = true then tc σ H3 fun w H4 => r' y w H4 Q else Q (.bl false) H3) : tChain r r' ta tb tc σ H Q := h
local macro_rules | `(tactic| walk_at "side") => `(tactic| first | exact cpow18 | exact cdv (by omega) (by omega) | exact cmL (by omega) (by omega) | exact cmR (by omega) (by omega))
local macro_rules | `(tactic| walk_at "go1") => `(tactic| first | with_reducible refine rd_par ?_ | with_reducible refine rd_two ?_ | with_reducible refine rd_iR ?_ | with_reducible refine rd_chain ?_)
/-! ### _law_shuffle -/
theorem mem_ins {ord : List Nat} {k y x : Nat} : x ∈ ord.take k ++ [y] ++ ord.drop k ↔ x ∈ ord ∨ x = y := by
  have e : x ∈ ord ↔ x ∈ ord.take k ∨ x ∈ ord.drop k := by rw [← List.mem_append, List.take_append_drop]
  rw [List.mem_append, List.mem_append, List.mem_singleton, e]
  constructor
  · rintro ((h | h) | h)
    · exact .inl (.inl h)
    · exact .inr h
    · exact .inl (.inr h)
  · rintro ((h | h) | h)
    · exact .inl (.inl h)
    · exact .inr h
    · exact .inl (.inr h)
def sp__law_shuffle : Sp := fun vs H Q _ => ∃ (f c : Addr) (n : Nat), vs = [.ref f, .int (n : Nat)] ∧ n ≤ 100 ∧ Feed H f c ∧ ∀ l H' (ord : List Nat), Fx f c H H' → H l = none → H' l = some (.lst (ord.map fun k : Nat => V.int k)) → ord.length = n → (∀ x, x ∈ ord ↔ x < n) → Q (.ref l) H'
abbrev N__law_shuffle : List Str := ["_law_feed_here", "_law_many", "_law_order", "_law_k"]
theorem sc__law_shuffle : FnScope N__law_shuffle ["_law_feed_here", "_law_many"] (defScope (top 35)) := ⟨rfl, rfl, rfl, by decide +kernel, rfl, by decide +kernel, by decide +kernel⟩
def t__law_shuffle (K : PySem.W.Frag) : TS :=
  (tSeq (tAsg (tLst tNil) (gName 2))
  (tSeq (tFor (iRng1 (tCons (tVar 1) tNil)) (gName 3) (tDrop (tBM K "list" rInsert (tVar 2) (tCons (tCall sp__law_draw [] E0 (tCons (tVar 0) (tCons (tOp rAddI (tCB (rLenS K) (tCons (tVar 2) tNil)) (tC (.int 1))) tNil))) (tCons (tVar 3) tNil)))))
  (tRet (tVar 2))))
theorem pure__law_shuffle (vs : List V) (H : Hp) (Q : VK) (E : XK) (h : sp__law_shuffle vs H Q E) : t__law_shuffle K { nx := fun _ H' => Q .non H', rt := Q } (start N__law_shuffle vs) H := by
  obtain ⟨f, c, n, rfl, hn, hf, hQ⟩ := h
  unfold t__law_shuffle
  walk_at "go"
  refine newL (fun l H1 hl e1 h1 => ?_) rfl
  walk_at "go"
  refine rd_forR (n := (n : Nat)) (fun Q k => by walk_at "go"; exact k) (by omega) (by omega) (fun i σ' H' => ∃ (ord : List Nat) (x3 : Option V), σ' = [some (.ref f), some (.int (n : Nat)), some (.ref l), x3] ∧ Fx f c H H' ∧ H' l = some (.lst (ord.map fun k : Nat => V.int k)) ∧ ord.length = i ∧ ∀ x, x ∈ ord ↔ x < i)
    ⟨[], none, rfl, Fx.of hf e1, h1, rfl, fun x => ⟨fun z => by simp at z, fun z => absurd z (Nat.not_lt_zero _)⟩⟩ ?_ ?_
  · rintro i σ' H' hi ⟨ord, x3, rfl, x, h2, hlen, hmem⟩
    have hl2 : (ord.map fun k : Nat => V.int k).length = i := by rw [List.length_map, hlen]
    walk_at "go"
    refine rd_insert rfl h2 ?_
    walk_at "go"
    rw [hl2]
    refine use_draw (by omega) (by omega) x.fd fun r H2 x2 r0 r1 => ?_
    walk_at "go"
    refine rd_ins (x2.lst h2) (by omega) r0 (by omega) fun H3 e3 h3 => ?_
    obtain ⟨k, rfl⟩ := Int.eq_ofNat_of_zero_le r0
    refine ⟨ord.take k ++ [i] ++ ord.drop k, _, rfl, Fx.out (x.trans x2) e3 hl, ?_, ?_, fun y => ?_⟩
    · rw [h3]
      simp [List.map_take, List.map_drop]
    · simp
      omega
    · rw [mem_ins, hmem]
      omega
  · rintro σ' H' ⟨ord, x3, rfl, x, h2, hlen, hmem⟩
    walk_at "go"
    exact hQ l H' ord x hl h2 hlen hmem
theorem ok__law_shuffle (T : Txt K mg) : Cal P w K mg base CX0 "_law_shuffle" 2 ["_law_feed_here", "_law_many"] sp__law_shuffle := by
  have C__law_draw := ok__law_draw (P := P) (w := w) (base := base) T
  refine Cal.of (i := 35) T (List.mem_of_getElem? (i := 27) rfl) (in_fa 26 rfl) sc__law_shuffle (fun vs H Q E h => ?_) (fun _ _ _ _ _ _ us hl => match us, hl with | [_, _], _ => rfl) (fun cdv A outer s H vs Q E hr h => ⟨t__law_shuffle K, PSs.nox ?_, pure__law_shuffle vs H Q E h⟩)
  · obtain ⟨f, c, n, rfl, _⟩ := h
    rfl
  · exact (pss_cons (ps_set (i := 2) sc__law_shuffle.nd rfl (by first | exact Or.inl rfl | exact Or.inr rfl) (pe_lst pa_nil))
  (pss_cons (ps_for PassesOwn.never rfl (pi_range1 rfl T.range (pa_cons (pv 1) pa_nil)) (pg_name (i := 3) sc__law_shuffle.nd rfl (by first | exact Or.inl rfl | exact Or.inr rfl)) (pss_one (ps_expr (pe_bm PySem.F.plainAttrs_list PySem.F.slot_list_insert PySem.F.type_list_insert mt_insert (pv 2) (pa_cons (pe_cal C__law_draw (hr.mono (by decide)) pass0 (pa_cons (pv 0) (pa_cons (pe_op op_add (pe_callB call_len_seq (by rfl) T.len PySem.boot_len (pa_cons (pv 2) pa_nil)) pe_int) pa_nil))) (pa_cons (pv 3) pa_nil))))))
  (pss_one (ps_ret (pv 2)))))
/-! ### _law_given -/
structure GvW (works many : Nat) (g : Gv) : Prop where
  w : g.1 < works
  t : g.2.1 < many
  l0 : 0 ≤ g.2.2
  l1 : g.2.2 ≤ 999
def sp__law_given : Sp := fun vs H Q _ => ∃ (f c : Addr) (n many : Nat), vs = [.ref f, .int (n : Nat), .int (many : Nat)] ∧ 0 < n ∧ n ≤ 8 ∧ 0 < many ∧ many ≤ 12 ∧ Feed H f c ∧ ∀ p H' (gv : List Gv), Fx f c H H' → GivenA H' gv p → gv.length ≤ 12 → (∀ g ∈ gv, GvW n many g) → Q (.ref p) H'
abbrev N__law_given : List Str := ["_law_feed_here", "_law_works", "_law_many", "_law_found", "_law_k", "_law_late"]
theorem sc__law_given : FnScope N__law_given ["_law_feed_here", "_law_works", "_law_many"] (defScope (top 36)) := ⟨rfl, rfl, rfl, by decide +kernel, rfl, by decide +kernel, by decide +kernel⟩
def t__law_given (K : PySem.W.Frag) : TS :=
  (tSeq (tAsg (tLst tNil) (gName 3))
  (tSeq (tFor (iRng1 (tCons (tOp (rIxL K) (tLst (tCons (tC (.int 0)) (tCons (tC (.int 1)) (tCons (tC (.int 2)) (tCons (tCall sp__law_draw [] E0 (tCons (tVar 0) (tCons (tC (.int 13)) tNil))) tNil))))) (tCall sp__law_draw [] E0 (tCons (tVar 0) (tCons (tC (.int 4)) tNil)))) tNil)) (gName 4) (tSeq (tAsg (tOp (rIxL K) (tLst (tCons (tCall sp__law_draw [] E0 (tCons (tVar 0) (tCons (tC (.int 12)) tNil))) (tCons (tCall sp__law_draw [] E0 (tCons (tVar 0) (tCons (tC (.int 100)) tNil))) (tCons (tC (.int 999)) (tCons (tC (.int 1)) tNil))))) (tCall sp__law_draw [] E0 (tCons (tVar 0) (tCons (tC (.int 4)) tNil)))) (gName 5))
  (tDrop (tBM K "list" rAppend (tVar 3) (tCons (tTup (tCons (tCall sp__law_draw [] E0 (tCons (tVar 0) (tCons (tVar 1) tNil))) (tCons (tCall sp__law_draw [] E0 (tCons (tVar 0) (tCons (tVar 2) tNil))) (tCons (tVar 5) tNil)))) tNil)))))
  (tRet (tCB (rTupOf K) (tCons (tVar 3) tNil)))))
theorem pure__law_given (vs : List V) (H : Hp) (Q : VK) (E : XK) (h : sp__law_given vs H Q E) : t__law_given K { nx := fun _ H' => Q .non H', rt := Q } (start N__law_given vs) H := by
  obtain ⟨f, c, n, many, rfl, hn0, hn, hm0, hm, hf, hQ⟩ := h
  unfold t__law_given
  walk_at "go"
  refine newL (fun l H1 hl e1 h1 => ?_) rfl
  walk_at "go"
  refine rd_forI ?_
  walk_at "go"
  refine use_draw (by omega) (by omega) (hf.same e1) fun r2 H2 x2 a2 b2 => ?_
  walk_at "go"
  refine newL (fun l3 H3 hl3 e3 h3 => ?_) rfl
  walk_at "go"
  refine use_draw (by omega) (by omega) (x2.fd.same e3) fun r4 H4 x4 a4 b4 => ?_
  refine rd_pick (xs := [0, 1, 2, r2]) (x4.lst h3) a4 (by show r4 < 4; exact b4) fun x hx => ?_
  have hb : 0 ≤ x ∧ x ≤ 12 := by
    simp only [or_false, List.mem_cons, List.not_mem_nil] at hx
    omega
  walk_at "go"
  have x14 := (x2.same e3).trans x4
  refine ⟨x, rfl, by omega, by omega, for_range (lo := 0) (n := x.toNat) (fun i σ' H' => ∃ (as : List Addr) (gv : List Gv) (x4 x5 : Option V), σ' = [some (.ref f), some (.int (n : Nat)), some (.int (many : Nat)), some (.ref l), x4, x5] ∧ Fx f c H H' ∧ H' l = some (.lst (as.map V.ref)) ∧ Rows H' as (gv.map gvRow) ∧ gv.length = i ∧ ∀ g ∈ gv, GvW n many g)
    ⟨[], [], _, _, rfl, (Fx.of hf e1).trans x14, x14.lst h1, Rows.nil, rfl, fun g hg => by cases hg⟩ ?_ ?_⟩
  · rintro i σ' H5 hi ⟨as, gv, x4, x5, rfl, x5', h5, hr, hgl, hall⟩
    have e0 : (0 : Int) + (i : Int) = (i : Int) := (Int.zero_add _)
    rw [e0]
    walk_at "go"
    refine use_draw (by omega) (by omega) x5'.fd fun r6 H6 x6 a6 b6 => ?_
    walk_at "go"
    refine use_draw (by omega) (by omega) x6.fd fun r7 H7 x7 a7 b7 => ?_
    walk_at "go"
    refine newL (fun l8 H8 hl8 e8 h8 => ?_) rfl
    walk_at "go"
    refine use_draw (by omega) (by omega) (x7.fd.same e8) fun r9 H9 x9 a9 b9 => ?_
    refine rd_pick (xs := [r6, r7, 999, 1]) (x9.lst h8) a9 (by show r9 < 4; exact b9) fun y hy => ?_
    have hb2 : 0 ≤ y ∧ y ≤ 999 := by
      simp only [List.mem_cons, List.not_mem_nil, or_false] at hy
      omega
    have x59 := ((x6.trans x7).same e8).trans x9
    have hl9 := x59.lst h5
    walk_at "go"
    refine rd_append rfl hl9 ?_
    walk_at "go"
    refine use_draw (by omega) (by omega) x59.fd fun r10 H10 x10 a10 b10 => ?_
    walk_at "go"
    refine use_draw (by omega) (by omega) x10.fd fun r11 H11 x11 a11 b11 => ?_
    walk_at "go"
    obtain ⟨wk, rfl⟩ := Int.eq_ofNat_of_zero_le a10
    obtain ⟨tn, rfl⟩ := Int.eq_ofNat_of_zero_le a11
    refine newT (fun p H12 hp e12 h12 => ?_) rfl
    have x512 := ((x59.trans x10).trans x11).same e12
    have hl12 := x512.lst h5
    have hal : as.length = gv.length := by rw [hr.len, List.length_map]
    refine rd_app hl12 (by rw [List.length_map]; omega) fun H13 e13 h13 => ?_
    have t1213 : Tst H12 H13 := e13.ts1 hl12 (by intro _ z; cases z)
    refine ⟨as ++ [p], gv ++ [(wk, tn, y)], _, _, rfl, Fx.out (x5'.trans x512) e13 hl, by rw [h13, List.map_append]; rfl, ?_, by rw [List.length_append, hgl]; rfl, fun g hg => ?_⟩
    · rw [List.map_append]
      exact (hr.mono (x512.ts.trans t1213)).snoc (t1213 _ _ h12)
    · rcases List.mem_append.mp hg with hg | hg
      · exact hall g hg
      · rw [List.mem_singleton.mp hg]
        exact ⟨by show wk < n; omega, by show tn < many; omega, hb2.1, hb2.2⟩
  · rintro σ' H5 ⟨as, gv, x4, x5, rfl, x5', h5, hr, hgl, hall⟩
    walk_at "go"
    refine rd_tupOf h5 fun p H6 hp e6 h6 => ?_
    exact hQ p H6 gv (x5'.same e6) ⟨as, h6, hr.mono e6.ts⟩ (by omega) hall
theorem ok__law_given (T : Txt K mg) : Cal P w K mg base CX0 "_law_given" 2 ["_law_feed_here", "_law_works", "_law_many"] sp__law_given := by
  have C__law_draw := ok__law_draw (P := P) (w := w) (base := base) T
  refine Cal.of (i := 36) T (List.mem_of_getElem? (i := 28) rfl) (in_fa 27 rfl) sc__law_given (fun vs H Q E h => ?_) (fun _ _ _ _ _ _ us hl => match us, hl with | [_, _, _], _ => rfl) (fun cdv A outer s H vs Q E hr h => ⟨t__law_given K, PSs.nox ?_, pure__law_given vs H Q E h⟩)
  · obtain ⟨f, c, n, many, rfl, _⟩ := h
    rfl
  · exact (pss_cons (ps_set (i := 3) sc__law_given.nd rfl (by first | exact Or.inl rfl | exact Or.inr rfl) (pe_lst pa_nil))
  (pss_cons (ps_for PassesOwn.never rfl (pi_range1 rfl T.range (pa_cons (pe_ix ix_list (pe_lst (pa_cons pe_int (pa_cons pe_int (pa_cons pe_int (pa_cons (pe_cal C__law_draw (hr.mono (by decide)) pass0 (pa_cons (pv 0) (pa_cons pe_int pa_nil))) pa_nil))))) (pe_cal C__law_draw (hr.mono (by decide)) pass0 (pa_cons (pv 0) (pa_cons pe_int pa_nil))) (fun _ _ => rfl)) pa_nil)) (pg_name (i := 4) sc__law_given.nd rfl (by first | exact Or.inl rfl | exact Or.inr rfl)) (pss_cons (ps_set (i := 5) sc__law_given.nd rfl (by first | exact Or.inl rfl | exact Or.inr rfl) (pe_ix ix_list (pe_lst (pa_cons (pe_cal C__law_draw (hr.mono (by decide)) pass0 (pa_cons (pv 0) (pa_cons pe_int pa_nil))) (pa_cons (pe_cal C__law_draw (hr.mono (by decide)) pass0 (pa_cons (pv 0) (pa_cons pe_int pa_nil))) (pa_cons pe_int (pa_cons pe_int pa_nil))))) (pe_cal C__law_draw (hr.mono (by decide)) pass0 (pa_cons (pv 0) (pa_cons pe_int pa_nil))) (fun _ _ => rfl)))
  (pss_one (ps_expr (pe_bm PySem.F.plainAttrs_list PySem.F.slot_list_append PySem.F.type_list_append mt_append (pv 3) (pa_cons (pe_tup (pa_cons (pe_cal C__law_draw (hr.mono (by decide)) pass0 (pa_cons (pv 0) (pa_cons (pv 1) pa_nil))) (pa_cons (pe_cal C__law_draw (hr.mono (by decide)) pass0 (pa_cons (pv 0) (pa_cons (pv 2) pa_nil))) (pa_cons (pv 5) pa_nil)))) pa_nil))))))
  (pss_one (ps_ret (pe_callTy call_tuple_of (by rfl) T.tuple (by decide +kernel) (pa_cons (pv 3) pa_nil))))))
/-! ### _law_plan -/
def SpanAt (n : Nat) (H : Hp) (a : Addr) : Prop := ∃ s : Span, H a = some (.tup s.row) ∧ SpOk n s
theorem spans_of {n : Nat} {H : Hp} : ∀ {as : List Addr}, (∀ a ∈ as, SpanAt n H a) → ∃ ss : List Span, Rows H as (ss.map Span.row) ∧ ss.length = as.length ∧ ∀ s ∈ ss, SpOk n s
  | [], _ => ⟨[], Rows.nil, rfl, fun s hs => by cases hs⟩
  | a :: as, h => by
    obtain ⟨ss, h1, h2, h3⟩ := spans_of (as := as) fun b hb => h b (List.mem_cons_of_mem _ hb)
    obtain ⟨s, q1, q2⟩ := h a List.mem_cons_self
    refine ⟨s :: ss, ⟨by simp [h2], fun i b r hb hr => ?_⟩, by simp [h2], fun t ht => ?_⟩
    · cases i with
      | zero =>
        simp at hb hr
        rw [← hb, ← hr]
        exact q1
      | succ i => exact h1.at_ i b r (by simpa using hb) (by simpa using hr)
    · rcases List.mem_cons.mp ht with e | ht
      · rw [e]; exact q2
      · exact h3 t ht
theorem SpanAt.mono {n : Nat} {H H' : Hp} {a : Addr} (t : Tst H H') (h : SpanAt n H a) : SpanAt n H' a := by
  obtain ⟨s, h1, h2⟩ := h
  exact ⟨s, t _ _ h1, h2⟩
def sp__law_plan : Sp := fun vs H Q _ => ∃ (f c : Addr) (n most : Nat) (cy : Int), vs = [.ref f, .int (n : Nat), .int (most : Nat), .int cy] ∧ 0 < n ∧ n ≤ 8 ∧ most ≤ 24 ∧ 0 < cy ∧ cy ≤ 600 ∧ Feed H f c ∧
  ∀ p H' b cc (ss : List Str) (sps : List Span), Fx f c H H' → H' p = some (.tup [.ref b, .ref cc]) → H' b = some (.tup (ss.map V.str)) → ss.length = n → (∀ s ∈ ss, s ∈ NM) → TupsA H' cc (sps.map Span.row) → sps.length ≤ 24 → (∀ s ∈ sps, SpOk n s) → Q (.ref p) H'
theorem plan_end {f c : Addr} {n : Nat} {as : List Addr} (h0 : σ[0]? = some (some (.ref f))) (h1 : σ[1]? = some (some (.int (n : Nat)))) (h6 : σ[6]? = some (some (.ref l))) (hf : Feed H f c) (hn : n ≤ 8) (hl : H l = some (.lst (as.map V.ref)))
    (q : ∀ p H2 b cc (ss : List Str), Fx f c H H2 → H2 p = some (.tup [.ref b, .ref cc]) → H2 b = some (.tup (ss.map V.str)) → ss.length = n → (∀ s ∈ ss, s ∈ NM) → H2 cc = some (.tup (as.map V.ref)) → D.rt (.ref p) H2) :
    tRet (tTup (tCons (tCall sp__law_names [] E0 (tCons (tVar 0) (tCons (tVar 1) tNil))) (tCons (tCB (rTupOf K) (tCons (tVar 6) tNil)) tNil))) D σ H := by
  refine rd_ret (rd_tup (rd_acons (rd_call1 (rd_acons (rd_var h0 (rd_acons (rd_var h1 (rd_anil ?_))))))))
  refine ⟨f, c, n, rfl, hn, hf, fun b H1 ss x1 hb hsl hs => ?_⟩
  refine rd_acons (rd_cb (rd_acons (rd_var h6 (rd_anil ?_))))
  refine rd_tupOf (x1.lst hl) fun cc H2 hcc e2 h2 => ?_
  refine rd_anil ?_
  refine newT (fun p H3 hp e3 h3 => ?_) rfl
  exact q p H3 b cc ss ((x1.same e2).same e3) h3 (e3 _ _ (e2 _ _ hb)) hsl hs (e3 _ _ h2)
abbrev N__law_plan : List Str := ["_law_feed_here", "_law_works", "_law_most", "_law_cycle", "_law_beats_here", "_law_k", "_law_spans"]
theorem sc__law_plan : FnScope N__law_plan ["_law_feed_here", "_law_works", "_law_most", "_law_cycle"] (defScope (top 33)) := ⟨rfl, rfl, rfl, by decide +kernel, rfl, by decide +kernel, by decide +kernel⟩
def t__law_plan (K : PySem.W.Frag) : TS :=
  (tSeq (tAsg (tLc (iRng1 (tCons (tVar 1) tNil)) (gName 5) tYes (tCall sp__law_draw [] E0 (tCons (tVar 0) (tCons (tVar 3) tNil))) [5]) (gName 4))
  (tSeq (tAsg (tLst tNil) (gName 6))
  (tSeq (tFor (iRng1 (tCons (tCall sp__law_draw [] E0 (tCons (tVar 0) (tCons (tOp rAddI (tVar 2) (tC (.int 1))) tNil))) tNil)) (gName 5) (tIfS (tTest (tOp rGtI (tCall sp__law_draw [] E0 (tCons (tVar 0) (tCons (tC (.int 5)) tNil))) (tC (.int 0)))) (tDrop (tBM K "list" rAppend (tVar 6) (tCons (tCall sp__law_fitting [] E0 (tCons (tVar 0) (tCons (tVar 4) (tCons (tVar 3) tNil)))) tNil))) (tDrop (tBM K "list" rAppend (tVar 6) (tCons (tCall sp__law_span [] E0 (tCons (tVar 0) (tCons (tVar 1) (tCons (tVar 3) tNil)))) tNil)))))
  (tSeq (tIfS (tAnd (tTest (tChain rLtI rLtI (tC (.int 0)) (tCB (rLenS K) (tCons (tVar 6) tNil)) (tC (.int 24)))) (tTest (tOp rEq (tCall sp__law_draw [] E0 (tCons (tVar 0) (tCons (tC (.int 6)) tNil))) (tC (.int 0))))) (tDrop (tBM K "list" rInsert (tVar 6) (tCons (tCall sp__law_draw [] E0 (tCons (tVar 0) (tCons (tOp rAddI (tCB (rLenS K) (tCons (tVar 6) tNil)) (tC (.int 1))) tNil))) (tCons (tOp (rIxL K) (tVar 6) (tC (.int 0))) tNil)))) tNext)
  (tRet (tTup (tCons (tCall sp__law_names [] E0 (tCons (tVar 0) (tCons (tVar 1) tNil))) (tCons (tCB (rTupOf K) (tCons (tVar 6) tNil)) tNil))))))))
theorem pure__law_plan (vs : List V) (H : Hp) (Q : VK) (E : XK) (h : sp__law_plan vs H Q E) : t__law_plan K { nx := fun _ H' => Q .non H', rt := Q } (start N__law_plan vs) H := by
  obtain ⟨f, c, n, most, cy, rfl, hn0, hn, hmo, hc0, hc, hf, hQ⟩ := h
  unfold t__law_plan
  walk_at "go"
  refine rd_lcF (fun b => True) (n := (n : Nat)) (fun Q k => by walk_at "go"; exact k) (by omega) (by omega) hf (fun x => rfl) (fun k H1 hk x1 Q q => ?_) fun l0 H1 bs hl0 x1 h1 hbl _ => ?_
  · walk_at "go"
    exact use_draw hc0 (by omega) x1.fd fun r H2 x2 r0 r1 => q r H2 x2 trivial
  have hbl' : bs.length = n := by omega
  walk_at "go"
  refine newL (fun l H2 hl e2 h2 => ?_) rfl
  have hl' : H l = none := x1.free hl
  walk_at "go"
  refine rd_forI ?_
  walk_at "go"
  refine use_draw (by omega) (by omega) (x1.fd.same e2) fun r H3 x3 r0 r1 => ?_
  walk_at "go"
  have x03 := (x1.same e2).trans x3
  refine ⟨r, rfl, by omega, by omega, for_range (lo := 0) (n := r.toNat) (fun i σ' H' => ∃ (as : List Addr) (x5 : Option V), σ' = [some (.ref f), some (.int (n : Nat)), some (.int (most : Nat)), some (.int cy), some (.ref l0), x5, some (.ref l)] ∧ Fx f c H H' ∧ H' l0 = some (.lst (bs.map V.int)) ∧ H' l = some (.lst (as.map V.ref)) ∧ as.length = i ∧ ∀ a ∈ as, SpanAt n H' a)
    ⟨[], _, rfl, x03, x3.lst (e2 _ _ h1), x3.lst h2, rfl, fun a ha => by cases ha⟩ ?_ ?_⟩
  · rintro i σ' H4 hi ⟨as, x5, rfl, x4, h4b, h4, hal, hall⟩
    have e0 : (0 : Int) + (i : Int) = (i : Int) := (Int.zero_add _)
    rw [e0]
    have nll : l0 ≠ l := (ne_of_none h1 hl)
    walk_at "go"
    refine use_draw (by omega) (by omega) x4.fd fun r5 H5 x5 a5 b5 => ?_
    walk_at "go"
    have step : ∀ p H6 (s : Span), Fx f c H5 H6 → H6 p = some (.tup s.row) → SpOk n s → rAppend (.ref l) [.ref p] H6 fun _ H7 => ∃ (as : List Addr) (x5 : Option V), [some (.ref f), some (.int (n : Nat)), some (.int (most : Nat)), some (.int cy), some (.ref l0), some (V.int (i : Nat)), some (.ref l)] = [some (.ref f), some (.int (n : Nat)), some (.int (most : Nat)), some (.int cy), some (.ref l0), x5, some (.ref l)] ∧ Fx f c H H7 ∧ H7 l0 = some (.lst (bs.map V.int)) ∧ H7 l = some (.lst (as.map V.ref)) ∧ as.length = i + 1 ∧ ∀ a ∈ as, SpanAt n H7 a := by
      intro p H6 s x6 h6 hs
      have x46 := x5.trans x6
      refine rd_app (x46.lst h4) (by rw [List.length_map]; omega) fun H7 e7 h7 => ?_
      have t67 : Tst H6 H7 := e7.ts1 (x46.lst h4) (by intro _ z; cases z)
      refine ⟨as ++ [p], _, rfl, Fx.out (x4.trans x46) e7 hl', e7 _ _ (by simpa using nll) (x46.lst h4b), by rw [h7, List.map_append]; rfl, by rw [List.length_append, hal]; rfl, fun a ha => ?_⟩
      rcases List.mem_append.1 ha with ha | ha
      · exact (hall a ha).mono (x46.ts.trans t67)
      · rw [List.mem_singleton.1 ha]
        exact ⟨s, t67 _ _ h6, hs⟩
    refine iteb (fun hb => ?_) (fun hb => ?_)
    · refine rd_append rfl (x5.lst h4) ?_
      walk_at "go"
      refine ⟨f, c, l0, bs, cy, rfl, x5.lst h4b, by omega, by omega, hc0, hc, x5.fd, fun p H6 s x6 h6 hs => ?_⟩
      exact step p H6 s x6 h6 (by rw [← hbl']; exact hs)
    · refine rd_append rfl (x5.lst h4) ?_
      walk_at "go"
      refine ⟨f, c, n, cy, rfl, hn0, hn, hc0, hc, x5.fd, fun p H6 s x6 h6 hs => ?_⟩
      exact step p H6 s x6 h6 hs
  · rintro σ' H4 ⟨as, x5, rfl, x4, h4b, h4, hal, hall⟩
    have hlen : (as.map V.ref).length = as.length := List.length_map ..
    have fin : ∀ {H5 : Hp} {as2 : List Addr}, Fx f c H H5 → H5 l = some (.lst (as2.map V.ref)) → as2.length ≤ 24 → (∀ a ∈ as2, SpanAt n H5 a) →
        tRet (tTup (tCons (tCall sp__law_names [] E0 (tCons (tVar 0) (tCons (tVar 1) tNil))) (tCons (tCB (rTupOf K) (tCons (tVar 6) tNil)) tNil))) { nx := fun _ H' => Q .non H', rt := Q } [some (.ref f), some (.int (n : Nat)), some (.int (most : Nat)), some (.int cy), some (.ref l0), x5, some (.ref l)] H5 := by
      intro H5 as2 x5 h5 hz ha
      refine plan_end rfl rfl rfl x5.fd hn h5 fun p H6 b cc ss x6 h6 hb hsl hs hcc => ?_
      obtain ⟨sps, q1, q2, q3⟩ := spans_of ha
      exact hQ p H6 b cc ss sps (x5.trans x6) h6 hb hsl hs ⟨as2, hcc, q1.mono x6.ts⟩ (by omega) q3
    walk_at "go"
    rw [hlen]
    refine iteb (fun hb => ?_) (fun hb => ?_)
    · have hpos := of_decide_eq_true hb
      walk_at "go"
      refine iteb (fun hb2 => ?_) (fun hb2 => ?_)
      · have hlt := of_decide_eq_true hb2
        walk_at "go"
        refine use_draw (by omega) (by omega) x4.fd fun r5 H5 x5 a5 b5 => ?_
        walk_at "go"
        refine iteb (fun hb3 => ?_) (fun hb3 => ?_)
        · refine rd_insert rfl (x5.lst h4) ?_
          have h5 := x5.lst h4
          walk_at "go"
          rw [hlen]
          refine use_draw (by omega) (by omega) x5.fd fun r6 H6 x6 a6 b6 => ?_
          walk_at "go"
          have he : as[0]? = some as[0] := List.getElem?_eq_getElem (by omega)
          generalize as[0] = a0 at he
          refine rd_ixL (x6.lst h5) (at_map (j := 0) he) ?_
          walk_at "go"
          refine rd_ins (x6.lst h5) (by rw [hlen]; omega) a6 (by omega) fun H7 e7 h7 => ?_
          have t67 : Tst H6 H7 := e7.ts1 (x6.lst h5) (by intro _ z; cases z)
          obtain ⟨k, rfl⟩ := Int.eq_ofNat_of_zero_le a6
          refine fin (as2 := as.take k ++ [a0] ++ as.drop k) (Fx.out ((x4.trans x5).trans x6) e7 hl') ?_ ?_ fun a ha => ?_
          · rw [h7]
            simp [List.map_take, List.map_drop]
          · simp
            omega
          · refine SpanAt.mono ((x5.trans x6).ts.trans t67) (hall a ?_)
            rcases List.mem_append.1 ha with ha | ha
            · rcases List.mem_append.1 ha with ha | ha
              · exact List.mem_of_mem_take ha
              · rw [List.mem_singleton.1 ha]
                exact List.mem_of_getElem? he
            · exact List.mem_of_mem_drop ha
        · exact fin (x4.trans x5) (x5.lst h4) (by omega) fun a ha => (hall a ha).mono x5.ts
      · exact fin x4 h4 (by omega) hall
    · refine rd_bl (ite_no (ite_no ?_))
      exact fin x4 h4 (by omega) hall
theorem ok__law_plan (T : Txt K mg) : Cal P w K mg base CX0 "_law_plan" 4 ["_law_feed_here", "_law_works", "_law_most", "_law_cycle"] sp__law_plan := by
  have C__law_draw := ok__law_draw (P := P) (w := w) (base := base) T
  have C__law_names := ok__law_names (P := P) (w := w) (base := base) T
  have C__law_fitting := ok__law_fitting (P := P) (w := w) (base := base) T
  have C__law_span := ok__law_span (P := P) (w := w) (base := base) T
  refine Cal.of (i := 33) T (List.mem_of_getElem? (i := 25) rfl) (in_fa 24 rfl) sc__law_plan (fun vs H Q E h => ?_) (fun _ _ _ _ _ _ us hl => match us, hl with | [_, _, _, _], _ => rfl) (fun cdv A outer s H vs Q E hr h => ⟨t__law_plan K, PSs.nox ?_, pure__law_plan vs H Q E h⟩)
  · obtain ⟨f, c, n, most, cy, rfl, _⟩ := h
    rfl
  · exact (pss_cons (ps_setLc (i := 4) (own := [("_law_k", 5)]) (g := (gName 5)) (tt := tYes) rfl sc__law_plan.nd rfl rfl (sw_true rfl rfl rfl (by decide +kernel)) (pi_range1 rfl T.range (pa_cons (pv 1) pa_nil)) (blkOk_by (own := [("_law_k", 5)]) (N := N__law_plan) (sc := defScope (top 33)) (by decide +kernel)) (fun _ _ _ _ _ => (pg_name (i := 5) sc__law_plan.nd rfl (by first | exact Or.inl rfl | exact Or.inr rfl))) (fun _ _ _ _ _ => pts_nil) (fun _ _ _ _ _ => (pe_cal C__law_draw (hr.mono (by decide)) pass0 (pa_cons (pv 0) (pa_cons (pv 3) pa_nil)))))
  (pss_cons (ps_set (i := 6) sc__law_plan.nd rfl (by first | exact Or.inl rfl | exact Or.inr rfl) (pe_lst pa_nil))
  (pss_cons (ps_for PassesOwn.never rfl (pi_range1 rfl T.range (pa_cons (pe_cal C__law_draw (hr.mono (by decide)) pass0 (pa_cons (pv 0) (pa_cons (pe_op op_add (pv 2) pe_int) pa_nil))) pa_nil)) (pg_name (i := 5) sc__law_plan.nd rfl (by first | exact Or.inl rfl | exact Or.inr rfl)) (pss_one (ps_if (pt_cmpR op_gt (pe_cal C__law_draw (hr.mono (by decide)) pass0 (pa_cons (pv 0) (pa_cons pe_int pa_nil))) pe_int (nomark _)) (pss_one (ps_expr (pe_bm PySem.F.plainAttrs_list PySem.F.slot_list_append PySem.F.type_list_append mt_append (pv 6) (pa_cons (pe_cal C__law_fitting (hr.mono (by decide)) pass0 (pa_cons (pv 0) (pa_cons (pv 4) (pa_cons (pv 3) pa_nil)))) pa_nil)))) (pss_one (ps_expr (pe_bm PySem.F.plainAttrs_list PySem.F.slot_list_append PySem.F.type_list_append mt_append (pv 6) (pa_cons (pe_cal C__law_span (hr.mono (by decide)) pass0 (pa_cons (pv 0) (pa_cons (pv 1) (pa_cons (pv 3) pa_nil)))) pa_nil)))))))
  (pss_cons (ps_if (PW.pt (pw_and (pt_chain op_lt op_lt pe_int (pe_callB call_len_seq (by rfl) T.len PySem.boot_len (pa_cons (pv 6) pa_nil)) pe_int) (pw_and1 (pt_cmpR op_eq (pe_cal C__law_draw (hr.mono (by decide)) pass0 (pa_cons (pv 0) (pa_cons pe_int pa_nil))) pe_int (nomark _))))) (pss_one (ps_expr (pe_bm PySem.F.plainAttrs_list PySem.F.slot_list_insert PySem.F.type_list_insert mt_insert (pv 6) (pa_cons (pe_cal C__law_draw (hr.mono (by decide)) pass0 (pa_cons (pv 0) (pa_cons (pe_op op_add (pe_callB call_len_seq (by rfl) T.len PySem.boot_len (pa_cons (pv 6) pa_nil)) pe_int) pa_nil))) (pa_cons (pe_ix ix_list (pv 6) pe_int (fun _ _ => rfl)) pa_nil))))) pss_nil)
  (pss_one (ps_ret (pe_tup (pa_cons (pe_cal C__law_names (hr.mono (by decide)) pass0 (pa_cons (pv 0) (pa_cons (pv 1) pa_nil))) (pa_cons (pe_callTy call_tuple_of (by rfl) T.tuple (by decide +kernel) (pa_cons (pv 6) pa_nil)) pa_nil)))))))))
end
end Bp

namespace Bp
open PySem PyProof.Rows L2 PySem.Spec
local macro_rules | `(tactic| walk_at "side") => `(tactic| first | assumption | omega | decide)
local macro_rules | `(tactic| walk_at "carry") => `(tactic| first | assumption | (refine Same.get (by assumption) ?_; walk_at "carry"))
local macro_rules | `(tactic| walk_at "tst") => `(tactic| first | exact Same.ts (by assumption) | exact SameX.ts1 (by assumption) (by assumption) (by intro _ z; cases z))
local macro_rules | `(tactic| walk_at "dat") => `(tactic| first | assumption | (with_reducible refine PlanA.mono (by walk_at "tst") ?_; walk_at "dat") | (with_reducible refine BeatsA.mono (by walk_at "tst") ?_; walk_at "dat") | (with_reducible refine WaitA.mono (by walk_at "tst") ?_; walk_at "dat") | (with_reducible refine GivenA.mono (by walk_at "tst") ?_; walk_at "dat") | (with_reducible refine TableA.mono (by walk_at "tst") ?_; walk_at "dat"))
local macro_rules | `(tactic| walk_at "at") => `(tactic| first | exact rfl | assumption | exact at_beat (by assumption) | exact at_tab (by assumption) | exact at_map (by assumption))
local macro_rules | `(tactic| walk_at "go1") => `(tactic| first
  | with_reducible refine rd_seq ?_
  | with_reducible refine rd_asg ?_
  | with_reducible refine rd_ret ?_
  | with_reducible refine rd_drop ?_
  | ((with_reducible refine' rd_var ?x1 ?x2); (case x1 => exact rfl))
  | with_reducible refine rd_c ?_
  | with_reducible refine rd_op ?_
  | with_reducible refine rd_un ?_
  | with_reducible refine rd_name ?_
  | with_reducible refine rd_I0 ?_
  | with_reducible refine rd_gcons ?_
  | with_reducible refine rd_gnil ?_
  | with_reducible refine rd_test ?_
  | with_reducible refine rd_B ?_
  | with_reducible refine rd_bl ?_
  | with_reducible refine rd_anil ?_
  | with_reducible refine rd_acons ?_
  | with_reducible refine rd_tup ?_
  | with_reducible refine rd_lst ?_
  | with_reducible refine rd_sdput ?_
  | with_reducible refine rd_call1 ?_
  | with_reducible refine rd_cb ?_
  | with_reducible refine rd_ifS ?_
  | with_reducible refine rd_next ?_
  | ((with_reducible refine' rd_I ?x1 ?x2); (case x1 => walk_at "side"))
  | ((with_reducible refine' rd_ixT ?x1 ?x2 ?x3); (case x1 => walk_at "carry"); (case x2 => walk_at "at"))
  | ((with_reducible refine' rd_lenT ?x1 ?x2); (case x1 => walk_at "carry"))
  | ((with_reducible refine' rd_lenL ?x1 ?x2); (case x1 => walk_at "carry"))
  | with_reducible refine rd_max2 ?_
  | with_reducible refine rd_isiI ?_
  | with_reducible refine rd_isiB ?_
  | ((with_reducible refine' rd_isiT ?x1 ?x2); (case x1 => walk_at "carry"))
  | with_reducible refine ite_yes ?_
  | with_reducible refine ite_no ?_
  | with_reducible refine ite_nf ?_
  | with_reducible refine ite_nt ?_
  | with_reducible refine rd_andV ?_
  | with_reducible refine rd_orV ?_
  | with_reducible refine rd_notV ?_
  | with_reducible refine rd_and ?_
  | with_reducible refine rd_or ?_
  | with_reducible refine rd_not ?_
  | with_reducible refine rd_eq rfl ?_
  | with_reducible refine rd_ne rfl ?_
  | ((with_reducible refine' rd_gtup ?x1 ?x2 ?x3); (case x1 => walk_at "carry"); (case x2 => exact rfl)))
local macro_rules | `(tactic| walk_at "go") => `(tactic| repeat walk_at "go1")
/-! ### legs and needs, plainly -/
abbrev Leg := Nat × Nat × Nat × Nat × Int
abbrev legR (x : Leg) : List V := [.int (x.1 : Nat), .int (x.2.1 : Nat), .int (x.2.2.1 : Nat), .int (x.2.2.2.1 : Nat), .int x.2.2.2.2]
def legAt (I : Inst) (s t : Nat) : Leg := ((I.sp s).one, t, (I.sp s).other, t + I.step s, (I.sp s).low)
def LegsOk (I : Inst) (many : Nat) (ls : List Leg) : Prop := ∀ x, x ∈ ls ↔ ∃ s ∈ I.wait, ∃ t, t + I.step s < many ∧ x = legAt I s t
theorem later_eq {I : Inst} (ok : I.Ok) {s t : Nat} (hs : s < I.spans.length) : (I.b (I.sp s).one + I.cycle * (t : Int) + I.len s) / I.cycle = ((t + I.step s : Nat) : Int) := by
  have e := Inst.stepMul ok hs
  have hb := ok.bt _ (ok.st s hs)
  have hc := ok.c0
  have e2 : I.b (I.sp s).one + I.cycle * (t : Int) + I.len s = I.b (I.sp s).other + I.cycle * ((t + I.step s : Nat) : Int) := by
    rw [Int.natCast_add, Int.mul_add]
    omega
  rw [e2, Int.add_mul_ediv_left _ _ (by omega), Int.ediv_eq_zero_of_lt hb.1 hb.2, Int.zero_add]
def dueOf (I : Inst) (N : Tab) (x : Leg) : Int := I.b x.1 + I.cycle * (x.2.1 : Int) + N x.2.1 x.1 + x.2.2.2.2 - I.b x.2.2.1 - I.cycle * (x.2.2.2.1 : Int)
abbrev Item := Nat × Nat × Int
abbrev lgItem (I : Inst) (N : Tab) (x : Leg) : Item := (x.2.2.2.1, x.2.2.1, dueOf I N x)
abbrev gvItem (g : Gv) : Item := (g.2.1, g.1, g.2.2)
theorem due_at {I : Inst} (ok : I.Ok) {N : Tab} {s t : Nat} (hs : s < I.spans.length) : dueOf I N (legAt I s t) = N t (I.sp s).one - I.buf s := by
  have e := Inst.stepMul ok hs
  show I.b (I.sp s).one + I.cycle * (t : Int) + N t (I.sp s).one + (I.sp s).low - I.b (I.sp s).other - I.cycle * ((t + I.step s : Nat) : Int) = _
  rw [Int.natCast_add, Int.mul_add]
  have e3 : I.len s = (I.sp s).low + I.buf s := rfl
  omega
/-- by places: the most of the items, or 0 -/
structure MaxOf (is : List Item) (F : Tab) : Prop where
  nn : ∀ t w, 0 ≤ F t w
  ge : ∀ x ∈ is, x.2.2 ≤ F x.1 x.2.1
  le : ∀ t w, F t w = 0 ∨ ∃ x ∈ is, x.1 = t ∧ x.2.1 = w ∧ F t w = x.2.2
theorem MaxOf.nil : MaxOf [] (fun _ _ => 0) := ⟨fun _ _ => Int.le_refl _, fun x hx => (by cases hx), fun _ _ => .inl rfl⟩
theorem MaxOf.snoc {is : List Item} {F : Tab} (h : MaxOf is F) (t w : Nat) (v : Int) : MaxOf (is ++ [(t, w, v)]) (setT F t w (max v (F t w))) := by
  have h0 := h.nn t w
  refine ⟨fun t' w' => ?_, fun x hx => ?_, fun t' w' => ?_⟩
  · by_cases e : t' = t ∧ w' = w
    · rw [e.1, e.2, setT_same]; omega
    · rw [setT_other e]; exact h.nn t' w'
  · rcases List.mem_append.1 hx with hx | hx
    · have z := h.ge x hx
      by_cases e : x.1 = t ∧ x.2.1 = w
      · rw [e.1, e.2] at z ⊢
        rw [setT_same]; omega
      · rw [setT_other e]; exact z
    · rw [List.mem_singleton.mp hx]
      show v ≤ setT F t w _ t w
      rw [setT_same]; omega
  · by_cases e : t' = t ∧ w' = w
    · rw [e.1, e.2, setT_same]
      by_cases c : v ≤ F t w
      · rw [Int.max_eq_right c]
        rcases h.le t w with z | ⟨x, hx, z⟩
        · exact .inl z
        · exact .inr ⟨x, List.mem_append_left _ hx, z⟩
      · rw [Int.max_eq_left (by omega)]
        exact .inr ⟨(t, w, v), by simp, rfl, rfl, rfl⟩
    · rw [setT_other e]
      rcases h.le t' w' with z | ⟨x, hx, z⟩
      · exact .inl z
      · exact .inr ⟨x, List.mem_append_left _ hx, z⟩
/-- the least table is what is needed of it -/
theorem needs_eq {I : Inst} (ok : I.Ok) {gv : List Gv} {many : Nat} {N F : Tab} {ls : List Leg} (hl : LegsOk I many ls) (a : Least I gv many N) (m : MaxOf (ls.map (lgItem I N) ++ gv.map gvItem) F) {t w : Nat} : N t w = F t w := by
  have h1 : N t w ≤ F t w := by
    refine Least.tight ok a (m.nn t w) (fun g hg e1 e2 => ?_) fun s hs t0 e1 ht e2 => ?_
    · have z := m.ge (gvItem g) (List.mem_append_right _ (List.mem_map.mpr ⟨g, hg, rfl⟩))
      have z2 : g.2.2 ≤ F g.2.1 g.1 := z
      rw [e1, e2] at z2
      exact z2
    · have hx : legAt I s t0 ∈ ls := (hl _).mpr ⟨s, hs, t0, by omega, rfl⟩
      have z := m.ge (lgItem I N (legAt I s t0)) (List.mem_append_left _ (List.mem_map.mpr ⟨_, hx, rfl⟩))
      have z2 : dueOf I N (legAt I s t0) ≤ F (t0 + I.step s) (I.sp s).other := z
      rw [due_at ok (ok.wt s hs), e1, e2] at z2
      exact z2
  have h2 : F t w ≤ N t w := by
    rcases m.le t w with z | ⟨x, hx, e1, e2, e3⟩
    · rw [z]; exact a.fs.nn t w
    · rcases List.mem_append.1 hx with hx | hx
      · obtain ⟨lg, hlg, rfl⟩ := List.mem_map.mp hx
        obtain ⟨s, hs, t0, ht, rfl⟩ := (hl _).mp hlg
        have z := a.fs.lg s hs t0 ht
        have e3' : F t w = dueOf I N (legAt I s t0) := e3
        rw [e3', due_at ok (ok.wt s hs), ← e1, ← e2]
        exact z
      · obtain ⟨g, hg, rfl⟩ := List.mem_map.mp hx
        have z := a.fs.gi g hg
        have e3' : F t w = g.2.2 := e3
        have e1' : g.2.1 = t := e1
        have e2' : g.1 = w := e2
        rw [e3', ← e1', ← e2']
        exact z
  omega
/-! ### tables: tuples of tuples, or lists of lists -/
def LTabA (H : Hp) (many works : Nat) (N : Tab) (a : Addr) : Prop := ∃ as : List Addr, H a = some (.lst (as.map V.ref)) ∧ as.length = many ∧ ∀ (t : Nat) (q : Addr), as[t]? = some q → H q = some (.lst (tabRow works N t))
def TabAny (H : Hp) (many works : Nat) (N : Tab) (a : Addr) : Prop := TableA H many works N a ∨ LTabA H many works N a
theorem LTabA.same {H H' : Hp} {many works : Nat} {N : Tab} {a : Addr} (e : Same H H') (h : LTabA H many works N a) : LTabA H' many works N a := by
  obtain ⟨as, h1, h2, h3⟩ := h
  exact ⟨as, e _ _ h1, h2, fun t q hq => e _ _ (h3 t q hq)⟩
theorem TabAny.same {H H' : Hp} {many works : Nat} {N : Tab} {a : Addr} (e : Same H H') (h : TabAny H many works N a) : TabAny H' many works N a := by
  rcases h with h | h
  · exact .inl (h.mono e.ts)
  · exact .inr (h.same e)
theorem TabAny.row {K : PySem.W.Frag} {H : Hp} {many works : Nat} {N : Tab} {a : Addr} (h : TabAny H many works N a) {t : Nat} (ht : t < many) :
    ∃ q, (∀ Q : VK, Q (.ref q) H → rIx K (.ref a) (.int (t : Nat)) H Q) ∧ ∀ w, w < works → ∀ Q : VK, Q (.int (N t w)) H → rIx K (.ref q) (.int (w : Nat)) H Q := by
  rcases h with h | ⟨as, h1, h2, h3⟩
  · obtain ⟨as, q, q1, _, q2, q3⟩ := h.row ht
    exact ⟨q, fun Q k => .inr (.inl (rd_ixT q1 q2 k)), fun w hw Q k => .inr (.inl (rd_ixT q3 (at_tab hw) k))⟩
  · have he : as[t]? = some as[t] := List.getElem?_eq_getElem (by omega)
    exact ⟨as[t], fun Q k => .inl (rd_ixL h1 (at_map he) k), fun w hw Q k => .inl (rd_ixL (h3 t _ he) (at_tab hw) k)⟩
section
variable {P : Program} {w : World} {K : PySem.W.Frag} {mg : Str → Option Value} {base : Heap} {σ : L2.St} {H : Hp} {D : Ends} {v : V} {i j : Nat} {a d l : Addr} {Q : VK} {te tv : TE} {m n : Int} {xs : List V} {tr : TA}
local macro_rules | `(tactic| walk_at "side") => `(tactic| first | exact cdv (by omega) (by omega) | exact cmL (by omega) (by omega) | exact cmR (by omega) (by omega))
/-! ### _law_legs -/
def sp__law_legs : Sp := fun vs H Q _ => ∃ (I : Inst) (many : Nat) (pa ba wa : Addr), vs = [.ref pa, .int I.cycle, .ref ba, .ref wa, .int (many : Nat)] ∧ I.Ok ∧ many ≤ 12 ∧ PlanA H I pa ∧ BeatsA H I ba ∧ WaitA H I wa ∧
  ∀ l H' as (ls : List Leg), Same H H' → H l = none → H' l = some (.lst (as.map V.ref)) → Rows H' as (ls.map legR) → LegsOk I many ls → ls.length ≤ 1000 → Q (.ref l) H'
abbrev N__law_legs : List Str := ["_law_plan_here", "_law_cycle", "_law_beats_here", "_law_waiting", "_law_many", "_law_found", "_law_s", "_law_word", "_law_one", "_law_other", "_law_low", "_law_high", "_law_length", "_law_turn", "_law_later"]
theorem sc__law_legs : FnScope N__law_legs ["_law_plan_here", "_law_cycle", "_law_beats_here", "_law_waiting", "_law_many"] (defScope (top 37)) := ⟨rfl, rfl, rfl, by decide +kernel, rfl, by decide +kernel, by decide +kernel⟩
def t__law_legs (K : PySem.W.Frag) : TS :=
  (tSeq (tAsg (tLst tNil) (gName 5))
  (tSeq (tFor (iTup K (tVar 3)) (gName 6) (tSeq (tAsg (tOp (rIxT K) (tOp (rIxT K) (tVar 0) (tC (.int 1))) (tVar 6)) (gTup K 5 (gCons (gName 7) (gCons (gName 8) (gCons (gName 9) (gCons (gName 10) (gCons (gName 11) gNil)))))))
  (tSeq (tAsg (tOp rAddI (tVar 10) (tOp rModI (tOp rSubI (tOp rSubI (tOp (rIxT K) (tVar 2) (tVar 9)) (tOp (rIxT K) (tVar 2) (tVar 8))) (tVar 10)) (tVar 1))) (gName 12))
  (tFor (iRng1 (tCons (tVar 4) tNil)) (gName 13) (tSeq (tAsg (tOp rDivI (tOp rAddI (tOp rAddI (tOp (rIxT K) (tVar 2) (tVar 8)) (tOp rMulI (tVar 1) (tVar 13))) (tVar 12)) (tVar 1)) (gName 14))
  (tIfS (tTest (tOp rLtI (tVar 14) (tVar 4))) (tDrop (tBM K "list" rAppend (tVar 5) (tCons (tTup (tCons (tVar 8) (tCons (tVar 13) (tCons (tVar 9) (tCons (tVar 14) (tCons (tVar 10) tNil)))))) tNil))) tNext))))))
  (tRet (tVar 5))))
theorem pure__law_legs (vs : List V) (H : Hp) (Q : VK) (E : XK) (h : sp__law_legs vs H Q E) : t__law_legs K { nx := fun _ H' => Q .non H', rt := Q } (start N__law_legs vs) H := by
  obtain ⟨I, many, pa, ba, wa, rfl, ok, hm, hP, hB, hW, hQ⟩ := h
  have hc0 := ok.c0
  have hc1 := ok.c1
  unfold t__law_legs
  walk_at "go"
  refine newL (fun l H1 hl e1 h1 => ?_) rfl
  walk_at "go"
  refine rd_forTv (a := wa) rfl (e1 _ _ hW) (fun i σ' H' => ∃ (as : List Addr) (ls : List Leg) (x6 x7 x8 x9 x10 x11 x12 x13 x14 : Option V), σ' = [some (.ref pa), some (.int I.cycle), some (.ref ba), some (.ref wa), some (.int (many : Nat)), some (.ref l), x6, x7, x8, x9, x10, x11, x12, x13, x14] ∧ Same H H' ∧
      H' l = some (.lst (as.map V.ref)) ∧ Rows H' as (ls.map legR) ∧ ls.length ≤ i * 12 ∧ ∀ x, x ∈ ls ↔ ∃ s ∈ I.wait.take i, ∃ t, t + I.step s < many ∧ x = legAt I s t)
    ⟨[], [], _, _, _, _, _, _, _, _, _, rfl, e1, h1, Rows.nil, by simp, fun x => by simp⟩ (fun i σ' H' ⟨_, _, _, _, _, _, _, _, _, _, _, _, e, _⟩ => e _ _ hW) ?_ ?_
  · rintro i x σ' H' hx ⟨as, ls, x6, x7, x8, x9, x10, x11, x12, x13, x14, rfl, e, h2, hr, hll, hmem⟩
    obtain ⟨s, hs, rfl⟩ := get_map hx
    have hsm : s ∈ I.wait := List.mem_of_getElem? hs
    have hsl := ok.wt s hsm
    have hiw : i < I.wait.length := (List.getElem?_eq_some_iff.mp hs).1
    have hi24 : i < 24 := by have := ok.wl; omega
    obtain ⟨pb, pc, pas, sq, p1, p2, p3, p4⟩ := (hP.mono e.ts).span hsl
    have hB2 : H' ba = some (.tup (I.beats.map V.int)) := e _ _ hB
    have hso := ok.so s hsl
    have hst := ok.st s hsl
    walk_at "go"
    rw [show (I.sp s).low + (I.b (I.sp s).other - I.b (I.sp s).one - (I.sp s).low) % I.cycle = I.len s from rfl]
    dsimp only
    refine rd_forR (n := (many : Nat)) (fun Q k => by walk_at "go"; exact k) (by omega) (by omega) (fun j σ' H' => ∃ (as : List Addr) (ls : List Leg) (x13 x14 : Option V), σ' = [some (.ref pa), some (.int I.cycle), some (.ref ba), some (.ref wa), some (.int (many : Nat)), some (.ref l), some (.int (s : Nat)), some (.str (I.sp s).word), some (.int ((I.sp s).one : Nat)), some (.int ((I.sp s).other : Nat)), some (.int (I.sp s).low), some (.int (I.sp s).high), some (.int (I.len s)), x13, x14] ∧ Same H H' ∧
      H' l = some (.lst (as.map V.ref)) ∧ Rows H' as (ls.map legR) ∧ ls.length ≤ i * 12 + j ∧ ∀ x, x ∈ ls ↔ (∃ s ∈ I.wait.take i, ∃ t, t + I.step s < many ∧ x = legAt I s t) ∨ ∃ t, t < j ∧ t + I.step s < many ∧ x = legAt I s t)
      ⟨as, ls, _, _, rfl, e, h2, hr, by omega, fun x => by rw [hmem]; simp⟩ ?_ ?_
    · rintro t σ' H3 ht ⟨as, ls, x13, x14, rfl, e, h3, hr, hll, hmem⟩
      have hB3 : H3 ba = some (.tup (I.beats.map V.int)) := e _ _ hB
      have hal : as.length = ls.length := by rw [hr.len, List.length_map]
      walk_at "go"
      rw [later_eq ok hsl]
      walk_at "go"
      refine iteb (fun hb => ?_) (fun hb => ?_)
      · have hlt : t + I.step s < many := by
          have := of_decide_eq_true hb
          omega
        walk_at "go"
        refine rd_append rfl h3 ?_
        walk_at "go"
        refine newT (fun p H4 hp e4 h4 => ?_) rfl
        refine rd_app (e4 _ _ h3) (by rw [List.length_map]; omega) fun H5 e5 h5 => ?_
        have t45 : Tst H4 H5 := e5.ts1 (e4 _ _ h3) (by intro _ z; cases z)
        refine ⟨as ++ [p], ls ++ [legAt I s t], _, _, rfl, SameX.out (e.trans e4) e5 (fun z hz => by rw [List.mem_singleton.mp hz]; exact hl), by rw [h5, List.map_append]; rfl, ?_, by rw [List.length_append]; show _ + 1 ≤ _; omega, fun x => ?_⟩
        · rw [List.map_append]
          exact (hr.mono (e4.ts.trans t45)).snoc (t45 _ _ h4)
        · rw [List.mem_append, hmem, List.mem_singleton]
          constructor
          · rintro ((z | ⟨t', z1, z2, z3⟩) | z)
            · exact .inl z
            · exact .inr ⟨t', by omega, z2, z3⟩
            · exact .inr ⟨t, by omega, hlt, z⟩
          · rintro (z | ⟨t', z1, z2, z3⟩)
            · exact .inl (.inl z)
            · by_cases c : t' = t
              · rw [c] at z3
                exact .inr z3
              · exact .inl (.inr ⟨t', by omega, z2, z3⟩)
      · have hge : ¬ t + I.step s < many := by
          have := of_decide_eq_false hb
          omega
        walk_at "go"
        refine ⟨as, ls, _, _, rfl, e, h3, hr, by omega, fun x => ?_⟩
        rw [hmem]
        constructor
        · rintro (z | ⟨t', z1, z2, z3⟩)
          · exact .inl z
          · exact .inr ⟨t', by omega, z2, z3⟩
        · rintro (z | ⟨t', z1, z2, z3⟩)
          · exact .inl z
          · by_cases c : t' = t
            · subst c
              exact absurd z2 hge
            · exact .inr ⟨t', by omega, z2, z3⟩
    · rintro σ' H3 ⟨as, ls, x13, x14, rfl, e, h3, hr, hll, hmem⟩
      refine ⟨as, ls, _, _, _, _, _, _, _, _, _, rfl, e, h3, hr, by simp at hll; omega, fun x => ?_⟩
      rw [hmem, take_snoc hs]
      constructor
      · rintro (⟨s', z1, z2⟩ | ⟨t, z1, z2, z3⟩)
        · exact ⟨s', List.mem_append_left _ z1, z2⟩
        · exact ⟨s, by simp, t, z2, z3⟩
      · rintro ⟨s', z1, t, z2, z3⟩
        rcases List.mem_append.mp z1 with z1 | z1
        · exact .inl ⟨s', z1, t, z2, z3⟩
        · rw [List.mem_singleton] at z1
          subst z1
          exact .inr ⟨t, by simp; omega, z2, z3⟩
  · rintro σ' H2 ⟨as, ls, x6, x7, x8, x9, x10, x11, x12, x13, x14, rfl, e, h2, hr, hll, hmem⟩
    rw [List.length_map] at hll hmem
    rw [List.take_length] at hmem
    walk_at "go"
    exact hQ l H2 as ls e hl h2 hr hmem (by have := ok.wl; omega)
theorem ok__law_legs (T : Txt K mg) : Cal P w K mg base CX0 "_law_legs" 1 ["_law_plan_here", "_law_cycle", "_law_beats_here", "_law_waiting", "_law_many"] sp__law_legs := by
  refine Cal.of (i := 37) T (List.mem_of_getElem? (i := 29) rfl) (in_fa 28 rfl) sc__law_legs (fun vs H Q E h => ?_) (fun _ _ _ _ _ _ us hl => match us, hl with | [_, _, _, _, _], _ => rfl) (fun cdv A outer s H vs Q E hr h => ⟨t__law_legs K, PSs.nox ?_, pure__law_legs vs H Q E h⟩)
  · obtain ⟨I, many, pa, ba, wa, rfl, _⟩ := h
    rfl
  · exact (pss_cons (ps_set (i := 5) sc__law_legs.nd rfl (by first | exact Or.inl rfl | exact Or.inr rfl) (pe_lst pa_nil))
  (pss_cons (ps_for PassesOwn.never rfl (pi_tup (pv 3)) (pg_name (i := 6) sc__law_legs.nd rfl (by first | exact Or.inl rfl | exact Or.inr rfl)) (pss_cons (ps_asg (pe_ix ix_tup (pe_ix ix_tup (pv 0) pe_int (fun _ _ => rfl)) (pv 6) (fun _ _ => rfl)) (pg_tup rfl (pgs_cons (pg_name (i := 7) sc__law_legs.nd rfl (by first | exact Or.inl rfl | exact Or.inr rfl)) (pgs_cons (pg_name (i := 8) sc__law_legs.nd rfl (by first | exact Or.inl rfl | exact Or.inr rfl)) (pgs_cons (pg_name (i := 9) sc__law_legs.nd rfl (by first | exact Or.inl rfl | exact Or.inr rfl)) (pgs_cons (pg_name (i := 10) sc__law_legs.nd rfl (by first | exact Or.inl rfl | exact Or.inr rfl)) (pgs_cons (pg_name (i := 11) sc__law_legs.nd rfl (by first | exact Or.inl rfl | exact Or.inr rfl)) pgs_nil)))))))
  (pss_cons (ps_set (i := 12) sc__law_legs.nd rfl (by first | exact Or.inl rfl | exact Or.inr rfl) (pe_op op_add (pv 10) (pe_op op_mod (pe_op op_sub (pe_op op_sub (pe_ix ix_tup (pv 2) (pv 9) (fun _ _ => rfl)) (pe_ix ix_tup (pv 2) (pv 8) (fun _ _ => rfl))) (pv 10)) (pv 1))))
  (pss_one (ps_for PassesOwn.never rfl (pi_range1 rfl T.range (pa_cons (pv 4) pa_nil)) (pg_name (i := 13) sc__law_legs.nd rfl (by first | exact Or.inl rfl | exact Or.inr rfl)) (pss_cons (ps_set (i := 14) sc__law_legs.nd rfl (by first | exact Or.inl rfl | exact Or.inr rfl) (pe_op op_fdiv (pe_op op_add (pe_op op_add (pe_ix ix_tup (pv 2) (pv 8) (fun _ _ => rfl)) (pe_op op_mul (pv 1) (pv 13))) (pv 12)) (pv 1)))
  (pss_one (ps_if (pt_cmpR op_lt (pv 14) (pv 4) (nomark _)) (pss_one (ps_expr (pe_bm PySem.F.plainAttrs_list PySem.F.slot_list_append PySem.F.type_list_append mt_append (pv 5) (pa_cons (pe_tup (pa_cons (pv 8) (pa_cons (pv 13) (pa_cons (pv 9) (pa_cons (pv 14) (pa_cons (pv 10) pa_nil)))))) pa_nil)))) pss_nil))))))))
  (pss_one (ps_ret (pv 5)))))
/-! ### _law_needs -/
def sp__law_needs : Sp := fun vs H Q _ => ∃ (I : Inst) (many : Nat) (N : Tab) (ls : List Leg) (as : List Addr) (la ba ta : Addr), vs = [.ref la, .int I.cycle, .ref ba, .ref ta] ∧ I.Ok ∧ many ≤ 12 ∧ BeatsA H I ba ∧ H la = some (.lst (as.map V.ref)) ∧ Rows H as (ls.map legR) ∧ LegsOk I many ls ∧ TabAny H many I.beats.length N ta ∧
  ∀ d H' kvs F, Same H H' → H d = none → H' d = some (.dT kvs) → KeysOk many I.beats.length kvs → GetsN kvs F → MaxOf (ls.map (lgItem I N)) F → Q (.ref d) H'
abbrev N__law_needs : List Str := ["_law_legs_here", "_law_cycle", "_law_beats_here", "_law_table", "_law_found", "_law_one", "_law_turn", "_law_other", "_law_later", "_law_low", "_law_behind", "_law_due"]
theorem sc__law_needs : FnScope N__law_needs ["_law_legs_here", "_law_cycle", "_law_beats_here", "_law_table"] (defScope (top 38)) := ⟨rfl, rfl, rfl, by decide +kernel, rfl, by decide +kernel, by decide +kernel⟩
def t__law_needs (K : PySem.W.Frag) : TS :=
  (tSeq (tAsg tDNewT (gName 4))
  (tSeq (tFor (iList K (tVar 0)) (gTup K 5 (gCons (gName 5) (gCons (gName 6) (gCons (gName 7) (gCons (gName 8) (gCons (gName 9) gNil)))))) (tSeq (tAsg (tOp rAddI (tOp rAddI (tOp rAddI (tOp (rIxT K) (tVar 2) (tVar 5)) (tOp rMulI (tVar 1) (tVar 6))) (tOp (rIx K) (tOp (rIx K) (tVar 3) (tVar 6)) (tVar 5))) (tVar 9)) (gName 10))
  (tSeq (tAsg (tOp rSubI (tOp rSubI (tVar 10) (tOp (rIxT K) (tVar 2) (tVar 7))) (tOp rMulI (tVar 1) (tVar 8))) (gName 11))
  (sDPut (tVar 4) (tTup (tCons (tVar 8) (tCons (tVar 7) tNil))) (tCB rMax2 (tCons (tVar 11) (tCons (tDGet2 (tVar 4) (tTup (tCons (tVar 8) (tCons (tVar 7) tNil))) (tC (.int 0))) tNil)))))))
  (tRet (tVar 4))))
theorem pure__law_needs (vs : List V) (H : Hp) (Q : VK) (E : XK) (h : sp__law_needs vs H Q E) : t__law_needs K { nx := fun _ H' => Q .non H', rt := Q } (start N__law_needs vs) H := by
  obtain ⟨I, many, N, ls, as, la, ba, ta, rfl, ok, hm, hB, hla, hr, hlo, hT, hQ⟩ := h
  have hc0 := ok.c0
  have hc1 := ok.c1
  have hal : as.length = ls.length := by rw [hr.len, List.length_map]
  unfold t__law_needs
  walk_at "go"
  refine newD fun d H1 hd e1 h1 => ?_
  walk_at "go"
  refine rd_forLv (a := la) rfl (e1 _ _ hla) (fun i σ' H' => ∃ (kvs : List (List Key × V)) (F : Tab) (x5 x6 x7 x8 x9 x10 x11 : Option V), σ' = [some (.ref la), some (.int I.cycle), some (.ref ba), some (.ref ta), some (.ref d), x5, x6, x7, x8, x9, x10, x11] ∧ Same H H' ∧
      H' d = some (.dT kvs) ∧ KeysOk many I.beats.length kvs ∧ GetsN kvs F ∧ MaxOf ((ls.take i).map (lgItem I N)) F)
    ⟨[], _, _, _, _, _, _, _, _, rfl, e1, h1, KeysOk.nil, GetsN.nil, MaxOf.nil⟩ (fun i σ' H' ⟨_, _, _, _, _, _, _, _, _, _, e, _⟩ => e _ _ hla) ?_ ?_
  · rintro i x σ' H2 hx ⟨kvs, F, x5, x6, x7, x8, x9, x10, x11, rfl, e, h2, hk, hg, hM⟩
    obtain ⟨lp, hlp, rfl⟩ := get_map hx
    have hi : i < ls.length := by rw [← hal]; exact (List.getElem?_eq_some_iff.mp hlp).1
    have hle : ls[i]? = some ls[i] := List.getElem?_eq_getElem hi
    generalize ls[i] = lg at hle
    obtain ⟨s, hs, t, hts, rfl⟩ := (hlo lg).mp (List.mem_of_getElem? hle)
    have hsl := ok.wt s hs
    have hrow : H lp = some (.tup (legR (legAt I s t))) := hr.at_ i lp _ hlp (by rw [List.getElem?_map, hle]; rfl)
    have hrow2 := e _ _ hrow
    have hB2 : H2 ba = some (.tup (I.beats.map V.int)) := e _ _ hB
    have hso := ok.so s hsl
    have hst := ok.st s hsl
    have hklen := hk.len
    have hmw : many * I.beats.length ≤ 12 * 8 := Nat.mul_le_mul hm ok.w1
    obtain ⟨q, q1, q2⟩ := (hT.same e).row (K := K) (t := t) (by omega)
    walk_at "go"
    refine q1 _ ?_
    walk_at "go"
    refine q2 _ hso _ ?_
    walk_at "go"
    refine rd_get (m := ((t + I.step s : Nat) : Int)) (v := .int (F (t + I.step s) (I.sp s).other)) rfl (.inl h2) (fun H1 QA kk => by walk_at "go"; exact kk) (hg _ _) fun H3 e3 => ?_
    walk_at "go"
    refine rd_put (m := ((t + I.step s : Nat) : Int)) rfl (fun H1 QA kk => by walk_at "go"; exact kk) (e3 _ _ h2) (by omega) fun H4 e4 h4 => ?_
    refine ⟨_, _, _, _, _, _, _, _, _, rfl, SameX.out (e.trans e3) e4 (fun z hz => by rw [List.mem_singleton.mp hz]; exact hd), h4, hk.put hts hst _, hg.put _ _ _, ?_⟩
    rw [take_snoc hle, List.map_append]
    exact hM.snoc _ _ _
  · rintro σ' H2 ⟨kvs, F, x5, x6, x7, x8, x9, x10, x11, rfl, e, h2, hk, hg, hM⟩
    rw [List.length_map, hal, List.take_length] at hM
    walk_at "go"
    exact hQ d H2 kvs F e hd h2 hk hg hM
theorem ok__law_needs (T : Txt K mg) : Cal P w K mg base CX0 "_law_needs" 1 ["_law_legs_here", "_law_cycle", "_law_beats_here", "_law_table"] sp__law_needs := by
  refine Cal.of (i := 38) T (List.mem_of_getElem? (i := 30) rfl) (in_fa 29 rfl) sc__law_needs (fun vs H Q E h => ?_) (fun _ _ _ _ _ _ us hl => match us, hl with | [_, _, _, _], _ => rfl) (fun cdv A outer s H vs Q E hr h => ⟨t__law_needs K, PSs.nox ?_, pure__law_needs vs H Q E h⟩)
  · obtain ⟨I, many, N, ls, as, la, ba, ta, rfl, _⟩ := h
    rfl
  · exact (pss_cons (ps_set (i := 4) sc__law_needs.nd rfl (by first | exact Or.inl rfl | exact Or.inr rfl) pe_dnewT)
  (pss_cons (ps_for PassesOwn.never rfl (pi_list (pv 0)) (pg_tup rfl (pgs_cons (pg_name (i := 5) sc__law_needs.nd rfl (by first | exact Or.inl rfl | exact Or.inr rfl)) (pgs_cons (pg_name (i := 6) sc__law_needs.nd rfl (by first | exact Or.inl rfl | exact Or.inr rfl)) (pgs_cons (pg_name (i := 7) sc__law_needs.nd rfl (by first | exact Or.inl rfl | exact Or.inr rfl)) (pgs_cons (pg_name (i := 8) sc__law_needs.nd rfl (by first | exact Or.inl rfl | exact Or.inr rfl)) (pgs_cons (pg_name (i := 9) sc__law_needs.nd rfl (by first | exact Or.inl rfl | exact Or.inr rfl)) pgs_nil)))))) (pss_cons (ps_set (i := 10) sc__law_needs.nd rfl (by first | exact Or.inl rfl | exact Or.inr rfl) (pe_op op_add (pe_op op_add (pe_op op_add (pe_ix ix_tup (pv 2) (pv 5) (fun _ _ => rfl)) (pe_op op_mul (pv 1) (pv 6))) (pe_ix ix_seq (pe_ix ix_seq (pv 3) (pv 6) (fun _ _ => rfl)) (pv 5) (fun _ _ => rfl))) (pv 9)))
  (pss_cons (ps_set (i := 11) sc__law_needs.nd rfl (by first | exact Or.inl rfl | exact Or.inr rfl) (pe_op op_sub (pe_op op_sub (pv 10) (pe_ix ix_tup (pv 2) (pv 7) (fun _ _ => rfl))) (pe_op op_mul (pv 1) (pv 8))))
  (pss_one (ps_dput (hu_of hr) (pv 4) (pe_tup (pa_cons (pv 8) (pa_cons (pv 7) pa_nil))) (pe_callB (call_max2 rfl) (by rfl) T.max (by decide +kernel) (pa_cons (pv 11) (pa_cons (pe_dget2 (hu_of hr) (pv 4) (pe_tup (pa_cons (pv 8) (pa_cons (pv 7) pa_nil))) pe_int ⟨rfl, rfl, rfl, rfl⟩) pa_nil))) rfl)))))
  (pss_one (ps_ret (pv 4)))))
/-! ### _law_table_right -/
def sp__law_table_right : Sp := fun vs H Q _ => ∃ (I : Inst) (many : Nat) (N : Tab) (gv : List Gv) (ls : List Leg) (as : List Addr) (ta la ba ga : Addr), vs = [.ref ta, .ref la, .int I.cycle, .ref ba, .ref ga] ∧ I.Ok ∧ many ≤ 12 ∧ GvOk I many gv ∧ BeatsA H I ba ∧ H la = some (.lst (as.map V.ref)) ∧ Rows H as (ls.map legR) ∧ LegsOk I many ls ∧ TableA H many I.beats.length N ta ∧ GivenA H gv ga ∧ Least I gv many N ∧
  ∀ H', Same H H' → Q (.bl true) H'
abbrev N__law_table_right : List Str := ["_law_table", "_law_legs_here", "_law_cycle", "_law_beats_here", "_law_given_here", "_law_needs_here", "_law_work", "_law_turn", "_law_late"]
theorem sc__law_table_right : FnScope N__law_table_right ["_law_table", "_law_legs_here", "_law_cycle", "_law_beats_here", "_law_given_here"] (defScope (top 39)) := ⟨rfl, rfl, rfl, by decide +kernel, rfl, by decide +kernel, by decide +kernel⟩
def t__law_table_right (K : PySem.W.Frag) : TS :=
  (tSeq (tAsg (tCall sp__law_needs [] E0 (tCons (tVar 1) (tCons (tVar 2) (tCons (tVar 3) (tCons (tVar 0) tNil))))) (gName 5))
  (tSeq (tFor (iTup K (tVar 4)) (gTup K 3 (gCons (gName 6) (gCons (gName 7) (gCons (gName 8) gNil)))) (sDPut (tVar 5) (tTup (tCons (tVar 7) (tCons (tVar 6) tNil))) (tCB rMax2 (tCons (tVar 8) (tCons (tDGet2 (tVar 5) (tTup (tCons (tVar 7) (tCons (tVar 6) tNil))) (tC (.int 0))) tNil)))))
  (tSeq (tFor (iRng1 (tCons (tCB (rLenS K) (tCons (tVar 0) tNil)) tNil)) (gName 7) (tFor (iRng1 (tCons (tCB (rLenS K) (tCons (tVar 3) tNil)) tNil)) (gName 6) (tIfS (tTest (tOp rNe (tOp (rIxT K) (tOp (rIxT K) (tVar 0) (tVar 7)) (tVar 6)) (tDGet2 (tVar 5) (tTup (tCons (tVar 7) (tCons (tVar 6) tNil))) (tC (.int 0))))) (tRet (tC (.bl false))) tNext)))
  (tRet (tC (.bl true))))))
theorem pure__law_table_right (vs : List V) (H : Hp) (Q : VK) (E : XK) (h : sp__law_table_right vs H Q E) : t__law_table_right K { nx := fun _ H' => Q .non H', rt := Q } (start N__law_table_right vs) H := by
  obtain ⟨I, many, N, gv, ls, as, ta, la, ba, ga, rfl, ok, hm, hgv, hB, hla, hr, hlo, hT, ⟨gas, hga, hgr⟩, hL, hQ⟩ := h
  have hmw : many * I.beats.length ≤ 12 * 8 := Nat.mul_le_mul hm ok.w1
  have hgal : gas.length = gv.length := by rw [hgr.len, List.length_map]
  unfold t__law_table_right
  walk_at "go"
  refine ⟨I, many, N, ls, as, la, ba, ta, rfl, ok, hm, hB, hla, hr, hlo, .inl hT, fun d H1 kvs F e1 hd h1 hk hg hM => ?_⟩
  walk_at "go"
  refine rd_forTv (a := ga) rfl (e1 _ _ hga) (fun i σ' H' => ∃ (kvs : List (List Key × V)) (F : Tab) (x6 x7 x8 : Option V), σ' = [some (.ref ta), some (.ref la), some (.int I.cycle), some (.ref ba), some (.ref ga), some (.ref d), x6, x7, x8] ∧ Same H H' ∧
      H' d = some (.dT kvs) ∧ KeysOk many I.beats.length kvs ∧ GetsN kvs F ∧ MaxOf (ls.map (lgItem I N) ++ (gv.take i).map gvItem) F)
    ⟨kvs, F, _, _, _, rfl, e1, h1, hk, hg, by simpa using hM⟩ (fun i σ' H' ⟨_, _, _, _, _, _, e, _⟩ => e _ _ hga) ?_ ?_
  · rintro i x σ' H2 hx ⟨kvs, F, x6, x7, x8, rfl, e, h2, hk, hg, hM⟩
    obtain ⟨gp, hgp, rfl⟩ := get_map hx
    have hi : i < gv.length := by rw [← hgal]; exact (List.getElem?_eq_some_iff.mp hgp).1
    have hge : gv[i]? = some gv[i] := List.getElem?_eq_getElem hi
    generalize gv[i] = g at hge
    have hgm : g ∈ gv := List.mem_of_getElem? hge
    have hrow : H gp = some (.tup (gvRow g)) := hgr.at_ i gp _ hgp (by rw [List.getElem?_map, hge]; rfl)
    have hrow2 := e _ _ hrow
    have hklen := hk.len
    walk_at "go"
    refine rd_get (v := .int (F g.2.1 g.1)) rfl (.inl h2) (fun H1 QA kk => by walk_at "go"; exact kk) (hg _ _) fun H3 e3 => ?_
    walk_at "go"
    refine rd_put rfl (fun H1 QA kk => by walk_at "go"; exact kk) (e3 _ _ h2) (by omega) fun H4 e4 h4 => ?_
    refine ⟨_, _, _, _, _, rfl, SameX.out (e.trans e3) e4 (fun z hz => by rw [List.mem_singleton.mp hz]; exact hd), h4, hk.put (hgv.t g hgm) (hgv.w g hgm) _, hg.put _ _ _, ?_⟩
    rw [take_snoc hge, List.map_append, ← List.append_assoc]
    exact hM.snoc _ _ _
  · rintro σ' H2 ⟨kvs, F, x6, x7, x8, rfl, e, h2, hk, hg, hM⟩
    rw [List.length_map, hgal, List.take_length] at hM
    obtain ⟨tas, hta, htr⟩ := id hT
    have htl : (tas.map V.ref).length = many := by rw [List.length_map, htr.len]; simp [tabRows]
    have hta2 := e _ _ hta
    have hbl : (I.beats.map V.int).length = I.beats.length := List.length_map ..
    walk_at "go"
    refine rd_forR (n := (many : Nat)) (fun Q k => by walk_at "go"; rw [htl]; exact k) (by omega) (by omega) (fun i σ' H' => ∃ (x6 x7 x8 : Option V), σ' = [some (.ref ta), some (.ref la), some (.int I.cycle), some (.ref ba), some (.ref ga), some (.ref d), x6, x7, x8] ∧ Same H H' ∧ H' d = some (.dT kvs)) ⟨_, _, _, rfl, e, h2⟩ ?_ ?_
    · rintro t σ' H3 ht ⟨x6, x7, x8, rfl, e3, h3⟩
      have hB3 : H3 ba = some (.tup (I.beats.map V.int)) := e3 _ _ hB
      walk_at "go"
      refine rd_forR (n := (I.beats.length : Nat)) (fun Q k => by walk_at "go"; rw [hbl]; exact k) (by have := ok.w1; omega) (by omega) (fun i σ' H' => ∃ (x6 x8 : Option V), σ' = [some (.ref ta), some (.ref la), some (.int I.cycle), some (.ref ba), some (.ref ga), some (.ref d), x6, some (.int (t : Nat)), x8] ∧ Same H H' ∧ H' d = some (.dT kvs)) ⟨_, _, rfl, e3, h3⟩ ?_ ?_
      · rintro wk σ' H4 hw ⟨x6, x8, rfl, e4, h4⟩
        have hw' : wk < I.beats.length := by omega
        obtain ⟨as1, q1, a1, _, a2, a3⟩ := TableA.row (hT.mono e4.ts) (t := t) (by omega)
        walk_at "go"
        refine rd_get (v := .int (F t wk)) rfl (.inl h4) (fun H1 QA kk => by walk_at "go"; exact kk) (hg _ _) fun H5 e5 => ?_
        refine rd_ne rfl ?_
        have heq : N t wk = F t wk := needs_eq ok hlo hL hM
        rw [decide_eq_true (by rw [heq])]
        walk_at "go"
        exact ⟨_, _, rfl, e4.trans e5, e5 _ _ h4⟩
      · rintro σ' H4 ⟨x6, x8, rfl, e4, h4⟩
        exact ⟨_, _, _, rfl, e4, h4⟩
    · rintro σ' H3 ⟨x6, x7, x8, rfl, e3, h3⟩
      walk_at "go"
      exact hQ H3 e3
theorem ok__law_table_right (T : Txt K mg) : Cal P w K mg base CX0 "_law_table_right" 2 ["_law_table", "_law_legs_here", "_law_cycle", "_law_beats_here", "_law_given_here"] sp__law_table_right := by
  have C__law_needs := ok__law_needs (P := P) (w := w) (base := base) T
  refine Cal.of (i := 39) T (List.mem_of_getElem? (i := 31) rfl) (in_fa 30 rfl) sc__law_table_right (fun vs H Q E h => ?_) (fun _ _ _ _ _ _ us hl => match us, hl with | [_, _, _, _, _], _ => rfl) (fun cdv A outer s H vs Q E hr h => ⟨t__law_table_right K, PSs.nox ?_, pure__law_table_right vs H Q E h⟩)
  · obtain ⟨I, many, N, gv, ls, as, ta, la, ba, ga, rfl, _⟩ := h
    rfl
  · exact (pss_cons (ps_set (i := 5) sc__law_table_right.nd rfl (by first | exact Or.inl rfl | exact Or.inr rfl) (pe_cal C__law_needs (hr.mono (by decide)) pass0 (pa_cons (pv 1) (pa_cons (pv 2) (pa_cons (pv 3) (pa_cons (pv 0) pa_nil))))))
  (pss_cons (ps_for PassesOwn.never rfl (pi_tup (pv 4)) (pg_tup rfl (pgs_cons (pg_name (i := 6) sc__law_table_right.nd rfl (by first | exact Or.inl rfl | exact Or.inr rfl)) (pgs_cons (pg_name (i := 7) sc__law_table_right.nd rfl (by first | exact Or.inl rfl | exact Or.inr rfl)) (pgs_cons (pg_name (i := 8) sc__law_table_right.nd rfl (by first | exact Or.inl rfl | exact Or.inr rfl)) pgs_nil)))) (pss_one (ps_dput (hu_of hr) (pv 5) (pe_tup (pa_cons (pv 7) (pa_cons (pv 6) pa_nil))) (pe_callB (call_max2 rfl) (by rfl) T.max (by decide +kernel) (pa_cons (pv 8) (pa_cons (pe_dget2 (hu_of hr) (pv 5) (pe_tup (pa_cons (pv 7) (pa_cons (pv 6) pa_nil))) pe_int ⟨rfl, rfl, rfl, rfl⟩) pa_nil))) rfl)))
  (pss_cons (ps_for PassesOwn.never rfl (pi_range1 rfl T.range (pa_cons (pe_callB call_len_seq (by rfl) T.len PySem.boot_len (pa_cons (pv 0) pa_nil)) pa_nil)) (pg_name (i := 7) sc__law_table_right.nd rfl (by first | exact Or.inl rfl | exact Or.inr rfl)) (pss_one (ps_for PassesOwn.never rfl (pi_range1 rfl T.range (pa_cons (pe_callB call_len_seq (by rfl) T.len PySem.boot_len (pa_cons (pv 3) pa_nil)) pa_nil)) (pg_name (i := 6) sc__law_table_right.nd rfl (by first | exact Or.inl rfl | exact Or.inr rfl)) (pss_one (ps_if (pt_cmpR op_ne (pe_ix ix_tup (pe_ix ix_tup (pv 0) (pv 7) (fun _ _ => rfl)) (pv 6) (fun _ _ => rfl)) (pe_dget2 (hu_of hr) (pv 5) (pe_tup (pa_cons (pv 7) (pa_cons (pv 6) pa_nil))) pe_int ⟨rfl, rfl, rfl, rfl⟩) (nomark _)) (pss_one (ps_ret pe_bl)) pss_nil)))))
  (pss_one (ps_ret pe_bl)))))
end
end Bp

namespace Bp
open PySem PyProof.Rows L2 PySem.Spec
local macro_rules | `(tactic| walk_at "side") => `(tactic| first | assumption | omega | decide)
local macro_rules | `(tactic| walk_at "carry") => `(tactic| first | assumption | (refine Same.get (by assumption) ?_; walk_at "carry"))
local macro_rules | `(tactic| walk_at "tst") => `(tactic| first | exact Same.ts (by assumption) | exact SameX.ts1 (by assumption) (by assumption) (by intro _ z; cases z))
local macro_rules | `(tactic| walk_at "dat") => `(tactic| first | assumption | (with_reducible refine PlanA.mono (by walk_at "tst") ?_; walk_at "dat") | (with_reducible refine BeatsA.mono (by walk_at "tst") ?_; walk_at "dat") | (with_reducible refine WaitA.mono (by walk_at "tst") ?_; walk_at "dat") | (with_reducible refine GivenA.mono (by walk_at "tst") ?_; walk_at "dat") | (with_reducible refine TableA.mono (by walk_at "tst") ?_; walk_at "dat"))
local macro_rules | `(tactic| walk_at "at") => `(tactic| first | exact rfl | assumption | exact at_beat (by assumption) | exact at_tab (by assumption) | exact at_map (by assumption))
local macro_rules | `(tactic| walk_at "go1") => `(tactic| first
  | with_reducible refine rd_seq ?_
  | with_reducible refine rd_asg ?_
  | with_reducible refine rd_ret ?_
  | with_reducible refine rd_drop ?_
  | ((with_reducible refine' rd_var ?x1 ?x2); (case x1 => exact rfl))
  | with_reducible refine rd_c ?_
  | with_reducible refine rd_op ?_
  | with_reducible refine rd_un ?_
  | with_reducible refine rd_name ?_
  | with_reducible refine rd_I0 ?_
  | with_reducible refine rd_gcons ?_
  | with_reducible refine rd_gnil ?_
  | with_reducible refine rd_test ?_
  | with_reducible refine rd_B ?_
  | with_reducible refine rd_bl ?_
  | with_reducible refine rd_anil ?_
  | with_reducible refine rd_acons ?_
  | with_reducible refine rd_tup ?_
  | with_reducible refine rd_lst ?_
  | with_reducible refine rd_sdput ?_
  | with_reducible refine rd_call1 ?_
  | with_reducible refine rd_cb ?_
  | with_reducible refine rd_ifS ?_
  | with_reducible refine rd_next ?_
  | ((with_reducible refine' rd_I ?x1 ?x2); (case x1 => walk_at "side"))
  | ((with_reducible refine' rd_ixT ?x1 ?x2 ?x3); (case x1 => walk_at "carry"); (case x2 => walk_at "at"))
  | ((with_reducible refine' rd_lenT ?x1 ?x2); (case x1 => walk_at "carry"))
  | ((with_reducible refine' rd_lenL ?x1 ?x2); (case x1 => walk_at "carry"))
  | with_reducible refine rd_max2 ?_
  | with_reducible refine rd_isiI ?_
  | with_reducible refine rd_isiB ?_
  | ((with_reducible refine' rd_isiT ?x1 ?x2); (case x1 => walk_at "carry"))
  | with_reducible refine ite_yes ?_
  | with_reducible refine ite_no ?_
  | with_reducible refine ite_nf ?_
  | with_reducible refine ite_nt ?_
  | with_reducible refine rd_andV ?_
  | with_reducible refine rd_orV ?_
  | with_reducible refine rd_notV ?_
  | with_reducible refine rd_and ?_
  | with_reducible refine rd_or ?_
  | with_reducible refine rd_not ?_
  | with_reducible refine rd_eq rfl ?_
  | with_reducible refine rd_ne rfl ?_
  | ((with_reducible refine' rd_gtup ?x1 ?x2 ?x3); (case x1 => walk_at "carry"); (case x2 => exact rfl)))
local macro_rules | `(tactic| walk_at "go") => `(tactic| repeat walk_at "go1")
/-! ### a list of lists that is written to -/
theorem tabRow_len {works : Nat} {N : Tab} {t : Nat} : (tabRow works N t).length = works := by simp [tabRow]
theorem tabRow_set {works : Nat} {N : Tab} {t w : Nat} {v : Int} (hw : w < works) : (tabRow works N t).set w (.int v) = tabRow works (setT N t w v) t := by
  apply List.ext_getElem?
  intro i
  rw [List.getElem?_set]
  unfold tabRow
  by_cases e : w = i
  · subst e
    simp [hw, setT_same]
  · rw [if_neg e, List.getElem?_map, List.getElem?_map]
    by_cases hi : i < works
    · have : setT N t w v t i = N t i := setT_other (fun z => e z.2.symm)
      simp [hi, this]
    · simp [hi]
theorem tabRow_other {works : Nat} {N : Tab} {t t' w : Nat} {v : Int} (h : t' ≠ t) : tabRow works (setT N t w v) t' = tabRow works N t' := by
  unfold tabRow
  refine List.map_congr_left (fun i _ => ?_)
  rw [setT_other (fun z => h z.1)]
structure LtS (H0 H : Hp) (many works : Nat) (N : Tab) (l : Addr) (as : List Addr) : Prop where
  hl : H l = some (.lst (as.map V.ref))
  ln : as.length = many
  nd : as.Nodup
  nl : l ∉ as
  rw_ : ∀ (t : Nat) (q : Addr), as[t]? = some q → H q = some (.lst (tabRow works N t))
  fl : H0 l = none
  fa : ∀ q ∈ as, H0 q = none
section
variable {H0 H H' : Hp} {many works : Nat} {N : Tab} {l : Addr} {as : List Addr}
theorem LtS.same (e : Same H H') (h : LtS H0 H many works N l as) : LtS H0 H' many works N l as := ⟨e _ _ h.hl, h.ln, h.nd, h.nl, fun t q hq => e _ _ (h.rw_ t q hq), h.fl, h.fa⟩
theorem LtS.any (h : LtS H0 H many works N l as) : TabAny H many works N l := .inr ⟨as, h.hl, h.ln, h.rw_⟩
theorem LtS.row (h : LtS H0 H many works N l as) {t : Nat} (ht : t < many) : ∃ q, as[t]? = some q ∧ atI (as.map V.ref) (t : Int) = some (V.ref q) ∧ H q = some (.lst (tabRow works N t)) := by
  have hl : t < as.length := by rw [h.ln]; exact ht
  have he : as[t]? = some as[t] := List.getElem?_eq_getElem hl
  exact ⟨as[t], he, at_map he, h.rw_ t _ he⟩
theorem LtS.set (h : LtS H0 H many works N l as) {t w : Nat} {q : Addr} (hq : as[t]? = some q) (hw : w < works) (v : Int) : LtS H0 (upd H q (.lst ((tabRow works N t).set w (.int v)))) many works (setT N t w v) l as := by
  have hm := List.mem_of_getElem? hq
  have nql : l ≠ q := fun z => h.nl (by rw [z]; exact hm)
  refine ⟨by rw [upd_ne nql]; exact h.hl, h.ln, h.nd, h.nl, fun t' q' hq' => ?_, h.fl, h.fa⟩
  by_cases e : t' = t
  · subst e
    rw [hq] at hq'
    rw [← Option.some.inj hq', upd_same, tabRow_set hw]
  · have nq : q' ≠ q := fun z => by
      rw [z] at hq'
      obtain ⟨a1, a2⟩ := List.getElem?_eq_some_iff.mp hq
      obtain ⟨b1, b2⟩ := List.getElem?_eq_some_iff.mp hq'
      exact e ((List.getElem_inj h.nd).mp (b2.trans a2.symm))
    rw [upd_ne nq, tabRow_other e]
    exact h.rw_ t' q' hq'
theorem LtS.upd (h : LtS H0 H many works N l as) {d : Addr} {o : HO} (h1 : d ≠ l) (h2 : d ∉ as) : LtS H0 (upd H d o) many works N l as :=
  ⟨by rw [upd_ne (Ne.symm h1)]; exact h.hl, h.ln, h.nd, h.nl, fun t q hq => by rw [upd_ne (fun z => h2 (by rw [← z]; exact List.mem_of_getElem? hq))]; exact h.rw_ t q hq, h.fl, h.fa⟩
end
section
variable {P : Program} {w : World} {K : PySem.W.Frag} {mg : Str → Option Value} {base : Heap} {σ : L2.St} {H : Hp} {D : Ends} {v : V} {i j : Nat} {a d l : Addr} {Q : VK} {te tv : TE} {m n : Int} {xs : List V} {tr : TA}
theorem pe_calS {X : Cx} {CX : CXT} {k : Nat} {ps : List Str} {sp : Sp} {E : L2.St → XK} {x : Str} {p pos : Pos} {e : Expr} {es : List Expr} {t : TA} (C : Cal X.prog X.w X.K X.mg X.base CX x k ps sp) (hr : Room k X.A) (hx : ∀ σ, PassesAt CX X σ (E σ)) (ha : PA X (e :: es) t) (hg : Gl X x := by rfl)
    (hdb : (x == ("__debug__" : Str)) = false := by decide) (he : (starEach (e :: es) X.env) = (false, eval e X.env) :: starEach es X.env := by rfl) (hpl : (backTo pos (starEach es X.env)).any (·.1) = false := by rfl) :
    PE X (Expr.Call (.Name x p) (e :: es) [] pos) (tCallS sp E t) := by
  obtain ⟨fd, F, b⟩ := C.ex
  exact pe_callS F hr hg C.gl C.kp b hx ha hdb he hpl
theorem rd_callS {sp : Sp} {E : L2.St → XK} {tr : TA} (h : tr σ H fun vs H1 => sp vs H1 Q (E σ)) : tCallS sp E tr σ H Q := h
theorem ixN_nn {n k : Nat} (h : k < n) : ixN n (k : Int) = some k := by
  unfold ixN
  rw [if_pos (by omega), if_pos (by omega), Int.toNat_natCast]
theorem rd_lcG {vs : List Nat} (Pv : Addr → Nat → Hp → Prop) (h : ∀ Q : VK, Q (.int n) H → te σ H Q) (hn : n ≤ 100000) (hn0 : -1000000000 ≤ n) (h0 : ∀ Dl, H Dl = none → Pv Dl 0 (upd H Dl (.lst [])))
    (hs : ∀ Dl (i : Nat) H', H Dl = none → (i : Int) < n → Pv Dl i H' → gName j (.int (i : Nat)) (wipe σ vs) H' fun σ2 H2 => wipe σ2 vs = wipe σ vs ∧ tYes σ2 H2 fun b H3 => if b = true then tv σ2 H3 fun y H4 => ∃ acc, H4 Dl = some (.lst acc) ∧ acc.length < sizeLine ∧ Pv Dl (i + 1) (upd H4 Dl (.lst (acc ++ [y]))) else Pv Dl (i + 1) H3)
    (hd : ∀ Dl H', H Dl = none → Pv Dl n.toNat H' → Q (.ref Dl) H') : tLc (iRng1 (tCons te tNil)) (gName j) tYes tv vs σ H Q := by
  refine h _ ⟨n, rfl, by omega, by omega, fun Dl hD => ?_⟩
  refine lc_range (lo := 0) (n := n.toNat) (Pv Dl) (h0 Dl hD) (fun i H' hi p => ?_) fun H' p => hd Dl H' hD p
  have e0 : (0 : Int) + (i : Int) = (i : Int) := (Int.zero_add _)
  rw [e0]
  exact hs Dl i H' hD (by omega) p
/-! ### _law_is_let_by -/
def sp__law_is_let_by : Sp := fun vs H Q _ => ∃ (I : Inst) (many : Nat) (gv : List Gv) (T : Tab) (cs : List (Nat × List Nat)) (pa ba wa ga tha ta ca : Addr), vs = [.ref pa, .int I.cycle, .ref ba, .ref wa, .ref ga, .int (many : Nat), .ref tha] ∧ I.Ok ∧ many ≤ 12 ∧ GvOk I many gv ∧ gv.length ≤ 12 ∧
  PlanA H I pa ∧ BeatsA H I ba ∧ WaitA H I wa ∧ GivenA H gv ga ∧ H tha = some (.tup [.ref ta, .ref ca]) ∧ TableA H many I.beats.length T ta ∧ ChainsA H cs ca ∧
  (OkPaper I gv many T cs → ∀ H', Same H H' → Q (.bl true) H') ∧ (¬ OkPaper I gv many T cs → ∀ H', Same H H' → Q (.bl false) H')
abbrev N__law_is_let_by : List Str := ["_law_plan_here", "_law_cycle", "_law_beats_here", "_law_waiting", "_law_given_here", "_law_many", "_law_thing", "_law_found"]
theorem sc__law_is_let_by : FnScope N__law_is_let_by ["_law_plan_here", "_law_cycle", "_law_beats_here", "_law_waiting", "_law_given_here", "_law_many", "_law_thing"] (defScope (top 40)) := ⟨rfl, rfl, rfl, by decide +kernel, rfl, by decide +kernel, by decide +kernel⟩
def tTryLet (K : PySem.W.Frag) : WX → TS := fun W => tAsg (tCallS (sp_lets_late K) (WE W) (tCons (tVar 0) (tCons (tVar 1) (tCons (tVar 2) (tCons (tVar 3) (tCons (tVar 4) (tCons (tVar 5) (tCons (tVar 6) tNil)))))))) (gName 7)
def tNotLet : Addr → Value → Option Addr → TS := fun _ _ _ => tAsg (tC (.bl false)) (gName 7)
def t__law_is_let_by (K : PySem.W.Frag) : TS :=
  (tSeq (tAsg (tC (.bl false)) (gName 7))
  (tSeq (fun D σ H => tTryLet K (wOnly K (.ref (aNP K)) tNotLet (fun _ _ _ _ => False) D) D σ H)
  (tRet (tVar 7))))
theorem pure__law_is_let_by (T : Txt K mg) (vs : List V) (H : Hp) (Q : VK) (E : XK) (h : sp__law_is_let_by vs H Q E) : t__law_is_let_by K { nx := fun _ H' => Q .non H', rt := Q } (start N__law_is_let_by vs) H := by
  obtain ⟨I, many, gv, Tb, cs, pa, ba, wa, ga, tha, ta, ca, rfl, ok, hm, hgv, hgl, hP, hB, hW, hG, hth, hT, hC, hY, hNo⟩ := h
  unfold t__law_is_let_by
  walk_at "go"
  unfold tTryLet
  walk_at "go"
  refine rd_callS ?_
  walk_at "go"
  refine ⟨I, many, gv, Tb, cs, pa, ba, wa, ga, tha, ta, ca, rfl, ok, hm, hgv, hgl, hP, hB, hW, hG, hth, hT, hC, fun z H1 e1 => ?_, fun z d H1 e1 => ?_⟩
  · walk_at "go"
    exact hY z H1 e1
  · refine ⟨true, T.np.te, fun _ a ha => ?_, fun q => (nomatch q)⟩
    unfold tNotLet
    walk_at "go"
    exact hNo z H1 e1
theorem ok__law_is_let_by (T : Txt K mg) : Cal P w K mg base CX0 "_law_is_let_by" 6 ["_law_plan_here", "_law_cycle", "_law_beats_here", "_law_waiting", "_law_given_here", "_law_many", "_law_thing"] sp__law_is_let_by := by
  have C_lets_late := ok_lets_late (P := P) (w := w) (base := base) T
  refine Cal.of (i := 40) T (List.mem_of_getElem? (i := 32) rfl) (in_fa 31 rfl) sc__law_is_let_by (fun vs H Q E h => ?_) (fun _ _ _ _ _ _ us hl => match us, hl with | [_, _, _, _, _, _, _], _ => rfl) (fun cdv A outer s H vs Q E hr h => ⟨t__law_is_let_by K, ?_, pure__law_is_let_by T vs H Q E h⟩)
  · obtain ⟨I, many, gv, Tb, cs, pa, ba, wa, ga, tha, ta, ca, rfl, _⟩ := h
    rfl
  · exact (pss_cons (ps_set (i := 7) sc__law_is_let_by.nd rfl (by first | exact Or.inl rfl | exact Or.inr rfl) pe_bl)
      (pss_cons (ps_try_only (tb := tTryLet K) (ts := tNotLet) (Wout := fun _ _ _ _ => False) rfl rfl ⟨rfl, by decide, .inl T.np.gl⟩ takes_none5
        (fun W pn xe tk _ => pss_one (ps_set (i := 7) sc__law_is_let_by.nd rfl (by first | exact Or.inl rfl | exact Or.inr rfl) (pe_calS C_lets_late (hr.mono (by decide)) (fun σ => passAt tk σ) (by exact (pa_cons (pv 0) (pa_cons (pv 1) (pa_cons (pv 2) (pa_cons (pv 3) (pa_cons (pv 4) (pa_cons (pv 5) (pa_cons (pv 6) pa_nil)))))))))))
        (fun _ _ _ _ _ _ _ => pss_one (ps_set (i := 7) sc__law_is_let_by.nd rfl (by first | exact Or.inl rfl | exact Or.inr rfl) pe_bl)))
      (pss_one (ps_ret (pv 7)))))
/-! ### _law_least -/
theorem rd_sub {to ti : TE} {ts : TSet} {QS : L2.St → Hp → Prop} (h : to σ H fun o H1 => ti σ H1 fun i H2 => ts o i v H2 fun H3 => QS σ H3) : gSub to ti ts v σ H QS := h
theorem rd_setL {k : Nat} {G : Hp → Prop} (hx : H a = some (.lst xs)) (hk : k < xs.length) (q : G (upd H a (.lst (xs.set k v)))) : rSetL (.ref a) (.int (k : Nat)) v H G := ⟨a, xs, _, k, rfl, rfl, hx, ixN_nn hk, q⟩
theorem zeros (n : Nat) : (List.replicate n [V.int 0]).flatten = (List.range n).map fun _ => V.int 0 := by
  induction n with
  | zero => rfl
  | succ n ih =>
    rw [List.range_succ, List.map_append, ← ih, List.replicate_succ', List.flatten_append]
    rfl
theorem val_in {kvs : List (List Key × V)} {F : Tab} (hg : GetsN kvs F) {t w : Nat} (h : ky (t : Nat) (w : Nat) ∈ kvs.map (·.1)) : valV kvs (ky (t : Nat) (w : Nat)) = some (.int (F t w)) := by
  have z := hg t w
  have hs : (valV kvs (ky (t : Nat) (w : Nat))).isSome = true := by
    rw [← valV_any, List.any_eq_true]
    obtain ⟨p, hp, e⟩ := List.mem_map.1 h
    exact (⟨p, hp, decide_eq_true e⟩)
  cases q : valV kvs (ky (t : Nat) (w : Nat)) with
  | none => rw [q] at hs; cases hs
  | some u => rw [q] at z; rw [show u = .int (F t w) from z]
theorem val_out {kvs : List (List Key × V)} {F : Tab} (hg : GetsN kvs F) {t w : Nat} (h : ky (t : Nat) (w : Nat) ∉ kvs.map (·.1)) : F t w = 0 := by
  have z := hg t w
  have hs : (valV kvs (ky (t : Nat) (w : Nat))).isSome = false := by
    rw [← valV_any, List.any_eq_false]
    intro p hp e
    exact h (List.mem_map.2 ⟨p, hp, of_decide_eq_true e⟩)
  cases q : valV kvs (ky (t : Nat) (w : Nat)) with
  | none => rw [q] at z; injection z with z; exact z.symm
  | some u => rw [q] at hs; cases hs
/-- between two steps of the rounds -/
structure Gro (I : Inst) (gv : List Gv) (many : Nat) (N0 N : Tab) (fr : Bool) : Prop where
  nn : ∀ t w, 0 ≤ N t w
  gi : ∀ g ∈ gv, g.2.2 ≤ N g.2.1 g.1
  le : ∀ N', Feas I gv many N' → ∀ t w, N t w ≤ N' t w
  up : ∀ t w, N0 t w ≤ N t w
  yes : fr = true → meas (grid many I.beats.length) N < meas (grid many I.beats.length) N0
  no : fr = false → N = N0
local macro_rules | `(tactic| walk_at "go1") => `(tactic| first | with_reducible refine rd_sub ?_ | ((with_reducible refine' rd_ixL ?x1 ?x2 ?x3); (case x1 => walk_at "carry"); (case x2 => walk_at "at")))
def sp__law_least : Sp := fun vs H Q _ => ∃ (I : Inst) (many : Nat) (gv : List Gv) (ls : List Leg) (as : List Addr) (la ba ga : Addr), vs = [.ref la, .int I.cycle, .ref ba, .ref ga, .int (many : Nat)] ∧ I.Ok ∧ many ≤ 12 ∧ GvOk I many gv ∧ BeatsA H I ba ∧ H la = some (.lst (as.map V.ref)) ∧ Rows H as (ls.map legR) ∧ LegsOk I many ls ∧ GivenA H gv ga ∧
  ∀ r H' N, Same H H' → TableA H' many I.beats.length N r → Least I gv many N → Q (.ref r) H'
abbrev N__law_least : List Str := ["_law_legs_here", "_law_cycle", "_law_beats_here", "_law_given_here", "_law_many", "_law_table", "_law_turn", "_law_work", "_law_late", "_law_fresh", "_law_needs_here", "_law_row"]
theorem sc__law_least : FnScope N__law_least ["_law_legs_here", "_law_cycle", "_law_beats_here", "_law_given_here", "_law_many"] (defScope (top 41)) := ⟨rfl, rfl, rfl, by decide +kernel, rfl, by decide +kernel, by decide +kernel⟩
def t__law_least (K : PySem.W.Frag) : TS :=
  (tSeq (tAsg (tLc (iRng1 (tCons (tVar 4) tNil)) (gName 6) tYes (tOp rRep (tLst (tCons (tC (.int 0)) tNil)) (tCB (rLenS K) (tCons (tVar 2) tNil))) [6]) (gName 5))
  (tSeq (tFor (iTup K (tVar 3)) (gTup K 3 (gCons (gName 7) (gCons (gName 6) (gCons (gName 8) gNil)))) (tAsg (tCB rMax2 (tCons (tVar 8) (tCons (tOp (rIxL K) (tOp (rIxL K) (tVar 5) (tVar 6)) (tVar 7)) tNil))) (gSub (tOp (rIxL K) (tVar 5) (tVar 6)) (tVar 7) rSetL)))
  (tSeq (tAsg (tC (.bl true)) (gName 9))
  (tSeq (tWhile (tB (tVar 9)) (tSeq (tAsg (tC (.bl false)) (gName 9))
  (tSeq (tAsg (tCall sp__law_needs [] E0 (tCons (tVar 0) (tCons (tVar 1) (tCons (tVar 2) (tCons (tVar 5) tNil))))) (gName 10))
  (tLock (tFor (iKeys (tVar 10)) (gTup K 2 (gCons (gName 6) (gCons (gName 7) gNil))) (tIfS (tTest (tOp rGtI (tDGet (tVar 10) (tTup (tCons (tVar 6) (tCons (tVar 7) tNil)))) (tOp (rIxL K) (tOp (rIxL K) (tVar 5) (tVar 6)) (tVar 7)))) (tSeq (tAsg (tDGet (tVar 10) (tTup (tCons (tVar 6) (tCons (tVar 7) tNil)))) (gSub (tOp (rIxL K) (tVar 5) (tVar 6)) (tVar 7) rSetL))
  (tAsg (tC (.bl true)) (gName 9))) tNext))))))
  (tRet (tCB (rTupOf K) (tCons (tLc (iList K (tVar 5)) (gName 11) tYes (tCB (rTupOf K) (tCons (tVar 11) tNil)) [11]) tNil)))))))
theorem pure__law_least (vs : List V) (H : Hp) (Q : VK) (E : XK) (h : sp__law_least vs H Q E) : t__law_least K { nx := fun _ H' => Q .non H', rt := Q } (start N__law_least vs) H := by
  obtain ⟨I, many, gv, ls, las, la, ba, ga, rfl, ok, hm, hgv, hB, hla, hlr, hlo, ⟨gas, hga, hgr⟩, hQ⟩ := h
  have hw8 := ok.w1
  have hmw : many * I.beats.length ≤ 12 * 8 := Nat.mul_le_mul hm ok.w1
  have hgal : gas.length = gv.length := by rw [hgr.len, List.length_map]
  have hbl : (I.beats.map V.int).length = I.beats.length := List.length_map ..
  unfold t__law_least
  walk_at "go"
  -- the table of zeros
  refine rd_lcG (n := (many : Nat)) (fun Dl i H' => Same H H' ∧ ∃ as : List Addr, H' Dl = some (.lst (as.map V.ref)) ∧ as.length = i ∧ as.Nodup ∧ Dl ∉ as ∧ (∀ q ∈ as, H q = none ∧ H' q = some (.lst (tabRow I.beats.length (fun _ _ => 0) 0)))) (fun Q k => by walk_at "go"; exact k) (by omega) (by omega)
    (fun Dl hD => ⟨Same.new hD, [], upd_same, rfl, List.nodup_nil, by simp, fun q hq => by cases hq⟩) (fun Dl i H1 hD hi ⟨e1, as, h1, hal, hnd, hnl, hrw⟩ => ?_) fun Dl H1 hD ⟨e1, as, h1, hal, hnd, hnl, hrw⟩ => ?_
  · have hB1 : H1 ba = some (.tup (I.beats.map V.int)) := e1 _ _ hB
    refine ⟨rfl, rd_yes (ite_yes ?_)⟩
    walk_at "go"
    refine newL (fun u H2 hu e2 h2 => ?_) rfl
    walk_at "go"
    refine ⟨u, _, _, rfl, rfl, h2, by omega, by omega, by rw [hbl]; exact sz _ (by show 1 * _ ≤ _; omega), fun q hq => ?_⟩
    rw [hbl, Int.toNat_natCast, zeros]
    have e3 : Same H2 (upd H2 q (.lst ((List.range I.beats.length).map fun _ => V.int 0))) := Same.new hq
    have h3 : (upd H2 q (.lst ((List.range I.beats.length).map fun _ => V.int 0))) q = some (.lst ((List.range I.beats.length).map fun _ => V.int 0)) := upd_same
    generalize upd H2 q (.lst ((List.range I.beats.length).map fun _ => V.int 0)) = H3 at *
    have e13 := e2.trans e3
    have hD3 := e13 _ _ h1
    have hq1 : H1 q = none := e2.free hq
    have nq : q ∉ as := fun z => by
      have := (hrw q z).2
      rw [hq1] at this
      cases this
    have nDq : Dl ≠ q := fun z => by rw [z] at h1; rw [hq1] at h1; cases h1
    have nas : ∀ p ∈ as, p ≠ Dl := fun p hp z => hnl (by rw [← z]; exact hp)
    refine ⟨_, hD3, szl _ (by rw [List.length_map]; omega), SameX.out (e1.trans e13) (SameX.upd (l := Dl)) (fun z hz => by rw [List.mem_singleton.mp hz]; exact hD), as ++ [q], by rw [upd_same, List.map_append]; rfl, by rw [List.length_append, hal]; rfl, ?_, ?_, fun p hp => ?_⟩
    · rw [List.nodup_append]
      exact ⟨hnd, by simp, fun a ha b hb => by rw [List.mem_singleton.mp hb]; rintro rfl; exact nq ha⟩
    · rw [List.mem_append, List.mem_singleton]
      rintro (z | z)
      · exact hnl z
      · exact nDq z
    · rcases List.mem_append.1 hp with hp | hp
      · rw [upd_ne (nas p hp)]
        exact ⟨(hrw p hp).1, e13 _ _ (hrw p hp).2⟩
      · rw [List.mem_singleton.mp hp, upd_ne (Ne.symm nDq)]
        exact ⟨e1.free hq1, h3⟩
  have hal' : as.length = many := by rw [hal]; exact Int.toNat_natCast _
  have S1 : LtS H H1 many I.beats.length (fun _ _ => 0) Dl as := ⟨h1, hal', hnd, hnl, fun t q hq => (hrw q (List.mem_of_getElem? hq)).2, hD, fun q hq => (hrw q hq).1⟩
  walk_at "go"
  -- what is given
  refine rd_forTv (a := ga) rfl (e1 _ _ hga) (fun i σ' H' => ∃ (N : Tab) (x6 x7 x8 x9 x10 x11 : Option V), σ' = [some (.ref la), some (.int I.cycle), some (.ref ba), some (.ref ga), some (.int (many : Nat)), some (.ref Dl), x6, x7, x8, x9, x10, x11] ∧ Same H H' ∧ LtS H H' many I.beats.length N Dl as ∧ MaxOf ((gv.take i).map gvItem) N)
    ⟨_, _, _, _, _, _, _, rfl, e1, S1, MaxOf.nil⟩ (fun i σ' H' ⟨_, _, _, _, _, _, _, _, e, _⟩ => e _ _ hga) ?_ ?_
  · rintro i x σ' H2 hx ⟨N, x6, x7, x8, x9, x10, x11, rfl, e2, S2, hM⟩
    obtain ⟨gp, hgp, rfl⟩ := get_map hx
    have hi : i < gv.length := by rw [← hgal]; exact (List.getElem?_eq_some_iff.mp hgp).1
    have hge : gv[i]? = some gv[i] := List.getElem?_eq_getElem hi
    generalize gv[i] = g at hge
    have hgm : g ∈ gv := List.mem_of_getElem? hge
    have hrow : H gp = some (.tup (gvRow g)) := hgr.at_ i gp _ hgp (by rw [List.getElem?_map, hge]; rfl)
    have hrow2 := e2 _ _ hrow
    have htm := hgv.t g hgm
    have hwm := hgv.w g hgm
    obtain ⟨q, q1, q2, q3⟩ := S2.row htm
    have hl2 := S2.hl
    walk_at "go"
    refine rd_setL q3 (by rw [tabRow_len]; exact hwm) ?_
    refine ⟨_, _, _, _, _, _, _, rfl, SameX.out e2 (SameX.upd (l := q)) (fun z hz => by rw [List.mem_singleton.mp hz]; exact S2.fa q (List.mem_of_getElem? q1)), S2.set q1 hwm _, ?_⟩
    rw [take_snoc hge, List.map_append]
    exact hM.snoc _ _ _
  rintro σ' H2 ⟨N1, x6, x7, x8, x9, x10, x11, rfl, e2, S2, hM⟩
  rw [List.length_map, hgal, List.take_length] at hM
  walk_at "go"
  -- the rounds
  refine rd_whileV (fun m fr σ' H' => ∃ (N : Tab) (x6 x7 x8 x10 x11 : Option V), σ' = [some (.ref la), some (.int I.cycle), some (.ref ba), some (.ref ga), some (.int (many : Nat)), some (.ref Dl), x6, x7, x8, some (.bl fr), x10, x11] ∧ Same H H' ∧ LtS H H' many I.beats.length N Dl as ∧ Gro I gv many N N false ∧
      (fr = true → m = meas (grid many I.beats.length) N + 1) ∧ (fr = false → m = 0 ∧ Least I gv many N))
    (m0 := meas (grid many I.beats.length) N1 + 1) ⟨N1, _, _, _, _, _, rfl, e2, S2, ⟨hM.nn, fun g hg => hM.ge (gvItem g) (List.mem_map.mpr ⟨g, hg, rfl⟩), fun N' f t w => ?_, fun _ _ => Int.le_refl _, fun z => (by cases z), fun _ => rfl⟩, fun _ => rfl, fun z => (by cases z)⟩ ?_ ?_ ?_
  · rcases hM.le t w with z | ⟨x, hx, z1, z2, z3⟩
    · rw [z]; exact f.nn t w
    · obtain ⟨g, hg, rfl⟩ := List.mem_map.mp hx
      have := f.gi g hg
      rw [z3, ← z1, ← z2]
      exact this
  · rintro m fr σ' H' ⟨N, x6, x7, x8, x10, x11, rfl, _⟩
    rfl
  · rintro m σ' H3 ⟨N0, x6, x7, x8, x10, x11, rfl, e3, S3, G3, hm1, _⟩
    have hm2 := hm1 rfl
    walk_at "go"
    refine ⟨I, many, N0, ls, las, la, ba, Dl, rfl, ok, hm, e3 _ _ hB, e3 _ _ hla, hlr.mono e3.ts, hlo, S3.any, fun d H4 kvs F e4 hd h4 hk hg hF => ?_⟩
    walk_at "go"
    have hd0 : H d = none := e3.free hd
    have S4 := S3.same e4
    have ndl : d ≠ Dl := fun z => by rw [z, S3.hl] at hd; cases hd
    have nda : d ∉ as := fun z => by
      obtain ⟨k, hk⟩ := List.mem_iff_getElem?.mp z
      have := S3.rw_ k d hk
      rw [hd] at this
      cases this
    refine ⟨d, _, h4, trivial, fun od => ?_⟩
    have e5 : Same H (upd H4 d (.frz od (.dT kvs))) := SameX.out (e3.trans e4) (SameX.upd (l := d)) (fun z hz => by rw [List.mem_singleton.mp hz]; exact hd0)
    have h5 : (upd H4 d (.frz od (.dT kvs))) d = some (.frz od (.dT kvs)) := upd_same
    have S5 : LtS H (upd H4 d (.frz od (.dT kvs))) many I.beats.length N0 Dl as := S4.upd ndl nda
    generalize upd H4 d (.frz od (.dT kvs)) = H5 at *
    refine rd_forI ?_
    refine ⟨_, rfl, d, od, rfl, .inr ⟨kvs, h5, ?_⟩⟩
    refine for_it walk_keysT (fun i σ' H' => ∃ (N : Tab) (fr : Bool) (x6 x7 x8 x11 : Option V), σ' = [some (.ref la), some (.int I.cycle), some (.ref ba), some (.ref ga), some (.int (many : Nat)), some (.ref Dl), x6, x7, x8, some (.bl fr), some (.ref d), x11] ∧ Same H H' ∧ LtS H H' many I.beats.length N Dl as ∧ H' d = some (.frz od (.dT kvs)) ∧ Gro I gv many N0 N fr ∧
        (fr = false → ∀ t w, ky (t : Nat) (w : Nat) ∈ (kvs.take i).map (·.1) → F t w ≤ N0 t w))
      ⟨N0, false, _, _, _, _, rfl, e5, S5, h5, G3, fun _ t w z => by simp at z⟩ (fun i σ' H' _ ⟨_, _, _, _, _, _, _, _, _, z, _⟩ => z) ?_ ?_
    · rintro i x σ' H6 H7 hi ⟨N, fr, x6, x7, x8, x11, rfl, e6, S6, h6, G6, hdone⟩ ⟨rfl, k, v, kp, hkv, rfl, hkp⟩
      have hkm : k ∈ kvs.map (·.1) := List.mem_map.mpr ⟨(k, v), List.mem_of_getElem? hkv, rfl⟩
      obtain ⟨t, wk, ht, hw, rfl⟩ := hk.sub k hkm
      have hkp2 : H7 kp = some (.tup [.int (t : Nat), .int (wk : Nat)]) := hkp
      obtain ⟨q, q1, q2, q3⟩ := S6.row ht
      have hl6 := S6.hl
      have hv := val_in hg hkm
      walk_at "go"
      refine rd_dget (v := .int (F t wk)) rfl (.inr ⟨od, h6⟩) (fun H1 QA kk => by walk_at "go"; exact kk) hv fun H8 e8 => ?_
      have hl8 := e8 _ _ hl6
      have q38 := e8 _ _ q3
      walk_at "go"
      refine iteb (fun hb => ?_) (fun hb => ?_)
      · have hlt := of_decide_eq_true hb
        walk_at "go"
        refine rd_dget (v := .int (F t wk)) rfl (.inr ⟨od, e8 _ _ h6⟩) (fun H1 QA kk => by walk_at "go"; exact kk) hv fun H9 e9 => ?_
        have hl9 := e9 _ _ hl8
        have q39 := e9 _ _ q38
        walk_at "go"
        refine rd_setL q39 (by rw [tabRow_len]; exact hw) ?_
        walk_at "go"
        have S9 := S6.same (e8.trans e9)
        have hqa := List.mem_of_getElem? q1
        have ndq : d ≠ q := fun z => nda (by rw [z]; exact hqa)
        have mono : ∀ t' w', N t' w' ≤ setT N t wk (F t wk) t' w' := fun t' w' => by
          by_cases e : t' = t ∧ w' = wk
          · rw [e.1, e.2, setT_same]; omega
          · rw [setT_other e]; omega
        have hle : ∀ N', Feas I gv many N' → ∀ t' w', setT N t wk (F t wk) t' w' ≤ N' t' w' := fun N' f t' w' => by
          by_cases e : t' = t ∧ w' = wk
          · rw [e.1, e.2, setT_same]
            rcases hF.le t wk with z | ⟨x, hx, z1, z2, z3⟩
            · rw [z]; exact f.nn t wk
            · obtain ⟨lg, hlg, rfl⟩ := List.mem_map.mp hx
              obtain ⟨s, hs, t0, hts, rfl⟩ := (hlo lg).mp hlg
              have y1 := f.lg s hs t0 hts
              have y2 := G3.le N' f t0 (I.sp s).one
              have z3' : F t wk = dueOf I N0 (legAt I s t0) := z3
              have z1' : t0 + I.step s = t := z1
              have z2' : (I.sp s).other = wk := z2
              rw [z3', due_at ok (ok.wt s hs), ← z1', ← z2']
              omega
          · rw [setT_other e]; exact G6.le N' f t' w'
        have hmlt : meas (grid many I.beats.length) (setT N t wk (F t wk)) < meas (grid many I.beats.length) N0 := by
          refine Nat.lt_of_lt_of_le (meas_lt (q := (t, wk)) _ (fun p _ => mono p.1 p.2) (mem_grid.mpr ⟨ht, hw⟩) (by show N t wk < setT N t wk _ t wk; rw [setT_same]; exact hlt) (hle _ (feas_const ok hgv) _ _)) (meas_le _ fun p _ => G6.up p.1 p.2)
        refine ⟨_, true, _, _, _, _, rfl, SameX.out ((e6.trans e8).trans e9) (SameX.upd (l := q)) (fun z hz => by rw [List.mem_singleton.mp hz]; exact S6.fa q hqa), S9.set q1 hw _, by rw [upd_ne ndq]; exact e9 _ _ (e8 _ _ h6), ⟨fun t' w' => ?_, fun g' hg' => ?_, hle, fun t' w' => ?_, fun _ => hmlt, fun z => (by cases z)⟩, fun z => (by cases z)⟩
        · have := G6.nn t' w'
          have := mono t' w'
          omega
        · have := G6.gi g' hg'
          have := mono g'.2.1 g'.1
          omega
        · have := G6.up t' w'
          have := mono t' w'
          omega
      · have hge := of_decide_eq_false hb
        walk_at "go"
        refine ⟨N, fr, _, _, _, _, rfl, e6.trans e8, S6.same e8, e8 _ _ h6, G6, fun z t' w' hm' => ?_⟩
        rw [take_snoc hkv, List.map_append] at hm'
        rcases List.mem_append.mp hm' with hm' | hm'
        · exact hdone z t' w' hm'
        · have e := ky_cast (List.mem_singleton.mp hm')
          rw [e.1, e.2, ← G6.no z]
          omega
    · rintro σ' H6 ⟨N, fr, x6, x7, x8, x11, rfl, e6, S6, h6, G6, hdone⟩
      rw [List.take_length] at hdone
      refine ⟨h6, ?_⟩
      have e7 : Same H (upd H6 d (.dT kvs)) := SameX.out e6 (SameX.upd (l := d)) (fun z hz => by rw [List.mem_singleton.mp hz]; exact hd0)
      have S7 : LtS H (upd H6 d (.dT kvs)) many I.beats.length N Dl as := S6.upd ndl nda
      have G7 : Gro I gv many N N false := ⟨G6.nn, G6.gi, G6.le, fun _ _ => Int.le_refl _, fun z => (by cases z), fun _ => rfl⟩
      cases fr with
      | true => exact ⟨meas (grid many I.beats.length) N + 1, true, by have := G6.yes rfl; omega, N, _, _, _, _, _, rfl, e7, S7, G7, fun _ => rfl, fun z => (by cases z)⟩
      | false =>
        refine ⟨0, false, by omega, N, _, _, _, _, _, rfl, e7, S7, G7, fun z => (by cases z), fun _ => ⟨rfl, ⟨⟨G6.nn, G6.gi, fun s hs t ht => ?_⟩, G6.le⟩⟩⟩
        rw [G6.no rfl]
        have hx : legAt I s t ∈ ls := (hlo _).mpr ⟨s, hs, t, ht, rfl⟩
        have z := hF.ge (lgItem I N0 (legAt I s t)) (List.mem_map.mpr ⟨_, hx, rfl⟩)
        have z2 : dueOf I N0 (legAt I s t) ≤ F (t + I.step s) (I.sp s).other := z
        rw [due_at ok (ok.wt s hs)] at z2
        by_cases c : ky ((t + I.step s : Nat) : Int) ((I.sp s).other : Nat) ∈ kvs.map (·.1)
        · have := hdone rfl _ _ c
          omega
        · have y := val_out hg c
          have := G3.nn (t + I.step s) (I.sp s).other
          omega
  · rintro m σ' H3 ⟨N, x6, x7, x8, x10, x11, rfl, e3, S3, G3, _, hf⟩
    have hL := (hf rfl).2
    walk_at "go"
    refine ⟨_, rfl, Dl, rfl, ⟨_, SqL.of S3.hl⟩, fun Dr hDr => ?_⟩
    refine lc_list (xs := as.map V.ref) (fun i H' => Same H3 H' ∧ ∃ ts : List Addr, H' Dr = some (.lst (ts.map V.ref)) ∧ Rows H' ts ((List.range i).map fun t => tabRow I.beats.length N t)) ⟨Same.new hDr, [], upd_same, Rows.nil⟩ (fun i H' _ ⟨e, _⟩ => SqL.of (e _ _ S3.hl)) ?_ ?_
    · rintro i x H4 hx ⟨e4, ts, h4, hr4⟩
      obtain ⟨q, hq, rfl⟩ := get_map hx
      have hrq := e4 _ _ (S3.rw_ i q hq)
      have htl : ts.length = i := by rw [hr4.len, List.length_map, List.length_range]
      have hi : i < many := by rw [← S3.ln]; exact (List.getElem?_eq_some_iff.mp hq).1
      refine ⟨rfl, rd_yes (ite_yes ?_)⟩
      walk_at "go"
      refine rd_tupOf hrq fun p H5 hp e5 h5 => ?_
      have hd5 := e5 _ _ h4
      have t56 : Tst H5 (upd H5 Dr (.lst (ts.map V.ref ++ [V.ref p]))) := (SameX.upd (o := .lst (ts.map V.ref ++ [V.ref p]))).ts1 hd5 (by intro _ z; cases z)
      refine ⟨_, hd5, szl _ (by rw [List.length_map]; omega), SameX.out (e4.trans e5) (SameX.upd (l := Dr)) (fun z hz => by rw [List.mem_singleton.mp hz]; exact hDr), ts ++ [p], by rw [upd_same, List.map_append]; rfl, ?_⟩
      rw [List.range_succ, List.map_append]
      exact ((hr4.mono e5.ts).mono t56).snoc (t56 _ _ h5)
    · rintro H4 ⟨e4, ts, h4, hr4⟩
      rw [List.length_map, S3.ln] at hr4
      walk_at "go"
      refine rd_tupOf h4 fun r H5 hr e5 h5 => ?_
      exact hQ r H5 N ((e3.trans e4).trans e5) ⟨ts, h5, hr4.mono e5.ts⟩ hL
theorem ok__law_least (T : Txt K mg) : Cal P w K mg base CX0 "_law_least" 2 ["_law_legs_here", "_law_cycle", "_law_beats_here", "_law_given_here", "_law_many"] sp__law_least := by
  have C__law_needs := ok__law_needs (P := P) (w := w) (base := base) T
  refine Cal.of (i := 41) T (List.mem_of_getElem? (i := 33) rfl) (in_fa 32 rfl) sc__law_least (fun vs H Q E h => ?_) (fun _ _ _ _ _ _ us hl => match us, hl with | [_, _, _, _, _], _ => rfl) (fun cdv A outer s H vs Q E hr h => ⟨t__law_least K, PSs.nox ?_, pure__law_least vs H Q E h⟩)
  · obtain ⟨I, many, gv, ls, as, la, ba, ga, rfl, _⟩ := h
    rfl
  · exact (pss_cons (ps_setLc (i := 5) (own := [("_law_turn", 6)]) (g := (gName 6)) (tt := tYes) rfl sc__law_least.nd rfl rfl (sw_true rfl rfl rfl (by decide +kernel)) (pi_range1 rfl T.range (pa_cons (pv 4) pa_nil)) (blkOk_by (own := [("_law_turn", 6)]) (N := N__law_least) (sc := defScope (top 41)) (by decide +kernel)) (fun _ _ _ _ _ => (pg_name (i := 6) sc__law_least.nd rfl (by first | exact Or.inl rfl | exact Or.inr rfl))) (fun _ _ _ _ _ => pts_nil) (fun _ _ _ _ _ => (pe_op op_rep (pe_lst (pa_cons pe_int pa_nil)) (pe_callB call_len_seq (by rfl) T.len PySem.boot_len (pa_cons (pv 2) pa_nil)))))
  (pss_cons (ps_for PassesOwn.never rfl (pi_tup (pv 3)) (pg_tup rfl (pgs_cons (pg_name (i := 7) sc__law_least.nd rfl (by first | exact Or.inl rfl | exact Or.inr rfl)) (pgs_cons (pg_name (i := 6) sc__law_least.nd rfl (by first | exact Or.inl rfl | exact Or.inr rfl)) (pgs_cons (pg_name (i := 8) sc__law_least.nd rfl (by first | exact Or.inl rfl | exact Or.inr rfl)) pgs_nil)))) (pss_one (ps_asg (pe_callB (call_max2 rfl) (by rfl) T.max (by decide +kernel) (pa_cons (pv 8) (pa_cons (pe_ix ix_list (pe_ix ix_list (pv 5) (pv 6) (fun _ _ => rfl)) (pv 7) (fun _ _ => rfl)) pa_nil))) (pg_sub (pe_ix ix_list (pv 5) (pv 6) (fun _ _ => rfl)) (pv 7) set_list))))
  (pss_cons (ps_set (i := 9) sc__law_least.nd rfl (by first | exact Or.inl rfl | exact Or.inr rfl) pe_bl)
  (pss_cons (ps_while PassesOwn.never (pt_val (pv 9)) (pss_cons (ps_set (i := 9) sc__law_least.nd rfl (by first | exact Or.inl rfl | exact Or.inr rfl) pe_bl)
  (pss_cons (ps_set (i := 10) sc__law_least.nd rfl (by first | exact Or.inl rfl | exact Or.inr rfl) (pe_cal C__law_needs (hr.mono (by decide)) pass0 (pa_cons (pv 0) (pa_cons (pv 1) (pa_cons (pv 2) (pa_cons (pv 5) pa_nil))))))
  (pss_one (ps_lock (ps_for PassesOwn.never rfl (pi_keys (pv 10)) (pg_tup rfl (pgs_cons (pg_name (i := 6) sc__law_least.nd rfl (by first | exact Or.inl rfl | exact Or.inr rfl)) (pgs_cons (pg_name (i := 7) sc__law_least.nd rfl (by first | exact Or.inl rfl | exact Or.inr rfl)) pgs_nil))) (pss_one (ps_if (pt_cmpR op_gt (pe_dget (hu_of hr) (pv 10) (pe_tup (pa_cons (pv 6) (pa_cons (pv 7) pa_nil))) (fun _ _ => rfl)) (pe_ix ix_list (pe_ix ix_list (pv 5) (pv 6) (fun _ _ => rfl)) (pv 7) (fun _ _ => rfl)) (nomark _)) (pss_cons (ps_asg (pe_dget (hu_of hr) (pv 10) (pe_tup (pa_cons (pv 6) (pa_cons (pv 7) pa_nil))) (fun _ _ => rfl)) (pg_sub (pe_ix ix_list (pv 5) (pv 6) (fun _ _ => rfl)) (pv 7) set_list))
  (pss_one (ps_set (i := 9) sc__law_least.nd rfl (by first | exact Or.inl rfl | exact Or.inr rfl) pe_bl))) pss_nil))))))))
  (pss_one (ps_ret (pe_callTy call_tuple_of (by rfl) T.tuple (by decide +kernel) (pa_cons (pe_lc (own := [("_law_row", 11)]) (g := (gName 11)) (tt := tYes) rfl sc__law_least.nd (pi_list (pv 5)) (blkOk_by (own := [("_law_row", 11)]) (N := N__law_least) (sc := defScope (top 41)) (by decide +kernel)) (fun _ _ _ _ _ => (pg_name (i := 11) sc__law_least.nd rfl (by first | exact Or.inl rfl | exact Or.inr rfl))) (fun _ _ _ _ _ => pts_nil) (fun _ _ _ _ _ => (pe_callTy call_tuple_of (by rfl) T.tuple (by decide +kernel) (pa_cons (pv 11) pa_nil)))) pa_nil))))))))
end
end Bp

namespace Bp
open PySem PyProof.Rows L2 PySem.Spec
local macro_rules | `(tactic| walk_at "side") => `(tactic| first | assumption | omega | decide)
local macro_rules | `(tactic| walk_at "carry") => `(tactic| first | assumption | (refine Same.get (by assumption) ?_; walk_at "carry"))
local macro_rules | `(tactic| walk_at "tst") => `(tactic| first | exact Same.ts (by assumption) | exact SameX.ts1 (by assumption) (by assumption) (by intro _ z; cases z))
local macro_rules | `(tactic| walk_at "dat") => `(tactic| first | assumption | (with_reducible refine PlanA.mono (by walk_at "tst") ?_; walk_at "dat") | (with_reducible refine BeatsA.mono (by walk_at "tst") ?_; walk_at "dat") | (with_reducible refine WaitA.mono (by walk_at "tst") ?_; walk_at "dat") | (with_reducible refine GivenA.mono (by walk_at "tst") ?_; walk_at "dat") | (with_reducible refine TableA.mono (by walk_at "tst") ?_; walk_at "dat"))
local macro_rules | `(tactic| walk_at "at") => `(tactic| first | exact rfl | assumption | exact at_beat (by assumption) | exact at_tab (by assumption) | exact at_map (by assumption))
local macro_rules | `(tactic| walk_at "go1") => `(tactic| first
  | with_reducible refine rd_seq ?_
  | with_reducible refine rd_asg ?_
  | with_reducible refine rd_ret ?_
  | with_reducible refine rd_drop ?_
  | ((with_reducible refine' rd_var ?x1 ?x2); (case x1 => exact rfl))
  | with_reducible refine rd_c ?_
  | with_reducible refine rd_op ?_
  | with_reducible refine rd_un ?_
  | with_reducible refine rd_name ?_
  | with_reducible refine rd_I0 ?_
  | with_reducible refine rd_gcons ?_
  | with_reducible refine rd_gnil ?_
  | with_reducible refine rd_test ?_
  | with_reducible refine rd_B ?_
  | with_reducible refine rd_bl ?_
  | with_reducible refine rd_anil ?_
  | with_reducible refine rd_acons ?_
  | with_reducible refine rd_tup ?_
  | with_reducible refine rd_lst ?_
  | with_reducible refine rd_sdput ?_
  | with_reducible refine rd_call1 ?_
  | with_reducible refine rd_cb ?_
  | with_reducible refine rd_ifS ?_
  | with_reducible refine rd_next ?_
  | ((with_reducible refine' rd_I ?x1 ?x2); (case x1 => walk_at "side"))
  | ((with_reducible refine' rd_ixT ?x1 ?x2 ?x3); (case x1 => walk_at "carry"); (case x2 => walk_at "at"))
  | ((with_reducible refine' rd_lenT ?x1 ?x2); (case x1 => walk_at "carry"))
  | ((with_reducible refine' rd_lenL ?x1 ?x2); (case x1 => walk_at "carry"))
  | with_reducible refine rd_max2 ?_
  | with_reducible refine rd_isiI ?_
  | with_reducible refine rd_isiB ?_
  | ((with_reducible refine' rd_isiT ?x1 ?x2); (case x1 => walk_at "carry"))
  | with_reducible refine ite_yes ?_
  | with_reducible refine ite_no ?_
  | with_reducible refine ite_nf ?_
  | with_reducible refine ite_nt ?_
  | with_reducible refine rd_andV ?_
  | with_reducible refine rd_orV ?_
  | with_reducible refine rd_notV ?_
  | with_reducible refine rd_and ?_
  | with_reducible refine rd_or ?_
  | with_reducible refine rd_not ?_
  | with_reducible refine rd_eq rfl ?_
  | with_reducible refine rd_ne rfl ?_
  | ((with_reducible refine' rd_gtup ?x1 ?x2 ?x3); (case x1 => walk_at "carry"); (case x2 => exact rfl)))
local macro_rules | `(tactic| walk_at "go") => `(tactic| repeat walk_at "go1")
section
variable {P : Program} {w : World} {K : PySem.W.Frag} {mg : Str → Option Value} {base : Heap} {σ : L2.St} {H : Hp} {D : Ends} {v x y : V} {i j : Nat} {a d l : Addr} {Q : VK} {te tv : TE} {m n : Int} {xs ys : List V} {tr : TA}
abbrev rNeg : V → Hp → VK → Prop := rU fun i => .int (-i)
abbrev rIsN0 : R2 := fun x y H Q => y = .non ∧ Q (.bl (decide (x = .non))) H
theorem rd_isN (k : Q (.bl (decide (x = .non))) H) : rIsN0 x .non H Q := ⟨rfl, k⟩
theorem rd_sl {r : V → Option Int → Option Int → Hp → VK → Prop} {tl th : TO} (h : te σ H fun x H1 => tl σ H1 fun l H2 => th σ H2 fun u H3 => r x l u H3 Q) : tSl r te tl th σ H Q := h
theorem rd_noPart {G : Option Int → Hp → Prop} (k : G none H) : tNoPart σ H G := k
theorem rd_part {G : Option Int → Hp → Prop} (h : te σ H fun x H1 => ∃ i, x = .int i ∧ G (some i) H1) : tPart te σ H G := h
theorem rd_int1 {G : Int → Prop} (k : G m) : ∃ i, V.int m = .int i ∧ G i := ⟨m, rfl, k⟩
theorem rd_slA {lo hi : Option Int} (hx : H a = some (.tup xs)) (hc : cutV xs lo hi = ys) (q : ∀ p H1, Same H H1 → H1 p = some (.tup ys) → Q (.ref p) H1) : rSlA K (.ref a) lo hi H Q := by
  subst hc
  refine ⟨a, xs, rfl, SqT.of hx, fun ⟨z1, z2⟩ => q a H (Same.refl H) ?_, fun _ p hp => q p _ (Same.new hp) upd_same⟩
  have e : cutV xs lo hi = xs := by
    unfold cutV
    rw [z1, z2, List.drop_zero, Nat.sub_zero, List.take_length]
  rw [e]
  exact hx
theorem cut_take {k : Nat} : cutV xs none (some (k : Int)) = xs.take k := by
  unfold cutV
  rw [HT.sIx_none, HT.sIx_nat, List.drop_zero, Nat.sub_zero]
  by_cases h : k ≤ xs.length
  · rw [Nat.min_eq_left h]
  · rw [Nat.min_eq_right (by omega), List.take_length, List.take_of_length_le (by omega)]
theorem cut_drop {k : Nat} (h : k ≤ xs.length) : cutV xs (some (k : Int)) none = xs.drop k := by
  unfold cutV
  rw [HT.sIx_none, HT.sIx_nat, Nat.min_eq_left h, List.take_of_length_le (by rw [List.length_drop]; omega)]
theorem set_cut {k : Nat} (h : k < xs.length) : xs.take k ++ [v] ++ xs.drop (k + 1) = xs.set k v := by
  rw [List.set_eq_take_append_cons_drop, if_pos h, List.append_assoc]
  rfl
theorem rows_set {as : List Addr} {many works t wk : Nat} {N : Tab} {u : Int} {q : Addr} (h : Rows H as (tabRows many works N)) (hq : H q = some (.tup (tabRow works (setT N t wk u) t))) : Rows H (as.set t q) (tabRows many works (setT N t wk u)) := by
  have hl : as.length = many := by rw [h.len]; simp [tabRows]
  refine ⟨by rw [List.length_set, hl]; simp [tabRows], fun i a r ha hr => ?_⟩
  have hi : i < many := by
    have z := (List.getElem?_eq_some_iff.mp ha).1
    rw [List.length_set, hl] at z
    exact z
  have er : (tabRows many works (setT N t wk u))[i]? = some (tabRow works (setT N t wk u) i) := by simp [tabRows, hi]
  rw [er] at hr
  rw [← Option.some.inj hr]
  rw [List.getElem?_set] at ha
  by_cases e : t = i
  · subst e
    rw [if_pos rfl, if_pos (by omega)] at ha
    rw [← Option.some.inj ha]
    exact hq
  · rw [if_neg e] at ha
    rw [tabRow_other (fun z => e z.symm)]
    exact h.at_ i a _ ha (by simp [tabRows, hi])
local macro_rules | `(tactic| walk_at "go1") => `(tactic| first | with_reducible refine rd_sl ?_ | with_reducible refine rd_noPart ?_ | with_reducible refine rd_part ?_ | with_reducible refine rd_int1 ?_ | with_reducible refine rd_U ?_ | with_reducible refine rd_isN ?_)
local macro_rules | `(tactic| walk_at "side") => `(tactic| first | exact cdv (by omega) (by omega) | exact cmL (by omega) (by omega) | exact cmR (by omega) (by omega))
/-! ### _law_other_tables -/
def sp__law_other_tables : Sp := fun vs H Q _ => ∃ (many works : Nat) (N : Tab) (t wk : Nat) (ta : Addr), vs = [.ref ta, .int (t : Nat), .int (wk : Nat)] ∧ t < many ∧ wk < works ∧ works ≤ 8 ∧ many ≤ 12 ∧ TableA H many works N ta ∧
  ∀ l H' (as : List Addr), Same H H' → H' l = some (.lst (as.map V.ref)) → (∀ a ∈ as, ∃ u, u ≠ N t wk ∧ TableA H' many works (setT N t wk u) a) → Q (.ref l) H'
abbrev N__law_other_tables : List Str := ["_law_table", "_law_turn", "_law_work", "_law_found", "_law_more", "_law_row"]
theorem sc__law_other_tables : FnScope N__law_other_tables ["_law_table", "_law_turn", "_law_work"] (defScope (top 42)) := ⟨rfl, rfl, rfl, by decide +kernel, rfl, by decide +kernel, by decide +kernel⟩
def t__law_other_tables (K : PySem.W.Frag) : TS :=
  (tSeq (tAsg (tLst tNil) (gName 3))
  (tSeq (tFor (iTup K (tTup (tCons (tC (.int 1)) (tCons (tUn rNeg (tC (.int 1))) (tCons (tC (.int 999)) tNil))))) (gName 4) (tSeq (tAsg (tOp (rCatA K) (tOp (rCatA K) (tSl (rSlA K) (tOp (rIxT K) (tVar 0) (tVar 1)) tNoPart (tPart (tVar 2))) (tTup (tCons (tOp rAddI (tOp (rIxT K) (tOp (rIxT K) (tVar 0) (tVar 1)) (tVar 2)) (tVar 4)) tNil))) (tSl (rSlA K) (tOp (rIxT K) (tVar 0) (tVar 1)) (tPart (tOp rAddI (tVar 2) (tC (.int 1)))) tNoPart)) (gName 5))
  (tDrop (tBM K "list" rAppend (tVar 3) (tCons (tOp (rCatA K) (tOp (rCatA K) (tSl (rSlA K) (tVar 0) tNoPart (tPart (tVar 1))) (tTup (tCons (tVar 5) tNil))) (tSl (rSlA K) (tVar 0) (tPart (tOp rAddI (tVar 1) (tC (.int 1)))) tNoPart)) tNil)))))
  (tRet (tVar 3))))
theorem pure__law_other_tables (vs : List V) (H : Hp) (Q : VK) (E : XK) (h : sp__law_other_tables vs H Q E) : t__law_other_tables K { nx := fun _ H' => Q .non H', rt := Q } (start N__law_other_tables vs) H := by
  obtain ⟨many, works, N, t, wk, ta, rfl, ht, hw, hw8, hm, hT, hQ⟩ := h
  unfold t__law_other_tables
  walk_at "go"
  refine newL (fun l H1 hl e1 h1 => ?_) rfl
  walk_at "go"
  refine rd_forI (rd_iT ?_)
  walk_at "go"
  refine newT (fun c H2 hc e2 h2 => ?_) rfl
  refine ⟨c, rfl, ⟨_, SqT.of h2⟩, ?_⟩
  have nlc : l ≠ c := (ne_of_none h1 hc)
  refine for_tup (xs := [V.int 1, V.int (-1), V.int 999]) (fun i σ' H' => ∃ (as : List Addr) (x4 x5 : Option V), σ' = [some (.ref ta), some (.int (t : Nat)), some (.int (wk : Nat)), some (.ref l), x4, x5] ∧ Same H H' ∧ H' c = some (.tup [V.int 1, V.int (-1), V.int 999]) ∧ H' l = some (.lst (as.map V.ref)) ∧ as.length = i ∧ ∀ a ∈ as, ∃ u, u ≠ N t wk ∧ TableA H' many works (setT N t wk u) a)
    ⟨[], _, _, rfl, e1.trans e2, h2, e2 _ _ h1, rfl, fun a ha => by cases ha⟩ (fun i σ' H' _ ⟨_, _, _, _, _, z, _⟩ => SqT.of z) ?_ ?_
  · rintro i x σ' H' hx ⟨as, x4, x5, rfl, e, h3c, h3, hal, hall⟩
    have hi : i < 3 := (List.getElem?_eq_some_iff.mp hx).1
    obtain ⟨mo, rfl, hmo⟩ : ∃ mo : Int, x = .int mo ∧ mo ≠ 0 := by
      have hm := List.mem_of_getElem? hx
      simp only [or_false, List.mem_cons, List.not_mem_nil] at hm
      rcases hm with rfl | rfl | rfl
      · exact ⟨1, rfl, by decide⟩
      · exact ⟨-1, rfl, by decide⟩
      · exact ⟨999, rfl, by decide⟩
    obtain ⟨ras, q, q1, q2, q3, q4⟩ := TableA.row (hT.mono e.ts) ht
    have hrl : (tabRow works N t).length = works := tabRow_len
    have hral : (ras.map V.ref).length = many := by rw [List.length_map, q2]
    walk_at "go"
    refine rd_slA q4 cut_take fun p1 H4 e4 h4 => ?_
    have q14 := e4 _ _ q1
    have q44 := e4 _ _ q4
    walk_at "go"
    refine newT (fun p2 H5 hp2 e5 h5 => ?_) rfl
    refine rd_catT (e5 _ _ h4) h5 (by rw [List.length_take, hrl]; simp; omega) fun p3 H6 e6 h6 => ?_
    have e46 := e5.trans e6
    have q16 := e46 _ _ q14
    have q46 := e46 _ _ q44
    walk_at "go"
    refine rd_slA q46 (cut_drop (k := wk + 1) (by omega)) fun p4 H7 e7 h7 => ?_
    refine rd_catT (e7 _ _ h6) h7 (by rw [List.length_append, List.length_take, List.length_drop, hrl]; simp; omega) fun p5 H8 e8 h8 => ?_
    rw [set_cut (by omega), tabRow_set hw] at h8
    have e38 := ((e4.trans e46).trans e7).trans e8
    have q18 := (e7.trans e8) _ _ q16
    have h38 := e38 _ _ h3
    walk_at "go"
    refine rd_append rfl h38 ?_
    walk_at "go"
    refine rd_slA q18 cut_take fun p6 H9 e9 h9 => ?_
    walk_at "go"
    refine newT (fun p7 H10 hp7 e10 h10 => ?_) rfl
    refine rd_catT (e10 _ _ h9) h10 (by rw [List.length_take, hral]; simp; omega) fun p8 H11 e11 h11 => ?_
    have e811 := (e9.trans e10).trans e11
    have q111 := e811 _ _ q18
    walk_at "go"
    refine rd_slA q111 (cut_drop (k := t + 1) (by omega)) fun p9 H12 e12 h12 => ?_
    refine rd_catT (e12 _ _ h11) h12 (by rw [List.length_append, List.length_take, List.length_drop, hral]; simp; omega) fun p10 H13 e13 h13 => ?_
    rw [set_cut (by omega)] at h13
    have e813 := (e811.trans e12).trans e13
    have e313 := e38.trans e813
    walk_at "go"
    refine rd_app (e313 _ _ h3) (by rw [List.length_map]; omega) fun H14 e14 h14 => ?_
    have t14 : Tst H13 H14 := e14.ts1 (e313 _ _ h3) (by intro _ z; cases z)
    refine ⟨as ++ [p10], _, _, rfl, SameX.out (e.trans e313) e14 (fun z hz => by rw [List.mem_singleton.mp hz]; exact hl), t14 _ _ (e313 _ _ h3c), by rw [h14, List.map_append]; rfl, by rw [List.length_append, hal]; rfl, fun a ha => ?_⟩
    rcases List.mem_append.1 ha with ha | ha
    · obtain ⟨u, u1, u2⟩ := hall a ha
      exact ⟨u, u1, u2.mono (e313.ts.trans t14)⟩
    · rw [List.mem_singleton.1 ha]
      refine ⟨N t wk + mo, by omega, ?_⟩
      obtain ⟨ras2, r1, r2⟩ := hT.mono e.ts
      have er : ras.map V.ref = ras2.map V.ref := by
        rw [q1] at r1
        injection r1 with r1
        injection r1
      rw [er, ← List.map_set] at h13
      refine ⟨ras2.set t p5, t14 _ _ h13, ?_⟩
      exact rows_set ((r2.mono e313.ts).mono t14) ((e813.ts.trans t14) _ _ h8)
  · rintro σ' H' ⟨as, x4, x5, rfl, e, h3c, h3, hal, hall⟩
    walk_at "go"
    exact hQ l H' as e h3 hall
theorem ok__law_other_tables (T : Txt K mg) : Cal P w K mg base CX0 "_law_other_tables" 1 ["_law_table", "_law_turn", "_law_work"] sp__law_other_tables := by
  refine Cal.of (i := 42) T (List.mem_of_getElem? (i := 34) rfl) (in_fa 33 rfl) sc__law_other_tables (fun vs H Q E h => ?_) (fun _ _ _ _ _ _ us hl => match us, hl with | [_, _, _], _ => rfl) (fun cdv A outer s H vs Q E hr h => ⟨t__law_other_tables K, PSs.nox ?_, pure__law_other_tables vs H Q E h⟩)
  · obtain ⟨many, works, N, t, wk, ta, rfl, _⟩ := h
    rfl
  · exact (pss_cons (ps_set (i := 3) sc__law_other_tables.nd rfl (by first | exact Or.inl rfl | exact Or.inr rfl) (pe_lst pa_nil))
  (pss_cons (ps_for PassesOwn.never rfl (pi_tup (pe_tup (pa_cons pe_int (pa_cons (pe_un un_neg pe_int) (pa_cons pe_int pa_nil))))) (pg_name (i := 4) sc__law_other_tables.nd rfl (by first | exact Or.inl rfl | exact Or.inr rfl)) (pss_cons (ps_set (i := 5) sc__law_other_tables.nd rfl (by first | exact Or.inl rfl | exact Or.inr rfl) (pe_op op_catA (pe_op op_catA (pe_slice sl_tupA (pe_ix ix_tup (pv 0) (pv 1) (fun _ _ => rfl)) po_none (po_some (pv 2))) (pe_tup (pa_cons (pe_op op_add (pe_ix ix_tup (pe_ix ix_tup (pv 0) (pv 1) (fun _ _ => rfl)) (pv 2) (fun _ _ => rfl)) (pv 4)) pa_nil))) (pe_slice sl_tupA (pe_ix ix_tup (pv 0) (pv 1) (fun _ _ => rfl)) (po_some (pe_op op_add (pv 2) pe_int)) po_none)))
  (pss_one (ps_expr (pe_bm PySem.F.plainAttrs_list PySem.F.slot_list_append PySem.F.type_list_append mt_append (pv 3) (pa_cons (pe_op op_catA (pe_op op_catA (pe_slice sl_tupA (pv 0) po_none (po_some (pv 1))) (pe_tup (pa_cons (pv 5) pa_nil))) (pe_slice sl_tupA (pv 0) (po_some (pe_op op_add (pv 1) pe_int)) po_none)) pa_nil))))))
  (pss_one (ps_ret (pv 3)))))
/-! ### _law_left_right -/
theorem rd_sumtab {many works : Nat} {N : Tab} {ta : Addr} (hi : σ[i]? = some (some (.ref ta))) (hw : ∀ x, wipe ((wipe σ [j]).set j (some x)) [j] = wipe σ [j]) (hj : j < σ.length) (hT : TableA H many works N ta) (hz : many ≤ 12) (q : ∀ H1, Same H H1 → Q (.int (sumG many works N)) H1) :
    tCB (rSum K) (tCons (tLc (iTup K (tVar i)) (gName j) tYes (tCB (rSumT K) (tCons (tVar j) tNil)) [j]) tNil) σ H Q := by
  obtain ⟨as, ha, hr⟩ := hT
  have hal : as.length = many := by rw [hr.len]; simp [tabRows]
  refine rd_cb (rd_acons ?_)
  refine rd_lcT (fun t => .int ((List.range works).map fun w => N t w).sum) hi ha (by rw [List.length_map]; omega) hw (fun c x H1 hx e1 Q q => ?_) fun p H1 hp e1 h1 => ?_
  · obtain ⟨ra, hra, rfl⟩ := get_map hx
    have hc : c < many := by rw [← hal]; exact (List.getElem?_eq_some_iff.mp hra).1
    have hrow : H ra = some (.tup (tabRow works N c)) := hr.at_ c ra _ hra (by simp [tabRows, hc])
    refine rd_cb (rd_acons (rd_var (v := .ref ra) ?_ (rd_anil ?_)))
    · rw [List.getElem?_set_self]
      show j < (wipe σ [j]).length
      simp [wipe, hj]
    · refine ⟨ra, (List.range works).map fun w => N c w, rfl, SqT.of ?_, q H1 (Same.refl _)⟩
      rw [e1 _ _ hrow, List.map_map]
      rfl
  · refine rd_anil ?_
    refine ⟨p, (List.range many).map fun t => ((List.range works).map fun w => N t w).sum, rfl, SqL.of ?_, q H1 e1⟩
    rw [h1, List.length_map, hal, List.map_map]
    rfl
theorem given1 {work : Nat} {v : Int} {p q : Addr} (h1 : H p = some (.tup [.int (work : Nat), .int 0, .int v])) (h2 : H q = some (.tup [.ref p])) : GivenA H [(work, 0, v)] q := ⟨[p], h2, Rows.nil.snoc (r := gvRow (work, 0, v)) h1⟩
theorem late1 {E : XK} {I : Inst} {work M : Nat} {v : Int} {pa ba wa p q : Addr} (ok : I.Ok) (hP : PlanA H I pa) (hB : BeatsA H I ba) (hW : WaitA H I wa) (hw : work < I.beats.length) (h0 : 0 ≤ v) (h9 : v ≤ 999) (hM0 : 0 < M) (hM : M ≤ 12) (h1 : H p = some (.tup [.int (work : Nat), .int 0, .int v])) (h2 : H q = some (.tup [.ref p]))
    (k : ∀ r H' N, Same H H' → TableA H' M I.beats.length N r → Least I [(work, 0, v)] M N → Q (.ref r) H') : sp_lateness_of [.ref pa, .int I.cycle, .ref ba, .ref wa, .ref q, .int (M : Nat)] H Q E :=
  ⟨I, M, [(work, 0, v)], pa, ba, wa, q, rfl, ok, hM, ⟨fun g hg => by rw [List.mem_singleton.mp hg]; exact hw, fun g hg => by rw [List.mem_singleton.mp hg]; exact hM0, fun g hg => by rw [List.mem_singleton.mp hg]; exact h0, fun g hg => by rw [List.mem_singleton.mp hg]; exact h9⟩, by show 1 ≤ 12; decide, hP, hB, hW, given1 h1 h2, k⟩
theorem step_eq {I : Inst} (ok : I.Ok) {s : Nat} (hs : s < I.spans.length) : (I.b (I.sp s).one + I.len s) / I.cycle = (I.step s : Nat) := by
  have z := later_eq ok (t := 0) hs
  rw [Int.natCast_zero, Int.mul_zero, Int.add_zero, Nat.zero_add] at z
  exact z
def sp__law_left_right : Sp := fun vs H Q _ => ∃ (I : Inst) (pa ba wa : Addr) (work : Nat), vs = [.ref pa, .int I.cycle, .ref ba, .ref wa, .int (work : Nat)] ∧ I.Ok ∧ work < I.beats.length ∧ PlanA H I pa ∧ BeatsA H I ba ∧ WaitA H I wa ∧ ∀ H', Same H H' → Q (.bl true) H'
abbrev N__law_left_right : List Str := ["_law_plan_here", "_law_cycle", "_law_beats_here", "_law_waiting", "_law_work", "_law_left", "_law_table", "_law_row", "_law_steps", "_law_s", "_law_word", "_law_one", "_law_other", "_law_low", "_law_high", "_law_length", "_law_step"]
theorem sc__law_left_right : FnScope N__law_left_right ["_law_plan_here", "_law_cycle", "_law_beats_here", "_law_waiting", "_law_work"] (defScope (top 43)) := ⟨rfl, rfl, rfl, by decide +kernel, rfl, by decide +kernel, by decide +kernel⟩
def t__law_left_right (K : PySem.W.Frag) : TS :=
  (tSeq (tAsg (tCall sp_buffer_left [] E0 (tCons (tVar 0) (tCons (tVar 1) (tCons (tVar 2) (tCons (tVar 3) (tCons (tVar 4) tNil)))))) (gName 5))
  (tSeq (tIfS (tTest (tOp rIsN0 (tVar 5) (tC .non))) (tSeq (tAsg (tCall sp_lateness_of [] E0 (tCons (tVar 0) (tCons (tVar 1) (tCons (tVar 2) (tCons (tVar 3) (tCons (tTup (tCons (tTup (tCons (tVar 4) (tCons (tC (.int 0)) (tCons (tC (.int 999)) tNil)))) tNil)) (tCons (tC (.int 2)) tNil))))))) (gName 6))
  (tRet (tOp rEq (tCB (rSum K) (tCons (tLc (iTup K (tVar 6)) (gName 7) tYes (tCB (rSumT K) (tCons (tVar 7) tNil)) [7]) tNil)) (tC (.int 999))))) tNext)
  (tSeq (tIfS (tTest (tOp rGtI (tVar 5) (tC (.int 998)))) (tRet (tC (.bl true))) tNext)
  (tSeq (tAsg (tCall sp_lateness_of [] E0 (tCons (tVar 0) (tCons (tVar 1) (tCons (tVar 2) (tCons (tVar 3) (tCons (tTup (tCons (tTup (tCons (tVar 4) (tCons (tC (.int 0)) (tCons (tVar 5) tNil)))) tNil)) (tCons (tC (.int 12)) tNil))))))) (gName 6))
  (tSeq (tIfS (tTest (tOp rNe (tCB (rSum K) (tCons (tLc (iTup K (tVar 6)) (gName 7) tYes (tCB (rSumT K) (tCons (tVar 7) tNil)) [7]) tNil)) (tVar 5))) (tRet (tC (.bl false))) tNext)
  (tSeq (tAsg (tLst tNil) (gName 8))
  (tSeq (tFor (iTup K (tVar 3)) (gName 9) (tSeq (tAsg (tOp (rIxT K) (tOp (rIxT K) (tVar 0) (tC (.int 1))) (tVar 9)) (gTup K 5 (gCons (gName 10) (gCons (gName 11) (gCons (gName 12) (gCons (gName 13) (gCons (gName 14) gNil)))))))
  (tSeq (tAsg (tOp rAddI (tVar 13) (tOp rModI (tOp rSubI (tOp rSubI (tOp (rIxT K) (tVar 2) (tVar 12)) (tOp (rIxT K) (tVar 2) (tVar 11))) (tVar 13)) (tVar 1))) (gName 15))
  (tSeq (tAsg (tOp rDivI (tOp rAddI (tOp (rIxT K) (tVar 2) (tVar 11)) (tVar 15)) (tVar 1)) (gName 16))
  (tIfS (tAnd (tTest (tOp rEq (tVar 11) (tVar 4))) (tAnd (tTest (tOp rEq (tOp rSubI (tVar 15) (tVar 13)) (tVar 5))) (tOr (tTest (tOp rNe (tVar 12) (tVar 4))) (tTest (tOp rGtI (tVar 16) (tC (.int 0))))))) (tDrop (tBM K "list" rAppend (tVar 8) (tCons (tVar 16) tNil))) tNext)))))
  (tSeq (tAsg (tCall sp_lateness_of [] E0 (tCons (tVar 0) (tCons (tVar 1) (tCons (tVar 2) (tCons (tVar 3) (tCons (tTup (tCons (tTup (tCons (tVar 4) (tCons (tC (.int 0)) (tCons (tOp rAddI (tVar 5) (tC (.int 1))) tNil)))) tNil)) (tCons (tC (.int 12)) tNil))))))) (gName 6))
  (tRet (tOp rEq (tOp rGtI (tCB (rSum K) (tCons (tLc (iTup K (tVar 6)) (gName 7) tYes (tCB (rSumT K) (tCons (tVar 7) tNil)) [7]) tNil)) (tOp rAddI (tVar 5) (tC (.int 1)))) (tOp rLtI (tCB (rMin K) (tCons (tVar 8) tNil)) (tC (.int 12)))))))))))))
def Near (I : Inst) (work : Nat) (m : Int) (s : Nat) : Prop := Goes I work s ∧ I.buf s = m
theorem pure__law_left_right (vs : List V) (H : Hp) (Q : VK) (E : XK) (h : sp__law_left_right vs H Q E) : t__law_left_right K { nx := fun _ H' => Q .non H', rt := Q } (start N__law_left_right vs) H := by
  obtain ⟨I, pa, ba, wa, work, rfl, ok, hwk, hP, hB, hW, hQ⟩ := h
  have hc0 := ok.c0
  have hc1 := ok.c1
  unfold t__law_left_right
  walk_at "go"
  refine ⟨I, pa, ba, wa, work, rfl, ok, hP, hB, hW, fun hno H1 e1 => ?_, fun m hex hle H1 e1 => ?_⟩
  · walk_at "go"
    rw [show decide (V.non = V.non) = true from rfl]
    walk_at "go"
    refine newT (fun p H2 hp e2 h2 => ?_) rfl
    walk_at "go"
    refine newT (fun q H3 hq e3 h3 => ?_) rfl
    walk_at "go"
    have e03 := (e1.trans e2).trans e3
    refine late1 (M := 2) (v := 999) ok (hP.mono e03.ts) (hB.mono e03.ts) (hW.mono e03.ts) hwk (by decide) (by decide) (by decide) (by decide) (e3 _ _ h2) h3 fun ta H4 N e4 hT hL => ?_
    walk_at "go"
    refine rd_sumtab rfl (fun x => rfl) (by show 7 < 17; decide) hT (by decide) fun H5 e5 => ?_
    have eN : N = lone work 999 := hL.unique (lone_least ok (by decide) fun s hs h1 => by
      have z := hno s hs
      unfold Goes at z
      by_cases c : (I.sp s).other = work
      · exact .inl ⟨c, by
          by_cases c2 : 0 < I.step s
          · exact absurd ⟨h1, .inr c2⟩ z
          · omega⟩
      · exact absurd ⟨h1, .inl c⟩ z)
    rw [eN, lone_sum (by decide) hwk]
    walk_at "go"
    rw [show decide (V.int 999 = V.int 999) = true from decide_eq_true rfl]
    exact hQ H5 ((e03.trans e4).trans e5)
  · have hm0 : 0 ≤ m := by
      obtain ⟨s, _, _, z⟩ := hex
      rw [← z]
      exact Inst.buf0 ok s
    walk_at "go"
    rw [show decide (V.int m = V.non) = false from rfl]
    walk_at "go"
    refine iteb (fun hb => ?_) (fun hb => ?_)
    · walk_at "go"
      exact hQ H1 e1
    have hm9 := of_decide_eq_false hb
    walk_at "go"
    refine newT (fun p H2 hp e2 h2 => ?_) rfl
    walk_at "go"
    refine newT (fun q H3 hq e3 h3 => ?_) rfl
    walk_at "go"
    have e03 := (e1.trans e2).trans e3
    refine late1 (M := 12) (v := m) ok (hP.mono e03.ts) (hB.mono e03.ts) (hW.mono e03.ts) hwk hm0 (by omega) (by decide) (by decide) (e3 _ _ h2) h3 fun ta H4 N e4 hT hL => ?_
    walk_at "go"
    refine rd_sumtab rfl (fun x => rfl) (by show 7 < 17; decide) hT (by decide) fun H5 e5 => ?_
    have eN : N = lone work m := hL.unique (lone_least ok hm0 fun s hs h1 => by
      by_cases c : Goes I work s
      · exact .inr (.inl (hle s hs c))
      · unfold Goes at c
        by_cases c1 : (I.sp s).other = work
        · exact .inl ⟨c1, by
            by_cases c2 : 0 < I.step s
            · exact absurd ⟨h1, .inr c2⟩ c
            · omega⟩
        · exact absurd ⟨h1, .inl c1⟩ c)
    rw [eN, lone_sum (by decide) hwk]
    walk_at "go"
    rw [show decide (V.int m = V.int m) = true from decide_eq_true rfl]
    walk_at "go"
    refine newL (fun l H6 hl e6 h6 => ?_) rfl
    walk_at "go"
    have e05 := (e03.trans e4).trans e5
    have hl0 : H l = none := e05.free hl
    have hW6 := e6 _ _ (e05 _ _ hW)
    refine rd_forTv (a := wa) rfl hW6 (fun i σ' H' => ∃ (ss : List Nat) (x9 x10 x11 x12 x13 x14 x15 x16 : Option V), σ' = [some (.ref pa), some (.int I.cycle), some (.ref ba), some (.ref wa), some (.int (work : Nat)), some (.int m), some (.ref ta), none, some (.ref l), x9, x10, x11, x12, x13, x14, x15, x16] ∧ Same H H' ∧ H' l = some (.lst (ss.map fun s => V.int (I.step s : Nat))) ∧ ss.length ≤ i ∧ ∀ s, s ∈ ss ↔ s ∈ I.wait.take i ∧ Near I work m s)
      ⟨[], _, _, _, _, _, _, _, _, rfl, e05.trans e6, h6, by simp, fun s => by simp⟩ (fun i σ' H' ⟨_, _, _, _, _, _, _, _, _, _, e, _⟩ => e _ _ hW) ?_ ?_
    · rintro i x σ' H' hx ⟨ss, x9, x10, x11, x12, x13, x14, x15, x16, rfl, e, h7, hsl7, hmem⟩
      obtain ⟨s, hs, rfl⟩ := get_map hx
      have hsm : s ∈ I.wait := List.mem_of_getElem? hs
      have hsl := ok.wt s hsm
      have hiw : i < I.wait.length := (List.getElem?_eq_some_iff.mp hs).1
      have hi24 : i < 24 := by have := ok.wl; omega
      obtain ⟨pb, pc, pas, sq, p1, p2, p3, p4⟩ := (hP.mono e.ts).span hsl
      have hB2 : H' ba = some (.tup (I.beats.map V.int)) := e _ _ hB
      have hso := ok.so s hsl
      have hst := ok.st s hsl
      have skip : ¬ Near I work m s → ∃ (ss' : List Nat) (x9 x10 x11 x12 x13 x14 x15 x16 : Option V), [some (.ref pa), some (.int I.cycle), some (.ref ba), some (.ref wa), some (.int (work : Nat)), some (.int m), some (.ref ta), none, some (.ref l), some (.int (s : Nat)), some (.str (I.sp s).word), some (.int ((I.sp s).one : Nat)), some (.int ((I.sp s).other : Nat)), some (.int (I.sp s).low), some (.int (I.sp s).high), some (.int (I.len s)), some (.int (I.step s : Nat))] = [some (.ref pa), some (.int I.cycle), some (.ref ba), some (.ref wa), some (.int (work : Nat)), some (.int m), some (.ref ta), none, some (.ref l), x9, x10, x11, x12, x13, x14, x15, x16] ∧ Same H H' ∧ H' l = some (.lst (ss'.map fun s => V.int (I.step s : Nat))) ∧ ss'.length ≤ i + 1 ∧ ∀ s', s' ∈ ss' ↔ s' ∈ I.wait.take (i + 1) ∧ Near I work m s' := by
        intro hn
        refine ⟨ss, _, _, _, _, _, _, _, _, rfl, e, h7, by omega, fun s' => ?_⟩
        rw [hmem, take_snoc hs, List.mem_append, List.mem_singleton]
        constructor
        · rintro ⟨z1, z2⟩
          exact ⟨.inl z1, z2⟩
        · rintro ⟨z1 | z1, z2⟩
          · exact ⟨z1, z2⟩
          · rw [z1] at z2
            exact absurd z2 hn
      have elen : (I.sp s).low + (I.b (I.sp s).other - I.b (I.sp s).one - (I.sp s).low) % I.cycle = I.len s := rfl
      have ebuf : I.len s - (I.sp s).low = I.buf s := by
        have : I.len s = (I.sp s).low + I.buf s := rfl
        omega
      walk_at "go"
      rw [elen, step_eq ok hsl]
      refine iteb (fun hb1 => ?_) (fun hb1 => ?_)
      · have c1 : (I.sp s).one = work := by
          have z := of_decide_eq_true hb1
          injection z with z
          omega
        walk_at "go"
        rw [ebuf]
        refine iteb (fun hb2 => ?_) (fun hb2 => ?_)
        · have c2 : I.buf s = m := by
            have z := of_decide_eq_true hb2
            injection z
          walk_at "go"
          have app : Goes I work s → tDrop (tBM K "list" rAppend (tVar 8) (tCons (tVar 16) tNil)) { nx := fun σ' H' => ∃ (ss : List Nat) (x9 x10 x11 x12 x13 x14 x15 x16 : Option V), σ' = [some (.ref pa), some (.int I.cycle), some (.ref ba), some (.ref wa), some (.int (work : Nat)), some (.int m), some (.ref ta), none, some (.ref l), x9, x10, x11, x12, x13, x14, x15, x16] ∧ Same H H' ∧ H' l = some (.lst (ss.map fun s => V.int (I.step s : Nat))) ∧ ss.length ≤ i + 1 ∧ ∀ s, s ∈ ss ↔ s ∈ I.wait.take (i + 1) ∧ Near I work m s, rt := Q } [some (.ref pa), some (.int I.cycle), some (.ref ba), some (.ref wa), some (.int (work : Nat)), some (.int m), some (.ref ta), none, some (.ref l), some (.int (s : Nat)), some (.str (I.sp s).word), some (.int ((I.sp s).one : Nat)), some (.int ((I.sp s).other : Nat)), some (.int (I.sp s).low), some (.int (I.sp s).high), some (.int (I.len s)), some (.int (I.step s : Nat))] H' := by
            intro hg
            refine rd_append rfl h7 ?_
            walk_at "go"
            refine rd_app h7 (by rw [List.length_map]; omega) fun H8 e8 h8 => ?_
            refine ⟨ss ++ [s], _, _, _, _, _, _, _, _, rfl, SameX.out e e8 (fun z hz => by rw [List.mem_singleton.mp hz]; exact hl0), by rw [h8, List.map_append]; rfl, by rw [List.length_append]; show _ + 1 ≤ _; omega, fun s' => ?_⟩
            rw [List.mem_append, hmem, take_snoc hs, List.mem_append, List.mem_singleton]
            constructor
            · rintro (⟨z1, z2⟩ | z)
              · exact ⟨.inl z1, z2⟩
              · rw [z]
                exact ⟨.inr rfl, hg, c2⟩
            · rintro ⟨z1 | z1, z2⟩
              · exact .inl ⟨z1, z2⟩
              · exact .inr z1
          refine iteb (fun hb3 => ?_) (fun hb3 => ?_)
          · have c3 : (I.sp s).other ≠ work := fun z => by
              rw [z] at hb3
              simp at hb3
            exact app ⟨c1, .inl c3⟩
          · have c3 : (I.sp s).other = work := by
              rw [Bool.not_eq_false'] at hb3
              have z := of_decide_eq_true hb3
              injection z with z
              omega
            walk_at "go"
            refine iteb (fun hb4 => ?_) (fun hb4 => ?_)
            · have c4 : 0 < I.step s := by
                have z := of_decide_eq_true hb4
                omega
              exact app ⟨c1, .inr c4⟩
            · have c4 : ¬ 0 < I.step s := by
                have z := of_decide_eq_false hb4
                omega
              walk_at "go"
              exact skip fun z => by
                rcases z.1.2 with y | y
                · exact y c3
                · exact c4 y
        · walk_at "go"
          refine skip fun z => ?_
          rw [z.2] at hb2
          simp at hb2
      · walk_at "go"
        refine skip fun z => ?_
        rw [z.1.1] at hb1
        simp at hb1
    rintro σ' H7 ⟨ss, x9, x10, x11, x12, x13, x14, x15, x16, rfl, e7, h7, hsl7, hmem⟩
    rw [List.length_map, List.take_length] at hmem
    walk_at "go"
    refine newT (fun p' H8 hp' e8 h8 => ?_) rfl
    walk_at "go"
    refine newT (fun q' H9 hq' e9 h9 => ?_) rfl
    walk_at "go"
    have e09 := (e7.trans e8).trans e9
    refine late1 (M := 12) (v := m + 1) ok (hP.mono e09.ts) (hB.mono e09.ts) (hW.mono e09.ts) hwk (by omega) (by omega) (by decide) (by decide) (e9 _ _ h8) h9 fun tb H10 N2 e10 hT2 hL2 => ?_
    walk_at "go"
    refine rd_sumtab rfl (fun x => rfl) (by show 7 < 17; decide) hT2 (by decide) fun H11 e11 => ?_
    have e711 := ((e8.trans e9).trans e10).trans e11
    walk_at "go"
    have hne : 0 < ss.length := by
      obtain ⟨s, z1, z2, z3⟩ := hex
      exact List.length_pos_of_mem ((hmem s).mpr ⟨z1, z2, z3⟩)
    refine ⟨l, ss.map fun s => ((I.step s : Nat) : Int), rfl, SqL.of (by rw [e711 _ _ h7, List.map_map]; rfl), by rw [List.length_map]; exact hne, fun mn hmn hmin => ?_⟩
    walk_at "go"
    have same : decide (m + 1 < sumG 12 I.beats.length N2) = decide (mn < 12) := by
      by_cases c : ∃ s ∈ I.wait, Near I work m s ∧ I.step s < 12
      · obtain ⟨s, z1, z2, z3⟩ := c
        have y1 := more_late ok hL2 hm0 rfl (by decide) hwk z1 z2.1.1 z2.2 z2.1.2 z3
        have y2 := hmin _ (List.mem_map.mpr ⟨s, (hmem s).mpr ⟨z1, z2⟩, rfl⟩)
        rw [decide_eq_true y1, decide_eq_true (by omega)]
      · have eN2 : N2 = lone work (m + 1) := hL2.unique (lone_least ok (by omega) fun s hs h1 => by
          by_cases g : Goes I work s
          · have z := hle s hs g
            by_cases g2 : I.buf s = m
            · refine .inr (.inr ?_)
              by_cases g3 : I.step s < 12
              · exact absurd ⟨s, hs, ⟨g, g2⟩, g3⟩ c
              · omega
            · exact .inr (.inl (by omega))
          · unfold Goes at g
            by_cases c1 : (I.sp s).other = work
            · exact .inl ⟨c1, by
                by_cases c2 : 0 < I.step s
                · exact absurd ⟨h1, .inr c2⟩ g
                · omega⟩
            · exact absurd ⟨h1, .inl c1⟩ g)
        rw [eN2, lone_sum (by decide) hwk]
        obtain ⟨s, hs, hse⟩ := List.mem_map.mp hmn
        obtain ⟨z1, z2⟩ := (hmem s).mp hs
        have : ¬ I.step s < 12 := fun z => c ⟨s, z1, z2, z⟩
        rw [decide_eq_false (by omega), decide_eq_false (by omega)]
    rw [same, show decide (V.bl (decide (mn < 12)) = V.bl (decide (mn < 12))) = true from decide_eq_true rfl]
    exact hQ H11 (e7.trans e711)
theorem ok__law_left_right (T : Txt K mg) : Cal P w K mg base CX0 "_law_left_right" 6 ["_law_plan_here", "_law_cycle", "_law_beats_here", "_law_waiting", "_law_work"] sp__law_left_right := by
  have C_buffer_left := ok_buffer_left (P := P) (w := w) (base := base) T
  have C_lateness_of := ok_lateness_of (P := P) (w := w) (base := base) T
  refine Cal.of (i := 43) T (List.mem_of_getElem? (i := 35) rfl) (in_fa 34 rfl) sc__law_left_right (fun vs H Q E h => ?_) (fun _ _ _ _ _ _ us hl => match us, hl with | [_, _, _, _, _], _ => rfl) (fun cdv A outer s H vs Q E hr h => ⟨t__law_left_right K, PSs.nox ?_, pure__law_left_right vs H Q E h⟩)
  · obtain ⟨I, pa, ba, wa, work, rfl, _⟩ := h
    rfl
  · exact (pss_cons (ps_set (i := 5) sc__law_left_right.nd rfl (by first | exact Or.inl rfl | exact Or.inr rfl) (pe_cal C_buffer_left (hr.mono (by decide)) pass0 (pa_cons (pv 0) (pa_cons (pv 1) (pa_cons (pv 2) (pa_cons (pv 3) (pa_cons (pv 4) pa_nil)))))))
  (pss_cons (ps_if (pt_cmpR op_isN (pv 5) pe_non (nomark _)) (pss_cons (ps_set (i := 6) sc__law_left_right.nd rfl (by first | exact Or.inl rfl | exact Or.inr rfl) (pe_cal C_lateness_of (hr.mono (by decide)) pass0 (pa_cons (pv 0) (pa_cons (pv 1) (pa_cons (pv 2) (pa_cons (pv 3) (pa_cons (pe_tup (pa_cons (pe_tup (pa_cons (pv 4) (pa_cons pe_int (pa_cons pe_int pa_nil)))) pa_nil)) (pa_cons pe_int pa_nil))))))))
  (pss_one (ps_ret (pe_cmpR op_eq (pe_callB (cr_sum rfl) (by rfl) T.sum (by decide +kernel) (pa_cons (pe_lc (own := [("_law_row", 7)]) (g := (gName 7)) (tt := tYes) rfl sc__law_left_right.nd (pi_tup (pv 6)) (blkOk_by (own := [("_law_row", 7)]) (N := N__law_left_right) (sc := defScope (top 43)) (by decide +kernel)) (fun _ _ _ _ _ => (pg_name (i := 7) sc__law_left_right.nd rfl (by first | exact Or.inl rfl | exact Or.inr rfl))) (fun _ _ _ _ _ => pts_nil) (fun _ _ _ _ _ => (pe_callB (cr_sumT rfl) (by rfl) T.sum (by decide +kernel) (pa_cons (pv 7) pa_nil)))) pa_nil)) pe_int (nomark _))))) pss_nil)
  (pss_cons (ps_if (pt_cmpR op_gt (pv 5) pe_int (nomark _)) (pss_one (ps_ret pe_bl)) pss_nil)
  (pss_cons (ps_set (i := 6) sc__law_left_right.nd rfl (by first | exact Or.inl rfl | exact Or.inr rfl) (pe_cal C_lateness_of (hr.mono (by decide)) pass0 (pa_cons (pv 0) (pa_cons (pv 1) (pa_cons (pv 2) (pa_cons (pv 3) (pa_cons (pe_tup (pa_cons (pe_tup (pa_cons (pv 4) (pa_cons pe_int (pa_cons (pv 5) pa_nil)))) pa_nil)) (pa_cons pe_int pa_nil))))))))
  (pss_cons (ps_if (pt_cmpR op_ne (pe_callB (cr_sum rfl) (by rfl) T.sum (by decide +kernel) (pa_cons (pe_lc (own := [("_law_row", 7)]) (g := (gName 7)) (tt := tYes) rfl sc__law_left_right.nd (pi_tup (pv 6)) (blkOk_by (own := [("_law_row", 7)]) (N := N__law_left_right) (sc := defScope (top 43)) (by decide +kernel)) (fun _ _ _ _ _ => (pg_name (i := 7) sc__law_left_right.nd rfl (by first | exact Or.inl rfl | exact Or.inr rfl))) (fun _ _ _ _ _ => pts_nil) (fun _ _ _ _ _ => (pe_callB (cr_sumT rfl) (by rfl) T.sum (by decide +kernel) (pa_cons (pv 7) pa_nil)))) pa_nil)) (pv 5) (nomark _)) (pss_one (ps_ret pe_bl)) pss_nil)
  (pss_cons (ps_set (i := 8) sc__law_left_right.nd rfl (by first | exact Or.inl rfl | exact Or.inr rfl) (pe_lst pa_nil))
  (pss_cons (ps_for PassesOwn.never rfl (pi_tup (pv 3)) (pg_name (i := 9) sc__law_left_right.nd rfl (by first | exact Or.inl rfl | exact Or.inr rfl)) (pss_cons (ps_asg (pe_ix ix_tup (pe_ix ix_tup (pv 0) pe_int (fun _ _ => rfl)) (pv 9) (fun _ _ => rfl)) (pg_tup rfl (pgs_cons (pg_name (i := 10) sc__law_left_right.nd rfl (by first | exact Or.inl rfl | exact Or.inr rfl)) (pgs_cons (pg_name (i := 11) sc__law_left_right.nd rfl (by first | exact Or.inl rfl | exact Or.inr rfl)) (pgs_cons (pg_name (i := 12) sc__law_left_right.nd rfl (by first | exact Or.inl rfl | exact Or.inr rfl)) (pgs_cons (pg_name (i := 13) sc__law_left_right.nd rfl (by first | exact Or.inl rfl | exact Or.inr rfl)) (pgs_cons (pg_name (i := 14) sc__law_left_right.nd rfl (by first | exact Or.inl rfl | exact Or.inr rfl)) pgs_nil)))))))
  (pss_cons (ps_set (i := 15) sc__law_left_right.nd rfl (by first | exact Or.inl rfl | exact Or.inr rfl) (pe_op op_add (pv 13) (pe_op op_mod (pe_op op_sub (pe_op op_sub (pe_ix ix_tup (pv 2) (pv 12) (fun _ _ => rfl)) (pe_ix ix_tup (pv 2) (pv 11) (fun _ _ => rfl))) (pv 13)) (pv 1))))
  (pss_cons (ps_set (i := 16) sc__law_left_right.nd rfl (by first | exact Or.inl rfl | exact Or.inr rfl) (pe_op op_fdiv (pe_op op_add (pe_ix ix_tup (pv 2) (pv 11) (fun _ _ => rfl)) (pv 15)) (pv 1)))
  (pss_one (ps_if (PW.pt (pw_and (pt_cmpR op_eq (pv 11) (pv 4) (nomark _)) (pw_and (pt_cmpR op_eq (pe_op op_sub (pv 15) (pv 13)) (pv 5) (nomark _)) (pw_and1 (PW.pt (pw_or (pt_cmpR op_ne (pv 12) (pv 4) (nomark _)) (pw_or1 (pt_cmpR op_gt (pv 16) pe_int (nomark _))))))))) (pss_one (ps_expr (pe_bm PySem.F.plainAttrs_list PySem.F.slot_list_append PySem.F.type_list_append mt_append (pv 8) (pa_cons (pv 16) pa_nil)))) pss_nil))))))
  (pss_cons (ps_set (i := 6) sc__law_left_right.nd rfl (by first | exact Or.inl rfl | exact Or.inr rfl) (pe_cal C_lateness_of (hr.mono (by decide)) pass0 (pa_cons (pv 0) (pa_cons (pv 1) (pa_cons (pv 2) (pa_cons (pv 3) (pa_cons (pe_tup (pa_cons (pe_tup (pa_cons (pv 4) (pa_cons pe_int (pa_cons (pe_op op_add (pv 5) pe_int) pa_nil)))) pa_nil)) (pa_cons pe_int pa_nil))))))))
  (pss_one (ps_ret (pe_cmpR op_eq (pe_cmpR op_gt (pe_callB (cr_sum rfl) (by rfl) T.sum (by decide +kernel) (pa_cons (pe_lc (own := [("_law_row", 7)]) (g := (gName 7)) (tt := tYes) rfl sc__law_left_right.nd (pi_tup (pv 6)) (blkOk_by (own := [("_law_row", 7)]) (N := N__law_left_right) (sc := defScope (top 43)) (by decide +kernel)) (fun _ _ _ _ _ => (pg_name (i := 7) sc__law_left_right.nd rfl (by first | exact Or.inl rfl | exact Or.inr rfl))) (fun _ _ _ _ _ => pts_nil) (fun _ _ _ _ _ => (pe_callB (cr_sumT rfl) (by rfl) T.sum (by decide +kernel) (pa_cons (pv 7) pa_nil)))) pa_nil)) (pe_op op_add (pv 5) pe_int) (nomark _)) (pe_cmpR op_lt (pe_callB (cr_min rfl) (by rfl) T.min (by decide +kernel) (pa_cons (pv 8) pa_nil)) pe_int (nomark _)) (nomark _))))))))))))
end
end Bp

namespace Bp
open PySem PyProof.Rows L2 PySem.Spec
/-! ### data that is shown -/
structure Nice (n w : Nat) (d : PyData) : Prop where
  lay : d.canLay0 = true
  dep : d.depth ≤ n
  wt : d.weight ≤ w
  ish : d.intsShort 13 = true
  shw : d.showable = true
theorem Nice.up {n w n' w' : Nat} {d : PyData} (h : Nice n w d) (hn : n ≤ n') (hw : w ≤ w') : Nice n' w' d := ⟨h.lay, Nat.le_trans h.dep hn, Nat.le_trans h.wt hw, h.ish, h.shw⟩
theorem log_small {i : Int} (h1 : -1000000 ≤ i) (h2 : i ≤ 1000000) : i.natAbs.log2 < 20 := by
  by_cases c : i.natAbs = 0
  · rw [c]
    decide
  · exact (Nat.log2_lt c).mpr (by have : (2 : Nat) ^ 20 = 1048576 := by decide
                                  omega)
theorem Nice.int {i : Int} (h1 : -1000000 ≤ i) (h2 : i ≤ 1000000) : Nice 0 20 (.int i) := by
  have hl := log_small h1 h2
  refine ⟨by simp only [PyData.canLay0], by simp [PyData.depth], ?_, ?_, ?_⟩
  · simp only [PyData.weight]
    split <;> omega
  · simp only [PyData.intsShort, decide_eq_true_eq]
    exact (PyData.shown_int_le2 (by omega) (by omega))
  · simp only [PyData.showable, decide_eq_true_eq]
    omega
theorem nice_strs : ([("apart" : Str), "span"] ++ NM).all (fun z => PyData.canLay0 (.str z) && decide (z.cps.size ≤ 20)) = true := by decide +kernel
theorem Nice.str {z : Str} (h : z ∈ [("apart" : Str), "span"] ++ NM) : Nice 0 20 (.str z) := by
  have q := List.all_eq_true.mp nice_strs z h
  rw [Bool.and_eq_true] at q
  exact ⟨q.1, by simp [PyData.depth], by simpa only [PyData.weight] using of_decide_eq_true q.2, by simp only [PyData.intsShort], by simp only [PyData.showable]⟩
theorem nice_all {n w : Nat} : ∀ {ds : List PyData}, (∀ d ∈ ds, Nice n w d) → PyData.canLayAll0 ds = true ∧ PyData.depthAll ds ≤ n ∧ PyData.weightAll ds ≤ ds.length * (w + 1) ∧ PyData.intsShortAll 13 ds = true ∧ PyData.showableAll ds = true
  | [], _ => ⟨by simp only [PyData.canLayAll0], by simp [PyData.depthAll], by simp [PyData.weightAll], by simp only [PyData.intsShortAll], by simp only [PyData.showableAll]⟩
  | d :: ds, h => by
    obtain ⟨a1, a2, a3, a4, a5⟩ := nice_all (ds := ds) fun x hx => h x (List.mem_cons_of_mem _ hx)
    obtain ⟨b1, b2, b3, b4, b5⟩ := h d List.mem_cons_self
    refine ⟨?_, ?_, ?_, ?_, ?_⟩
    · simp only [PyData.canLayAll0, a1, b1, Bool.and_self]
    · simp only [PyData.depthAll]
      omega
    · simp only [PyData.weightAll, List.length_cons, Nat.succ_mul]
      omega
    · simp only [PyData.intsShortAll, a4, b4, Bool.and_self]
    · simp only [PyData.showableAll, a5, b5, Bool.and_self]
theorem Nice.tup {n w m : Nat} {ds : List PyData} (hl : ds.length ≤ m) (h : ∀ d ∈ ds, Nice n w d) : Nice (n + 1) (m * (w + 1)) (.tuple ds) := by
  obtain ⟨a1, a2, a3, a4, a5⟩ := nice_all h
  refine ⟨by simpa only [PyData.canLay0] using a1, by simp only [PyData.depth]; omega, ?_, by simpa only [PyData.intsShort] using a4, by simpa only [PyData.showable] using a5⟩
  simp only [PyData.weight]
  exact Nat.le_trans a3 (Nat.mul_le_mul_right _ hl)
theorem Nice.shaped {n w : Nat} {d : PyData} (h : Nice n w d) (hn : n ≤ 64) : SeqAt.shaped d = true := by
  unfold SeqAt.shaped
  rw [h.lay, decide_eq_true (Nat.le_trans h.dep hn)]
  rfl
theorem Nice.layable {n w : Nat} {d : PyData} (h : Nice n w d) (hn : n ≤ 64) (hw : w ≤ 1000000) : PyData.layable0 d = true := by
  unfold PyData.layable0
  rw [h.lay, decide_eq_true (Nat.le_trans h.dep hn), decide_eq_true (Nat.le_trans h.wt (Nat.le_trans hw (by decide)))]
  rfl
theorem Nice.shown {n w : Nat} {d : PyData} (h : Nice n w d) (hn : n ≤ 64) (hw : w ≤ 1000000) : d.showable = true ∧ d.hasDict = false ∧ d.depth ≤ 64 ∧ d.shown.length ≤ sizeLine :=
  ⟨h.shw, PyData.hasDict_of_layable (h.layable hn hw), Nat.le_trans h.dep hn, Nat.le_trans (shown_le13 (h.layable hn hw) h.ish) (by rw [sizeLine_eq]; decide)⟩
theorem Nice.eqv {n w : Nat} {d : PyData} (h : Nice n w d) : PyData.eqv d d = true := SeqAt.eqv_refl d h.lay
/-! ### data at addresses -/
section
variable {K : PySem.W.Frag} {H : Hp}
theorem dp_ints : ∀ {ns : List Int}, DpAll K H (ns.map V.int) (ns.map PyData.int)
  | [] => .nil
  | n :: ns => .cons (.int n) dp_ints
theorem dp_nats : ∀ {ns : List Nat}, DpAll K H (ns.map fun n : Nat => V.int n) (ns.map fun n : Nat => PyData.int n)
  | [] => .nil
  | n :: ns => .cons (.int n) dp_nats
theorem dp_strs : ∀ {ns : List Str}, DpAll K H (ns.map V.str) (ns.map PyData.str)
  | [] => .nil
  | n :: ns => .cons (.str n) dp_strs
theorem dp_rows {α : Type} {f : α → List V} {g : α → List PyData} (hfg : ∀ x, DpAll K H (f x) (g x)) : ∀ {xs : List α} {as : List Addr}, Rows H as (xs.map f) → DpAll K H (as.map V.ref) (xs.map fun x => PyData.tuple (g x))
  | [], [], _ => .nil
  | [], a :: as, h => by have := h.len; simp at this
  | x :: xs, [], h => by have := h.len; simp at this
  | x :: xs, a :: as, h => by
    refine .cons (.tup (SqT.of (h.at_ 0 a (f x) rfl rfl)) (hfg x)) (dp_rows hfg ⟨?_, fun i b r hb hr => h.at_ (i + 1) b r (by simpa using hb) (by simpa using hr)⟩)
    have := h.len
    simpa using this
abbrev spanD (s : Span) : List PyData := [.str s.word, .int (s.one : Nat), .int (s.other : Nat), .int s.low, .int s.high]
abbrev gvD (g : Gv) : List PyData := [.int (g.1 : Nat), .int (g.2.1 : Nat), .int g.2.2]
theorem dp_span (s : Span) : DpAll K H s.row (spanD s) := .cons (.str _) (.cons (.int _) (.cons (.int _) (.cons (.int _) (.cons (.int _) .nil))))
theorem dp_gv (g : Gv) : DpAll K H (gvRow g) (gvD g) := .cons (.int _) (.cons (.int _) (.cons (.int _) .nil))
def rowD (works : Nat) (N : Tab) (t : Nat) : List PyData := (List.range works).map fun w => PyData.int (N t w)
def tabD (many works : Nat) (N : Tab) : PyData := .tuple ((List.range many).map fun t => PyData.tuple (rowD works N t))
theorem dp_tabRow (works : Nat) (N : Tab) (t : Nat) : DpAll K H (tabRow works N t) (rowD works N t) := by
  have h : ∀ ws : List Nat, DpAll K H (ws.map fun w => V.int (N t w)) (ws.map fun w => PyData.int (N t w)) := by
    intro ws
    induction ws with
    | nil => exact .nil
    | cons a as ih => exact .cons (.int _) ih
  exact h _
theorem dp_table {many works : Nat} {N : Tab} {a : Addr} (h : TableA H many works N a) : Dp K H (.ref a) (tabD many works N) := by
  obtain ⟨as, h1, h2⟩ := h
  exact .tup (SqT.of h1) (dp_rows (fun t => dp_tabRow works N t) h2)
theorem nice_tab {many works : Nat} {N : Tab} (hm : many ≤ 12) (hw : works ≤ 8) (h0 : ∀ t w, 0 ≤ N t w) (h9 : ∀ t w, N t w ≤ 999) : Nice 2 2028 (tabD many works N) := by
  refine (Nice.tup (n := 1) (w := 168) (m := 12) (by simpa using hm) fun d hd => ?_).up (by decide) (by decide)
  obtain ⟨t, _, rfl⟩ := List.mem_map.mp hd
  refine Nice.tup (n := 0) (w := 20) (m := 8) (by simpa [rowD] using hw) fun d hd => ?_
  obtain ⟨w, _, rfl⟩ := List.mem_map.mp hd
  have := h0 t w
  have := h9 t w
  exact Nice.int (by omega) (by omega)
/-- all that a round of the law is about -/
def allD (I : Inst) (gv : List Gv) : PyData := .tuple [.tuple [.tuple (I.names.map PyData.str), .tuple (I.spans.map fun s => PyData.tuple (spanD s))], .tuple (I.beats.map PyData.int), .tuple (I.wait.map fun n : Nat => PyData.int n), .tuple (gv.map fun g => PyData.tuple (gvD g))]
theorem dp_all {I : Inst} {gv : List Gv} {p pa ba wa ga : Addr} (h : H p = some (.tup [.ref pa, .ref ba, .ref wa, .ref ga])) (hP : PlanA H I pa) (hB : BeatsA H I ba) (hW : WaitA H I wa) (hG : GivenA H gv ga) : Dp K H (.ref p) (allD I gv) := by
  obtain ⟨b, c, h1, h2, as, h3, h4⟩ := hP.ex
  obtain ⟨gs, h5, h6⟩ := hG
  exact .tup (SqT.of h) (.cons (.tup (SqT.of h1) (.cons (.tup (SqT.of h2) dp_strs) (.cons (.tup (SqT.of h3) (dp_rows dp_span h4)) .nil)))
    (.cons (.tup (SqT.of hB) dp_ints) (.cons (.tup (SqT.of hW) dp_nats) (.cons (.tup (SqT.of h5) (dp_rows dp_gv h6)) .nil))))
theorem nice_allD {I : Inst} {gv : List Gv} (hn : ∀ s ∈ I.names, s ∈ NM) (hnl : I.names.length ≤ 8) (hs : ∀ s ∈ I.spans, SpOk I.beats.length s) (hsl : I.spans.length ≤ 24) (hbl : I.beats.length ≤ 8) (hb : ∀ b ∈ I.beats, 0 ≤ b ∧ b < 600) (hw : ∀ s ∈ I.wait, s < I.spans.length) (hwl : I.wait.length ≤ 24)
    (many : Nat) (hm : many ≤ 12) (hg : ∀ g ∈ gv, GvW I.beats.length many g) (hgl : gv.length ≤ 12) : Nice 4 20364 (allD I gv) := by
  refine (Nice.tup (n := 3) (w := 5090) (m := 4) (by show 4 ≤ 4; decide) fun d hd => ?_).up (by decide) (by decide)
  simp only [List.mem_cons, List.not_mem_nil, or_false] at hd
  rcases hd with rfl | rfl | rfl | rfl
  · refine (Nice.tup (n := 2) (w := 2544) (m := 2) (by show 2 ≤ 2; decide) fun d hd => ?_).up (by decide) (by decide)
    simp only [List.mem_cons, List.not_mem_nil, or_false] at hd
    rcases hd with rfl | rfl
    · refine (Nice.tup (n := 0) (w := 20) (m := 8) (by simpa using hnl) fun d hd => ?_).up (by decide) (by decide)
      obtain ⟨z, hz, rfl⟩ := List.mem_map.mp hd
      exact Nice.str (List.mem_append_right _ (hn z hz))
    · refine (Nice.tup (n := 1) (w := 105) (m := 24) (by simpa using hsl) fun d hd => ?_).up (by decide) (by decide)
      obtain ⟨s, hsm, rfl⟩ := List.mem_map.mp hd
      have ok := hs s hsm
      refine Nice.tup (n := 0) (w := 20) (m := 5) (by show 5 ≤ 5; decide) fun d hd => ?_
      have o1 := ok.o
      have o2 := ok.t
      have o3 := ok.l
      have o4 := ok.h
      simp only [List.mem_cons, List.not_mem_nil, or_false] at hd
      rcases hd with rfl | rfl | rfl | rfl | rfl
      · refine Nice.str ?_
        rcases ok.w with e | e <;> rw [e] <;> simp
      · exact Nice.int (by omega) (by omega)
      · exact Nice.int (by omega) (by omega)
      · exact Nice.int (by omega) (by omega)
      · exact Nice.int (by omega) (by omega)
  · refine (Nice.tup (n := 0) (w := 20) (m := 8) (by simpa using hbl) fun d hd => ?_).up (by decide) (by decide)
    obtain ⟨z, hz, rfl⟩ := List.mem_map.mp hd
    have := hb z hz
    exact Nice.int (by omega) (by omega)
  · refine (Nice.tup (n := 0) (w := 20) (m := 24) (by simpa using hwl) fun d hd => ?_).up (by decide) (by decide)
    obtain ⟨z, hz, rfl⟩ := List.mem_map.mp hd
    have := hw z hz
    exact Nice.int (by omega) (by omega)
  · refine (Nice.tup (n := 1) (w := 63) (m := 12) (by simpa using hgl) fun d hd => ?_).up (by decide) (by decide)
    obtain ⟨g, hgm, rfl⟩ := List.mem_map.mp hd
    have ok := hg g hgm
    refine Nice.tup (n := 0) (w := 20) (m := 3) (by show 3 ≤ 3; decide) fun d hd => ?_
    have o1 := ok.w
    have o2 := ok.t
    have o3 := ok.l0
    have o4 := ok.l1
    simp only [List.mem_cons, List.not_mem_nil, or_false] at hd
    rcases hd with rfl | rfl | rfl
    · exact Nice.int (by omega) (by omega)
    · exact Nice.int (by omega) (by omega)
    · exact Nice.int (by omega) (by omega)
end
end Bp

namespace Bp
open PySem PyProof.Rows L2 PySem.Spec
local macro_rules | `(tactic| walk_at "side") => `(tactic| first | assumption | omega | decide)
local macro_rules | `(tactic| walk_at "carry") => `(tactic| first | assumption | (refine Same.get (by assumption) ?_; walk_at "carry"))
local macro_rules | `(tactic| walk_at "tst") => `(tactic| first | exact Same.ts (by assumption) | exact SameX.ts1 (by assumption) (by assumption) (by intro _ z; cases z))
local macro_rules | `(tactic| walk_at "dat") => `(tactic| first | assumption | (with_reducible refine PlanA.mono (by walk_at "tst") ?_; walk_at "dat") | (with_reducible refine BeatsA.mono (by walk_at "tst") ?_; walk_at "dat") | (with_reducible refine WaitA.mono (by walk_at "tst") ?_; walk_at "dat") | (with_reducible refine GivenA.mono (by walk_at "tst") ?_; walk_at "dat") | (with_reducible refine TableA.mono (by walk_at "tst") ?_; walk_at "dat"))
local macro_rules | `(tactic| walk_at "at") => `(tactic| first | exact rfl | assumption | exact at_beat (by assumption) | exact at_tab (by assumption) | exact at_map (by assumption))
local macro_rules | `(tactic| walk_at "go1") => `(tactic| first
  | with_reducible refine rd_seq ?_
  | with_reducible refine rd_asg ?_
  | with_reducible refine rd_ret ?_
  | with_reducible refine rd_drop ?_
  | ((with_reducible refine' rd_var ?x1 ?x2); (case x1 => exact rfl))
  | with_reducible refine rd_c ?_
  | with_reducible refine rd_op ?_
  | with_reducible refine rd_un ?_
  | with_reducible refine rd_name ?_
  | with_reducible refine rd_I0 ?_
  | with_reducible refine rd_gcons ?_
  | with_reducible refine rd_gnil ?_
  | with_reducible refine rd_test ?_
  | with_reducible refine rd_B ?_
  | with_reducible refine rd_bl ?_
  | with_reducible refine rd_anil ?_
  | with_reducible refine rd_acons ?_
  | with_reducible refine rd_tup ?_
  | with_reducible refine rd_lst ?_
  | with_reducible refine rd_sdput ?_
  | with_reducible refine rd_call1 ?_
  | with_reducible refine rd_cb ?_
  | with_reducible refine rd_ifS ?_
  | with_reducible refine rd_next ?_
  | ((with_reducible refine' rd_I ?x1 ?x2); (case x1 => walk_at "side"))
  | ((with_reducible refine' rd_ixT ?x1 ?x2 ?x3); (case x1 => walk_at "carry"); (case x2 => walk_at "at"))
  | ((with_reducible refine' rd_lenT ?x1 ?x2); (case x1 => walk_at "carry"))
  | ((with_reducible refine' rd_lenL ?x1 ?x2); (case x1 => walk_at "carry"))
  | with_reducible refine rd_max2 ?_
  | with_reducible refine rd_isiI ?_
  | with_reducible refine rd_isiB ?_
  | ((with_reducible refine' rd_isiT ?x1 ?x2); (case x1 => walk_at "carry"))
  | with_reducible refine ite_yes ?_
  | with_reducible refine ite_no ?_
  | with_reducible refine ite_nf ?_
  | with_reducible refine ite_nt ?_
  | with_reducible refine rd_andV ?_
  | with_reducible refine rd_orV ?_
  | with_reducible refine rd_notV ?_
  | with_reducible refine rd_and ?_
  | with_reducible refine rd_or ?_
  | with_reducible refine rd_not ?_
  | with_reducible refine rd_eq rfl ?_
  | with_reducible refine rd_ne rfl ?_
  | ((with_reducible refine' rd_gtup ?x1 ?x2 ?x3); (case x1 => walk_at "carry"); (case x2 => exact rfl)))
local macro_rules | `(tactic| walk_at "go") => `(tactic| repeat walk_at "go1")
/-! ### one round of the law -/
structure Rnd (I : Inst) (many : Nat) (gv : List Gv) (H : Hp) (pa ba wa ga : Addr) : Prop where
  ok : I.Ok
  m0 : 0 < many
  hm : many ≤ 12
  gw : ∀ g ∈ gv, GvW I.beats.length many g
  gl : gv.length ≤ 12
  P : PlanA H I pa
  B : BeatsA H I ba
  W : WaitA H I wa
  G : GivenA H gv ga
  nice : Nice 4 20364 (allD I gv)
theorem Rnd.mono {I : Inst} {many : Nat} {gv : List Gv} {H H' : Hp} {pa ba wa ga : Addr} (t : Tst H H') (h : Rnd I many gv H pa ba wa ga) : Rnd I many gv H' pa ba wa ga := ⟨h.ok, h.m0, h.hm, h.gw, h.gl, h.P.mono t, h.B.mono t, h.W.mono t, h.G.mono t, h.nice⟩
theorem Rnd.gv {I : Inst} {many : Nat} {gv : List Gv} {H : Hp} {pa ba wa ga : Addr} (h : Rnd I many gv H pa ba wa ga) : GvOk I many gv := ⟨fun g hg => (h.gw g hg).w, fun g hg => (h.gw g hg).t, fun g hg => (h.gw g hg).l0, fun g hg => (h.gw g hg).l1⟩
theorem least_nice {I : Inst} {many : Nat} {gv : List Gv} {H : Hp} {pa ba wa ga : Addr} {N : Tab} (h : Rnd I many gv H pa ba wa ga) (hL : Least I gv many N) : Nice 2 2028 (tabD many I.beats.length N) :=
  nice_tab h.hm h.ok.w1 hL.fs.nn (hL.max h.ok h.gv)
section
variable {P : Program} {w : World} {K : PySem.W.Frag} {mg : Str → Option Value} {base : Heap} {σ : L2.St} {H : Hp} {D : Ends} {v x y : V} {i j : Nat} {a d l : Addr} {Q : VK} {te tv ti : TE} {m n : Int} {xs ys : List V} {tr : TA}
theorem rd_forL {g : TG} {tb : TS} (h : ti σ H fun x H1 => tFor (iList K (tC x)) g tb D σ H1) : tFor (iList K ti) g tb D σ H := h
theorem rd_lcL {g : TG} {tt : TT} {vs : List Nat} (h : ti σ H fun x H1 => tLc (iList K (tC x)) g tt te vs σ H1 Q) : tLc (iList K ti) g tt te vs σ H Q := h
theorem rd_reprD {pd : PyData} {n w : Nat} (hd : Dp K H (.ref a) pd) (hn : Nice n w pd) (h1 : n ≤ 64) (h2 : w ≤ 1000000) (q : Q (.str pd.shown) H) : rRepr K [.ref a] H Q := by
  obtain ⟨z1, z2, z3, z4⟩ := hn.shown h1 h2
  exact ⟨a, pd, rfl, hd, z1, z2, z3, z4, q⟩
theorem rd_neSame {pd : PyData} {n w : Nat} {b : Addr} (hd : Dp K H (.ref a) pd) (he : Dp K H (.ref b) pd) (hn : Nice n w pd) (h1 : n ≤ 64) (q : Q (.bl false) H) : rNeD K (.ref a) (.ref b) H Q := by
  refine ⟨pd, pd, hd, he, hn.shaped h1, hn.shaped h1, ?_⟩
  rw [hn.eqv]
  exact q
theorem str_same {z : Str} : (!decide (V.str z = V.str z)) = false := by rw [decide_eq_true rfl]; rfl
/-- a comprehension of some of the numbers below n -/
theorem rd_lcW {tt : TT} {n : Nat} {f c : Addr} (h : ∀ Q : VK, Q (.int (n : Nat)) H → te σ H Q) (hn : n ≤ 90000) (hf : Feed H f c) (hw : ∀ x, wipe ((wipe σ [j]).set j (some x)) [j] = wipe σ [j]) (hj : ∀ x, ((wipe σ [j]).set j (some x))[j]? = some (some x))
    (ht : ∀ (i : Nat) H1 (QB : Bool → Hp → Prop), Fx f c H H1 → (∀ b H2, Fx f c H1 H2 → QB b H2) → tt ((wipe σ [j]).set j (some (.int (i : Nat)))) H1 QB)
    (q : ∀ p H1 (ws : List Nat), H p = none → Fx f c H H1 → H1 p = some (.lst (ws.map fun k : Nat => V.int k)) → ws.length ≤ n → (∀ s ∈ ws, s < n) → Q (.ref p) H1) : tLc (iRng1 (tCons te tNil)) (gName j) tt (tVar j) [j] σ H Q := by
  refine h _ ⟨(n : Nat), rfl, by omega, by omega, fun Dl hD => ?_⟩
  refine lc_range (lo := 0) (n := ((n : Nat) : Int).toNat) (fun i H' => Fx f c H H' ∧ ∃ ws : List Nat, H' Dl = some (.lst (ws.map fun k : Nat => V.int k)) ∧ ws.length ≤ i ∧ ∀ s ∈ ws, s < i) ⟨(Fx.of hf (Same.new hD)), [], upd_same, Nat.le_refl _, fun x hx => by cases hx⟩ (fun i H' hi ⟨p1, ws, p2, p3, p4⟩ => ?_) (fun H' ⟨p1, ws, p2, p3, p4⟩ => q Dl H' ws hD p1 p2 (by simpa using p3) (by simpa using p4))
  have e0 : (0 : Int) + (i : Int) = (i : Int) := (Int.zero_add _)
  have hi' : i < n := by simpa using hi
  rw [e0]
  refine ⟨hw _, ht i H' _ p1 fun b H2 x2 => ?_⟩
  refine iteb (fun hb => ?_) (fun hb => ?_)
  · refine rd_var (hj _) ⟨_, x2.lst p2, szl _ (by rw [List.length_map]; omega), Fx.out (p1.trans x2) SameX.upd hD, ws ++ [i], ?_, by rw [List.length_append]; show _ + 1 ≤ _; omega, fun s hs => ?_⟩
    · rw [upd_same, List.map_append]
      rfl
    · rcases List.mem_append.mp hs with hs | hs
      · have := p4 s hs
        omega
      · rw [List.mem_singleton.mp hs]
        omega
  · exact ⟨p1.trans x2, ws, x2.lst p2, by omega, fun s hs => by have := p4 s hs; omega⟩
local macro_rules | `(tactic| walk_at "go1") => `(tactic| first | with_reducible refine rd_par ?_ | with_reducible refine rd_two ?_ | with_reducible refine rd_iR ?_)
local macro_rules | `(tactic| walk_at "dat") => `(tactic| assumption)
abbrev N_law : List Str := ["_law_script", "_law_feed_here", "_law_k", "_law_cycle", "_law_works", "_law_plan_here", "_law_beats_here", "_law_waiting", "_law_s", "_law_many", "_law_given_here", "_law_kept", "_law_legs_here", "_law_table", "_law_others", "_law_at", "_law_paper", "_law_turn", "_law_work", "_law_other"]
theorem sc_law : FnScope N_law ["_law_script"] (defScope (top 44)) := ⟨rfl, rfl, rfl, by decide +kernel, rfl, by decide +kernel, by decide +kernel⟩
def t_law3 (K : PySem.W.Frag) : TS :=
  (tSeq (tAsg (tCall sp_late_paper [] E0 (tCons (tVar 5) (tCons (tVar 3) (tCons (tVar 6) (tCons (tVar 7) (tCons (tVar 10) (tCons (tVar 9) tNil))))))) (gName 16))
  (tSeq (tIfS (tTest (tOp (rNeD K) (tOp (rIxT K) (tVar 16) (tC (.int 0))) (tVar 13))) (tRet (tC (.bl false))) tNext)
  (tSeq (tIfS (tNot (tB (tCall sp__law_is_let_by [] E0 (tCons (tVar 5) (tCons (tVar 3) (tCons (tVar 6) (tCons (tVar 7) (tCons (tVar 10) (tCons (tVar 9) (tCons (tVar 16) tNil)))))))))) (tRet (tC (.bl false))) tNext)
  (tSeq (tPar 17 18 (tCons (tCall sp__law_draw [] E0 (tCons (tVar 1) (tCons (tVar 9) tNil))) (tCons (tCall sp__law_draw [] E0 (tCons (tVar 1) (tCons (tVar 4) tNil))) tNil)))
  (tSeq (tFor (iList K (tCall sp__law_other_tables [] E0 (tCons (tVar 13) (tCons (tVar 17) (tCons (tVar 18) tNil))))) (gName 19) (tIfS (tB (tCall sp__law_is_let_by [] E0 (tCons (tVar 5) (tCons (tVar 3) (tCons (tVar 6) (tCons (tVar 7) (tCons (tVar 10) (tCons (tVar 9) (tCons (tTup (tCons (tVar 19) (tCons (tOp (rIxT K) (tVar 16) (tC (.int 1))) tNil))) tNil))))))))) (tRet (tC (.bl false))) tNext))
  (tIfS (tOr (tNot (tB (tCall sp__law_left_right [] E0 (tCons (tVar 5) (tCons (tVar 3) (tCons (tVar 6) (tCons (tVar 7) (tCons (tVar 18) tNil)))))))) (tTest (tOp rNe (tCB (rRepr K) (tCons (tTup (tCons (tVar 5) (tCons (tVar 6) (tCons (tVar 7) (tCons (tVar 10) tNil))))) tNil)) (tVar 11)))) (tRet (tC (.bl false))) tNext))))))
def t_law2 (K : PySem.W.Frag) : TS :=
  (tSeq (tAsg (tCB (rRepr K) (tCons (tTup (tCons (tVar 5) (tCons (tVar 6) (tCons (tVar 7) (tCons (tVar 10) tNil))))) tNil)) (gName 11))
  (tSeq (tAsg (tCall sp__law_legs [] E0 (tCons (tVar 5) (tCons (tVar 3) (tCons (tVar 6) (tCons (tVar 7) (tCons (tVar 9) tNil)))))) (gName 12))
  (tSeq (tAsg (tCall sp_lateness_of [] E0 (tCons (tVar 5) (tCons (tVar 3) (tCons (tVar 6) (tCons (tVar 7) (tCons (tVar 10) (tCons (tVar 9) tNil))))))) (gName 13))
  (tSeq (tIfS (tTest (tOp rNe (tCB (rRepr K) (tCons (tVar 13) tNil)) (tCB (rRepr K) (tCons (tCall sp__law_least [] E0 (tCons (tVar 12) (tCons (tVar 3) (tCons (tVar 6) (tCons (tVar 10) (tCons (tVar 9) tNil)))))) tNil)))) (tRet (tC (.bl false))) tNext)
  (tSeq (tIfS (tNot (tB (tCall sp__law_table_right [] E0 (tCons (tVar 13) (tCons (tVar 12) (tCons (tVar 3) (tCons (tVar 6) (tCons (tVar 10) tNil)))))))) (tRet (tC (.bl false))) tNext)
  (tSeq (tIfS (tTest (tOp rLtI (tCB (rLenS K) (tCons (tVar 10) tNil)) (tC (.int 12)))) (tSeq (tAsg (tLc (iList K (tCall sp__law_shuffle [] E0 (tCons (tVar 1) (tCons (tCB (rLenS K) (tCons (tVar 10) tNil)) tNil)))) (gName 15) tYes (tOp (rIxT K) (tVar 10) (tVar 15)) [15]) (gName 14))
  (tSeq (tDrop (tBM K "list" rAppend (tVar 14) (tCons (tTup (tCons (tC (.int 0)) (tCons (tC (.int 0)) (tCons (tOp (rIxT K) (tOp (rIxT K) (tVar 13) (tC (.int 0))) (tC (.int 0))) tNil)))) tNil)))
  (tIfS (tTest (tOp (rNeD K) (tCall sp_lateness_of [] E0 (tCons (tVar 5) (tCons (tVar 3) (tCons (tVar 6) (tCons (tVar 7) (tCons (tCB (rTupOf K) (tCons (tVar 14) tNil)) (tCons (tVar 9) tNil))))))) (tVar 13))) (tRet (tC (.bl false))) tNext))) tNext)
  (t_law3 K)))))))
def t_law (K : PySem.W.Frag) : TS :=
  (tSeq (tAsg (tCall (sp__law_feed K) [] E0 (tCons (tVar 0) tNil)) (gName 1))
  (tSeq (tFor (iRng1 (tCons (tC (.int 2)) tNil)) (gName 2) (tSeq (tAsg (tOp (rIxL K) (tLst (tCons (tC (.int 1)) (tCons (tC (.int 2)) (tCons (tC (.int 3)) (tCons (tC (.int 5)) (tCons (tC (.int 7)) (tCons (tC (.int 12)) (tCons (tC (.int 60)) (tCons (tC (.int 600)) (tCons (tOp rAddI (tC (.int 1)) (tCall sp__law_draw [] E0 (tCons (tVar 1) (tCons (tC (.int 60)) tNil)))) (tCons (tC (.int 4)) tNil))))))))))) (tCall sp__law_draw [] E0 (tCons (tVar 1) (tCons (tC (.int 10)) tNil)))) (gName 3))
  (tSeq (tAsg (tOp rAddI (tC (.int 1)) (tCall sp__law_draw [] E0 (tCons (tVar 1) (tCons (tC (.int 8)) tNil)))) (gName 4))
  (tSeq (tAsg (tCall sp__law_plan [] E0 (tCons (tVar 1) (tCons (tVar 4) (tCons (tOp (rIxL K) (tLst (tCons (tC (.int 3)) (tCons (tC (.int 8)) (tCons (tC (.int 24)) tNil)))) (tCall sp__law_draw [] E0 (tCons (tVar 1) (tCons (tC (.int 3)) tNil)))) (tCons (tVar 3) tNil))))) (gName 5))
  (tSeq (tAsg (tCall sp__law_beats [] E0 (tCons (tVar 1) (tCons (tVar 4) (tCons (tVar 3) tNil)))) (gName 6))
  (tSeq (tAsg (tCB (rTupOf K) (tCons (tLc (iRng1 (tCons (tCB (rLenS K) (tCons (tOp (rIxT K) (tVar 5) (tC (.int 1))) tNil)) tNil)) (gName 8) (tTest (tOp rGtI (tCall sp__law_draw [] E0 (tCons (tVar 1) (tCons (tC (.int 4)) tNil))) (tC (.int 0)))) (tVar 8) [8]) tNil)) (gName 7))
  (tSeq (tAsg (tOp rAddI (tC (.int 1)) (tCall sp__law_draw [] E0 (tCons (tVar 1) (tCons (tC (.int 12)) tNil)))) (gName 9))
  (tSeq (tAsg (tCall sp__law_given [] E0 (tCons (tVar 1) (tCons (tVar 4) (tCons (tVar 9) tNil)))) (gName 10))
  (t_law2 K)))))))))
  (tRet (tC (.bl true)))))
/-- what a round hands on -/
def Nxt (a f c : Addr) (D : Ends) : Prop := ∀ x2 x3 x4 x5 x6 x7 x8 x9 x10 x11 x12 x13 x14 x15 x16 x17 x18 x19 H', Feed H' f c → D.nx [some (.ref a), some (.ref f), x2, x3, x4, x5, x6, x7, x8, x9, x10, x11, x12, x13, x14, x15, x16, x17, x18, x19] H'
theorem law_end {I : Inst} {many : Nat} {gv : List Gv} {N : Tab} {f c pa ba wa ga ta : Addr} {x2 x8 x12 x14 x15 x16 x17 x18 x19 : Option V} (R : Rnd I many gv H pa ba wa ga) (hf : Feed H f c) (hT : TableA H many I.beats.length N ta) (hL : Least I gv many N) (hN : Nxt a f c D) :
    t_law3 K D [some (.ref a), some (.ref f), x2, some (.int I.cycle), some (.int (I.beats.length : Nat)), some (.ref pa), some (.ref ba), some (.ref wa), x8, some (.int (many : Nat)), some (.ref ga), some (.str (allD I gv).shown), x12, some (.ref ta), x14, x15, x16, x17, x18, x19] H := by
  have hw1 := R.ok.w1
  have hw0 := R.ok.w0
  have hm0 := R.m0
  have hm := R.hm
  unfold t_law3
  walk_at "go"
  refine ⟨I, many, gv, pa, ba, wa, ga, rfl, R.ok, R.hm, R.gv, R.gl, R.P, R.B, R.W, R.G, fun pp t2 ca cs H1 N2 e1 hpp hT2 hL2 hCs hOk => ?_⟩
  obtain rfl : N2 = N := hL2.unique hL
  have R1 := R.mono e1.ts
  have hT1 := hT.mono e1.ts
  walk_at "go"
  refine rd_neSame (dp_table hT2) (dp_table hT1) (least_nice R hL) (by decide) ?_
  walk_at "go"
  refine ⟨I, many, gv, N2, cs, pa, ba, wa, ga, pp, t2, ca, rfl, R.ok, R.hm, R.gv, R.gl, R1.P, R1.B, R1.W, R1.G, hpp, hT2, hCs, fun _ H2 e2 => ?_, fun z => absurd hOk z⟩
  walk_at "go"
  have x02 := Fx.of hf (e1.trans e2)
  refine use_draw (by omega) (by omega) x02.fd fun r3 H3 x3 a3 b3 => ?_
  walk_at "go"
  refine use_draw (by omega) (by omega) x3.fd fun r4 H4 x4 a4 b4 => ?_
  obtain ⟨tn, rfl⟩ := Int.eq_ofNat_of_zero_le a3
  obtain ⟨wk, rfl⟩ := Int.eq_ofNat_of_zero_le a4
  have htn : tn < many := by omega
  have hwk : wk < I.beats.length := by omega
  walk_at "go"
  refine rd_forL ?_
  walk_at "go"
  have x24 := x3.trans x4
  have t14 : Tst H1 H4 := e2.ts.trans x24.ts
  have hT4 := hT1.mono t14
  refine ⟨many, I.beats.length, N2, tn, wk, ta, rfl, htn, hwk, hw1, R.hm, hT4, fun l5 H5 as5 e5 h5 hall => ?_⟩
  have t15 := t14.trans e5.ts
  have R5 := R1.mono t15
  have hpp5 := t15 _ _ hpp
  have hC5 := hCs.mono t15
  have x05 := (x02.trans x24).same e5
  refine ⟨l5, rfl, ⟨_, SqL.of h5⟩, ?_⟩
  refine for_list (xs := as5.map V.ref) (fun i σ' H' => ∃ x19 : Option V, σ' = [some (.ref a), some (.ref f), x2, some (.int I.cycle), some (.int (I.beats.length : Nat)), some (.ref pa), some (.ref ba), some (.ref wa), x8, some (.int (many : Nat)), some (.ref ga), some (.str (allD I gv).shown), x12, some (.ref ta), x14, x15, some (.ref pp), some (.int (tn : Nat)), some (.int (wk : Nat)), x19] ∧ Same H5 H')
    ⟨_, rfl, Same.refl _⟩ (fun i σ' H' _ ⟨_, _, e⟩ => SqL.of (e _ _ h5)) ?_ ?_
  · rintro i x σ' H' hx ⟨x19, rfl, e⟩
    obtain ⟨oa, hoa, rfl⟩ := get_map hx
    obtain ⟨u, hu, hTu⟩ := hall oa (List.mem_of_getElem? hoa)
    have R6 := R5.mono e.ts
    have hpp6 := e _ _ hpp5
    walk_at "go"
    refine newT (fun q H7 hq e7 h7 => ?_) rfl
    walk_at "go"
    have R7 := R6.mono e7.ts
    have e57 := e.trans e7
    refine ⟨I, many, gv, setT N2 tn wk u, cs, pa, ba, wa, ga, q, oa, ca, rfl, R.ok, R.hm, R.gv, R.gl, R7.P, R7.B, R7.W, R7.G, h7, hTu.mono e57.ts, hC5.mono e57.ts, fun z => ?_, fun _ H8 e8 => ?_⟩
    · exact absurd z (hOk.other htn hwk (fun t w h => setT_other h) (by rw [setT_same]; exact hu))
    · walk_at "go"
      exact ⟨_, rfl, e57.trans e8⟩
  · rintro σ' H' ⟨x19, rfl, e⟩
    have R6 := R5.mono e.ts
    walk_at "go"
    refine ⟨I, pa, ba, wa, wk, rfl, R.ok, hwk, R6.P, R6.B, R6.W, fun H7 e7 => ?_⟩
    walk_at "go"
    refine newT (fun q H8 hq e8 h8 => ?_) rfl
    walk_at "go"
    have R8 := R6.mono (e7.trans e8).ts
    refine rd_reprD (dp_all h8 R8.P R8.B R8.W R8.G) R.nice (by decide) (by decide) ?_
    walk_at "go"
    rw [str_same]
    walk_at "go"
    exact hN _ _ _ _ _ _ _ _ _ _ _ _ _ _ _ _ _ _ _ (((x05.same e).same e7).same e8).fd
theorem law_mid {I : Inst} {many : Nat} {gv : List Gv} {f c pa ba wa ga : Addr} {x2 x8 x11 x12 x13 x14 x15 x16 x17 x18 x19 : Option V} (R : Rnd I many gv H pa ba wa ga) (hf : Feed H f c) (hN : Nxt a f c D) :
    t_law2 K D [some (.ref a), some (.ref f), x2, some (.int I.cycle), some (.int (I.beats.length : Nat)), some (.ref pa), some (.ref ba), some (.ref wa), x8, some (.int (many : Nat)), some (.ref ga), x11, x12, x13, x14, x15, x16, x17, x18, x19] H := by
  have hw1 := R.ok.w1
  have hw0 := R.ok.w0
  have hm0 := R.m0
  have hm := R.hm
  unfold t_law2
  walk_at "go"
  refine newT (fun q H1 hq e1 h1 => ?_) rfl
  walk_at "go"
  have R1 := R.mono e1.ts
  refine rd_reprD (dp_all h1 R1.P R1.B R1.W R1.G) R.nice (by decide) (by decide) ?_
  walk_at "go"
  refine ⟨I, many, pa, ba, wa, rfl, R.ok, R.hm, R1.P, R1.B, R1.W, fun la H2 las ls e2 hla h2 hlr hlo hll => ?_⟩
  walk_at "go"
  have R2 := R1.mono e2.ts
  refine ⟨I, many, gv, pa, ba, wa, ga, rfl, R.ok, R.hm, R.gv, R.gl, R2.P, R2.B, R2.W, R2.G, fun ta H3 N e3 hT hL => ?_⟩
  walk_at "go"
  have R3 := R2.mono e3.ts
  have hnice := least_nice R hL
  refine rd_reprD (dp_table hT) hnice (by decide) (by decide) ?_
  walk_at "go"
  refine ⟨I, many, gv, ls, las, la, ba, ga, rfl, R.ok, R.hm, R.gv, R3.B, e3 _ _ h2, hlr.mono e3.ts, hlo, R3.G, fun tb H4 N2 e4 hT2 hL2 => ?_⟩
  obtain rfl : N = N2 := hL.unique hL2
  walk_at "go"
  refine rd_reprD (dp_table hT2) hnice (by decide) (by decide) ?_
  walk_at "go"
  rw [str_same]
  walk_at "go"
  have R4 := R3.mono e4.ts
  have hT4 := hT.mono e4.ts
  refine ⟨I, many, N, gv, ls, las, ta, la, ba, ga, rfl, R.ok, R.hm, R.gv, R4.B, e4 _ _ (e3 _ _ h2), (hlr.mono e3.ts).mono e4.ts, hlo, hT4, R4.G, hL, fun H5 e5 => ?_⟩
  walk_at "go"
  have R5 := R4.mono e5.ts
  have hT5 := hT4.mono e5.ts
  have x05 := Fx.of hf ((((e1.trans e2).trans e3).trans e4).trans e5)
  obtain ⟨gas, hga, hgr⟩ := id R5.G
  have hgal : gas.length = gv.length := by rw [hgr.len, List.length_map]
  have hgl2 : (gas.map V.ref).length = gv.length := by rw [List.length_map, hgal]
  walk_at "go"
  rw [hgl2]
  refine iteb (fun hb => ?_) (fun hb => ?_)
  · have hlt := of_decide_eq_true hb
    walk_at "go"
    refine rd_lcL ?_
    walk_at "go"
    rw [hgl2]
    refine ⟨f, c, gv.length, rfl, by have := R.gl; omega, x05.fd, fun l6 H6 ord x6 hl6 h6 hol hom => ?_⟩
    have hga6 := x6.tup hga
    refine ⟨l6, rfl, ⟨_, SqL.of h6⟩, fun Dl hD => ?_⟩
    refine lc_list (xs := ord.map fun k : Nat => V.int k) (fun i H' => Same H6 H' ∧ H' Dl = some (.lst (((ord.take i).map fun k : Nat => gas.getD k 0).map V.ref))) ⟨Same.new hD, upd_same⟩ (fun i H' _ ⟨e, _⟩ => SqL.of (e _ _ h6)) ?_ ?_
    · rintro i x H7 hx ⟨e7, h7⟩
      obtain ⟨k, hk, rfl⟩ := get_map hx
      have hkl : k < gv.length := (hom k).mp (List.mem_of_getElem? hk)
      have hke : gas[k]? = some (gas.getD k 0) := by
        rw [List.getD_eq_getElem?_getD, List.getElem?_eq_getElem (by omega)]
        rfl
      have hil : i < ord.length := (List.getElem?_eq_some_iff.mp hk).1
      have hga7 := e7 _ _ hga6
      have hgl := R.gl
      refine ⟨rfl, rd_yes (ite_yes ?_)⟩
      walk_at "go"
      refine ⟨_, h7, szl _ (by rw [List.length_map, List.length_map, List.length_take]; omega), ?_, ?_⟩
      · intro b o hb
        rw [upd_ne (ne_of_none hb hD)]
        exact e7 _ _ hb
      · rw [upd_same, take_snoc hk, List.map_append, List.map_append]
        rfl
    rintro H7 ⟨e7, h7⟩
    rw [List.length_map, List.take_length] at h7
    walk_at "go"
    have x57 := x6.same e7
    have hT7 := hT5.mono x57.ts
    obtain ⟨ras, q0, p1, p2, p3, p4⟩ := hT7.row hm0
    have p3' : atI (ras.map V.ref) (0 : Int) = some (V.ref q0) := p3
    have p5 : atI (tabRow I.beats.length N 0) (0 : Int) = some (V.int (N 0 0)) := at_tab (w := 0) hw0
    have hDl6 : H6 Dl = none := hD
    refine rd_append rfl h7 ?_
    walk_at "go"
    refine newT (fun np H8 hnp e8 h8 => ?_) rfl
    refine rd_app (e8 _ _ h7) (by rw [List.length_map, List.length_map, hol]; have := R.gl; omega) fun H9 e9 h9 => ?_
    have t89 : Tst H8 H9 := e9.ts1 (e8 _ _ h7) (by intro _ z; cases z)
    have x59 : Fx f c H5 H9 := Fx.out (x57.same e8) e9 (x6.free hDl6)
    have e9' : H9 Dl = some (.lst ((((ord.map fun k : Nat => gas.getD k 0)) ++ [np]).map V.ref)) := by
      rw [h9, List.map_append (f := V.ref)]
      rfl
    have h89 := t89 _ _ h8
    have t59 : Tst H5 H9 := x59.ts
    walk_at "go"
    refine rd_tupOf e9' fun gb H10 hgb e10 h10 => ?_
    walk_at "go"
    have t510 := t59.trans e10.ts
    have R10 := R5.mono t510
    have hrows : Rows H10 ((ord.map fun k : Nat => gas.getD k 0) ++ [np]) (((ord.map fun k : Nat => gv.getD k (0, 0, 0)) ++ [((0 : Nat), (0 : Nat), N 0 0)]).map gvRow) := by
      rw [List.map_append]
      refine Rows.snoc ⟨by simp, fun i b r hb hr => ?_⟩ (e10 _ _ h89)
      rw [List.getElem?_map] at hb
      rw [List.map_map, List.getElem?_map] at hr
      cases hk : ord[i]? with
      | none => rw [hk] at hb; cases hb
      | some k =>
        rw [hk] at hb hr
        have hkl : k < gv.length := (hom k).mp (List.mem_of_getElem? hk)
        have hke : gas[k]? = some (gas.getD k 0) := by
          rw [List.getD_eq_getElem?_getD, List.getElem?_eq_getElem (by omega)]
          rfl
        have hve : (gv.map gvRow)[k]? = some (gvRow (gv.getD k (0, 0, 0))) := by
          rw [List.getElem?_map, List.getD_eq_getElem?_getD, List.getElem?_eq_getElem hkl]
          rfl
        have eb : gas.getD k 0 = b := Option.some.inj hb
        have er : gvRow (gv.getD k (0, 0, 0)) = r := Option.some.inj hr
        rw [← eb, ← er]
        exact t510 _ _ (hgr.at_ k _ _ hke hve)
    have hN00 := hL.fs.nn 0 0
    have hN99 := hL.max R.ok R.gv 0 0
    have hin : ∀ g, g ∈ (ord.map fun k : Nat => gv.getD k (0, 0, 0)) ↔ g ∈ gv := by
      intro g
      rw [List.mem_map]
      constructor
      · rintro ⟨k, hk, rfl⟩
        have hkl := (hom k).mp hk
        rw [List.getD_eq_getElem?_getD, List.getElem?_eq_getElem hkl]
        exact List.getElem_mem hkl
      · intro hg
        obtain ⟨k, hkl, hk⟩ := List.mem_iff_getElem.mp hg
        refine ⟨k, (hom k).mpr hkl, ?_⟩
        rw [List.getD_eq_getElem?_getD, List.getElem?_eq_getElem hkl]
        exact hk
    have gvo2 : GvOk I many ((ord.map fun k : Nat => gv.getD k (0, 0, 0)) ++ [((0 : Nat), (0 : Nat), N 0 0)]) := by
      have o := R.gv
      refine ⟨fun g hg => ?_, fun g hg => ?_, fun g hg => ?_, fun g hg => ?_⟩ <;> rcases List.mem_append.mp hg with hg | hg
      · exact o.w g ((hin g).mp hg)
      · rw [List.mem_singleton.mp hg]; exact hw0
      · exact o.t g ((hin g).mp hg)
      · rw [List.mem_singleton.mp hg]; exact hm0
      · exact o.l0 g ((hin g).mp hg)
      · rw [List.mem_singleton.mp hg]; exact hN00
      · exact o.l1 g ((hin g).mp hg)
      · rw [List.mem_singleton.mp hg]; exact hN99
    refine ⟨I, many, _, pa, ba, wa, gb, rfl, R.ok, R.hm, gvo2, by rw [List.length_append, List.length_map, hol]; show _ + 1 ≤ 12; omega, R10.P, R10.B, R10.W, ⟨_, h10, hrows⟩, fun tc H11 N3 e11 hT3 hL3 => ?_⟩
    have eN3 : N3 = N := hL3.unique (hL.regive (fun g hg => by
      rcases List.mem_append.mp hg with hg | hg
      · exact hL.fs.gi g ((hin g).mp hg)
      · rw [List.mem_singleton.mp hg]
        exact Int.le_refl _) fun g hg => List.mem_append_left _ ((hin g).mpr hg))
    subst eN3
    have t511 := t510.trans e11.ts
    walk_at "go"
    refine rd_neSame (dp_table hT3) (dp_table (hT5.mono t511)) hnice (by decide) ?_
    walk_at "go"
    exact law_end (R5.mono t511) ((x59.same e10).same e11).fd (hT5.mono t511) hL hN
  · walk_at "go"
    exact law_end R5 x05.fd hT5 hL hN
def sp_law : Sp := fun vs H Q _ => ∃ (a : Addr) (ns : List Int), vs = [.ref a] ∧ SqL K H a (ns.map V.int) ∧ ns.length ≤ 63 ∧ ∀ H', Q (.bl true) H'
end
end Bp

namespace Bp
open PySem PyProof.Rows L2 PySem.Spec
local macro_rules | `(tactic| walk_at "side") => `(tactic| first | assumption | omega | decide)
local macro_rules | `(tactic| walk_at "carry") => `(tactic| first | assumption | (refine Same.get (by assumption) ?_; walk_at "carry"))
local macro_rules | `(tactic| walk_at "tst") => `(tactic| first | exact Same.ts (by assumption) | exact SameX.ts1 (by assumption) (by assumption) (by intro _ z; cases z))
local macro_rules | `(tactic| walk_at "dat") => `(tactic| first | assumption | (with_reducible refine PlanA.mono (by walk_at "tst") ?_; walk_at "dat") | (with_reducible refine BeatsA.mono (by walk_at "tst") ?_; walk_at "dat") | (with_reducible refine WaitA.mono (by walk_at "tst") ?_; walk_at "dat") | (with_reducible refine GivenA.mono (by walk_at "tst") ?_; walk_at "dat") | (with_reducible refine TableA.mono (by walk_at "tst") ?_; walk_at "dat"))
local macro_rules | `(tactic| walk_at "at") => `(tactic| first | exact rfl | assumption | exact at_beat (by assumption) | exact at_tab (by assumption) | exact at_map (by assumption))
local macro_rules | `(tactic| walk_at "go1") => `(tactic| first
  | with_reducible refine rd_seq ?_
  | with_reducible refine rd_asg ?_
  | with_reducible refine rd_ret ?_
  | with_reducible refine rd_drop ?_
  | ((with_reducible refine' rd_var ?x1 ?x2); (case x1 => exact rfl))
  | with_reducible refine rd_c ?_
  | with_reducible refine rd_op ?_
  | with_reducible refine rd_un ?_
  | with_reducible refine rd_name ?_
  | with_reducible refine rd_I0 ?_
  | with_reducible refine rd_gcons ?_
  | with_reducible refine rd_gnil ?_
  | with_reducible refine rd_test ?_
  | with_reducible refine rd_B ?_
  | with_reducible refine rd_bl ?_
  | with_reducible refine rd_anil ?_
  | with_reducible refine rd_acons ?_
  | with_reducible refine rd_tup ?_
  | with_reducible refine rd_lst ?_
  | with_reducible refine rd_sdput ?_
  | with_reducible refine rd_call1 ?_
  | with_reducible refine rd_cb ?_
  | with_reducible refine rd_ifS ?_
  | with_reducible refine rd_next ?_
  | ((with_reducible refine' rd_I ?x1 ?x2); (case x1 => walk_at "side"))
  | ((with_reducible refine' rd_ixT ?x1 ?x2 ?x3); (case x1 => walk_at "carry"); (case x2 => walk_at "at"))
  | ((with_reducible refine' rd_lenT ?x1 ?x2); (case x1 => walk_at "carry"))
  | ((with_reducible refine' rd_lenL ?x1 ?x2); (case x1 => walk_at "carry"))
  | with_reducible refine rd_max2 ?_
  | with_reducible refine rd_isiI ?_
  | with_reducible refine rd_isiB ?_
  | ((with_reducible refine' rd_isiT ?x1 ?x2); (case x1 => walk_at "carry"))
  | with_reducible refine ite_yes ?_
  | with_reducible refine ite_no ?_
  | with_reducible refine ite_nf ?_
  | with_reducible refine ite_nt ?_
  | with_reducible refine rd_andV ?_
  | with_reducible refine rd_orV ?_
  | with_reducible refine rd_notV ?_
  | with_reducible refine rd_and ?_
  | with_reducible refine rd_or ?_
  | with_reducible refine rd_not ?_
  | with_reducible refine rd_eq rfl ?_
  | with_reducible refine rd_ne rfl ?_
  | ((with_reducible refine' rd_gtup ?x1 ?x2 ?x3); (case x1 => walk_at "carry"); (case x2 => exact rfl)))
local macro_rules | `(tactic| walk_at "go") => `(tactic| repeat walk_at "go1")
section
variable {K : PySem.W.Frag} {P : Program} {w : World} {mg : Str → Option Value} {base : Heap}
local macro_rules | `(tactic| walk_at "go1") => `(tactic| first | with_reducible refine rd_par ?_ | with_reducible refine rd_two ?_ | with_reducible refine rd_iR ?_)
theorem mem_getD {α : Type} {l : List α} {i : Nat} {d : α} (h : i < l.length) : l.getD i d ∈ l := by
  rw [List.getD_eq_getElem?_getD, List.getElem?_eq_getElem h]
  exact List.getElem_mem h
/-- what was drawn is a round's matter -/
theorem rnd_of {I : Inst} {many works : Nat} {gv : List Gv} {H : Hp} {pa ba wa ga b cc : Addr} {cy : Int} (hI : I.cycle = cy) (c0 : 0 < cy) (c1 : cy ≤ 600) (hbl : I.beats.length = works) (w0 : 0 < works) (w8 : works ≤ 8) (hnl : I.names.length = works) (hn : ∀ s ∈ I.names, s ∈ NM)
    (hsl : I.spans.length ≤ 24) (hs : ∀ s ∈ I.spans, SpOk works s) (hb : ∀ x ∈ I.beats, 0 ≤ x ∧ x < cy) (hwl : I.wait.length ≤ I.spans.length) (hw : ∀ s ∈ I.wait, s < I.spans.length) (m0 : 0 < many) (hm : many ≤ 12) (hg : ∀ g ∈ gv, GvW works many g) (hgl : gv.length ≤ 12)
    (h1 : H pa = some (.tup [.ref b, .ref cc])) (h2 : H b = some (.tup (I.names.map V.str))) (h3 : TupsA H cc (I.spans.map Span.row)) (h4 : H ba = some (.tup (I.beats.map V.int))) (h5 : H wa = some (.tup (I.wait.map fun k : Nat => V.int k))) (h6 : GivenA H gv ga) : Rnd I many gv H pa ba wa ga := by
  subst hbl
  subst hI
  have sp : ∀ s, s < I.spans.length → SpOk I.beats.length (I.sp s) := fun s h => hs _ (mem_getD h)
  refine ⟨⟨c0, c1, hnl, w0, w8, fun w h => hb _ (mem_getD h), hsl, fun s h => (sp s h).o, fun s h => (sp s h).t, fun s h => ?_, fun s h => ?_, hw, by omega⟩, m0, hm, hg, hgl, ⟨b, cc, h1, h2, h3⟩, h4, h5, h6, nice_allD hn (by omega) hs hsl w8 (fun x hx => ?_) hw (by omega) many hm hg hgl⟩
  · have := (sp s h).l
    omega
  · have := (sp s h).h
    omega
  · have := hb x hx
    omega
theorem pure_law (vs : List V) (H : Hp) (Q : VK) (E : XK) (h : sp_law (K := K) vs H Q E) : t_law K { nx := fun _ H' => Q .non H', rt := Q } (start N_law vs) H := by
  obtain ⟨a, ns, rfl, ha, hl, hQ⟩ := h
  unfold t_law
  walk_at "go"
  refine ⟨a, ns, rfl, ha, hl, fun f c H1 e1 hf => ?_⟩
  walk_at "go"
  refine rd_forR (n := 2) (fun Q k => by walk_at "go"; exact k) (by decide) (by decide) (fun i σ' H' => Feed H' f c ∧ ∃ x2 x3 x4 x5 x6 x7 x8 x9 x10 x11 x12 x13 x14 x15 x16 x17 x18 x19 : Option V, σ' = [some (.ref a), some (.ref f), x2, x3, x4, x5, x6, x7, x8, x9, x10, x11, x12, x13, x14, x15, x16, x17, x18, x19])
    ⟨hf, _, _, _, _, _, _, _, _, _, _, _, _, _, _, _, _, _, _, rfl⟩ ?_ ?_
  · rintro i σ' H0 hi ⟨hf0, x2, x3, x4, x5, x6, x7, x8, x9, x10, x11, x12, x13, x14, x15, x16, x17, x18, x19, rfl⟩
    walk_at "go"
    refine use_draw (by decide) (by decide) hf0 fun r1 H1 y1 a1 b1 => ?_
    walk_at "go"
    refine newL (fun l2 H2 hl2 e2 h2 => ?_) rfl
    walk_at "go"
    refine use_draw (by decide) (by decide) (y1.fd.same e2) fun r3 H3 y3 a3 b3 => ?_
    refine rd_pick (xs := [1, 2, 3, 5, 7, 12, 60, 600, 1 + r1, 4]) (y3.lst h2) a3 (by show r3 < 10; exact b3) fun cy hcy => ?_
    have hc : 0 < cy ∧ cy ≤ 600 := by
      simp only [List.mem_cons, List.not_mem_nil, or_false] at hcy
      omega
    walk_at "go"
    refine use_draw (by decide) (by decide) y3.fd fun r4 H4 y4 a4 b4 => ?_
    walk_at "go"
    obtain ⟨works, hwk⟩ := Int.eq_ofNat_of_zero_le (show 0 ≤ 1 + r4 by omega)
    rw [hwk]
    have hw0 : 0 < works := by omega
    have hw8 : works ≤ 8 := by omega
    refine newL (fun l5 H5 hl5 e5 h5 => ?_) rfl
    walk_at "go"
    refine use_draw (by decide) (by decide) (y4.fd.same e5) fun r6 H6 y6 a6 b6 => ?_
    refine rd_pick (xs := [3, 8, 24]) (y6.lst h5) a6 (by show r6 < 3; exact b6) fun mo hmo => ?_
    have hmo2 : 0 ≤ mo ∧ mo ≤ 24 := by
      simp only [List.mem_cons, List.not_mem_nil, or_false] at hmo
      omega
    obtain ⟨most, rfl⟩ := Int.eq_ofNat_of_zero_le hmo2.1
    walk_at "go"
    refine ⟨f, c, works, most, cy, rfl, hw0, hw8, by omega, hc.1, hc.2, y6.fd, fun pa H7 b cc ss sps y7 p1 p2 p3 p4 p5 p6 p7 => ?_⟩
    walk_at "go"
    refine ⟨f, c, works, cy, rfl, hw8, hc.1, hc.2, y7.fd, fun ba H8 bs y8 q1 q2 q3 => ?_⟩
    walk_at "go"
    have p18 := y8.tup p1
    obtain ⟨sas, s1, s2⟩ := id p5
    have s18 := y8.tup s1
    have hsal : (sas.map V.ref).length = sps.length := by rw [List.length_map, s2.len, List.length_map]
    refine rd_lcW (n := sps.length) (fun Q k => by
      walk_at "go"
      rw [hsal]
      exact k) (by omega) y8.fd (fun x => rfl) (fun x => rfl) (fun i H9 QB y9 k => ?_) fun wl H9 ws hwl y9 h9 hwl2 hwm => ?_
    · walk_at "go"
      refine use_draw (by decide) (by decide) y9.fd fun r H10 y10 _ _ => ?_
      walk_at "go"
      exact k _ _ y10
    walk_at "go"
    refine rd_tupOf h9 fun wa H10 hwa e10 h10 => ?_
    walk_at "go"
    have y10 := y9.same e10
    refine use_draw (by decide) (by decide) y10.fd fun r11 H11 y11 a11 b11 => ?_
    walk_at "go"
    obtain ⟨many, hmn⟩ := Int.eq_ofNat_of_zero_le (show 0 ≤ 1 + r11 by omega)
    rw [hmn]
    have hm0 : 0 < many := by omega
    have hm12 : many ≤ 12 := by omega
    refine ⟨f, c, works, many, rfl, hw0, hw8, hm0, hm12, y11.fd, fun ga H12 gv y12 g1 g2 g3 => ?_⟩
    walk_at "go"
    obtain ⟨I, i1, i2, i3, i4, i5⟩ : ∃ I : Inst, I.names = ss ∧ I.spans = sps ∧ I.cycle = cy ∧ I.beats = bs ∧ I.wait = ws := ⟨⟨ss, sps, cy, bs, ws⟩, rfl, rfl, rfl, rfl, rfl⟩
    subst i1
    subst i2
    subst i3
    subst i4
    subst i5
    subst q2
    have t812 := (y10.trans y11).trans y12
    have R : Rnd I many gv H12 pa ba wa ga := rnd_of rfl hc.1 hc.2 rfl hw0 hw8 p3 p4 p6 p7 q3 hwl2 hwm hm0 hm12 g3 g2 (t812.tup p18) ((y8.trans t812).tup p2) (p5.mono (y8.trans t812).ts) (t812.tup q1) ((y11.trans y12).tup h10) g1
    exact law_mid R y12.fd fun x2 x3 x4 x5 x6 x7 x8 x9 x10 x11 x12 x13 x14 x15 x16 x17 x18 x19 H' hf' => ⟨hf', _, _, _, _, _, _, _, _, _, _, _, _, _, _, _, _, _, _, rfl⟩
  · rintro σ' H2 ⟨hf2, x2, x3, x4, x5, x6, x7, x8, x9, x10, x11, x12, x13, x14, x15, x16, x17, x18, x19, rfl⟩
    walk_at "go"
    exact hQ H2
end
end Bp

/-! the law is entered, with no object being shown (what repr asks) -/
namespace Bp
open PySem PyProof.Rows L2 PySem.Spec
section
variable {P : Program} {w : World} {K : PySem.W.Frag} {mg mb : Str → Option Value} {base : Heap}
theorem body_law (T : Txt K mg) {cdv : Value} {A : Around} {outer : List Env} {s : Shared} {H : Hp} {E : XK} (hg : A.guards = some []) (hr : Room 6 (A.deeper (envOfC "law" (defScope (top 44)) s.heap.objs.size (He.ga K "law") cdv))) :
    PSs (cxOf CX0 P w K mg base N_law "law" (defScope (top 44)) (He.ga K "law") cdv A outer s H E) (defBody (top 44)) (t_law K) := by
  have C__law_feed := ok__law_feed (P := P) (w := w) (base := base) T
  have C__law_draw := ok__law_draw (P := P) (w := w) (base := base) T
  have C__law_plan := ok__law_plan (P := P) (w := w) (base := base) T
  have C__law_beats := ok__law_beats (P := P) (w := w) (base := base) T
  have C__law_given := ok__law_given (P := P) (w := w) (base := base) T
  have C__law_legs := ok__law_legs (P := P) (w := w) (base := base) T
  have C__law_least := ok__law_least (P := P) (w := w) (base := base) T
  have C__law_table_right := ok__law_table_right (P := P) (w := w) (base := base) T
  have C__law_shuffle := ok__law_shuffle (P := P) (w := w) (base := base) T
  have C__law_is_let_by := ok__law_is_let_by (P := P) (w := w) (base := base) T
  have C__law_other_tables := ok__law_other_tables (P := P) (w := w) (base := base) T
  have C__law_left_right := ok__law_left_right (P := P) (w := w) (base := base) T
  have C_lateness_of := ok_lateness_of (P := P) (w := w) (base := base) T
  have C_late_paper := ok_late_paper (P := P) (w := w) (base := base) T
  refine PSs.nox ?_
  exact (pss_cons (ps_set (i := 1) sc_law.nd rfl (by first | exact Or.inl rfl | exact Or.inr rfl) (pe_cal C__law_feed (hr.mono (by decide)) pass0 (pa_cons (pv 0) pa_nil)))
  (pss_cons (ps_for PassesOwn.never rfl (pi_range1 rfl T.range (pa_cons pe_int pa_nil)) (pg_name (i := 2) sc_law.nd rfl (by first | exact Or.inl rfl | exact Or.inr rfl)) (pss_cons (ps_set (i := 3) sc_law.nd rfl (by first | exact Or.inl rfl | exact Or.inr rfl) (pe_ix ix_list (pe_lst (pa_cons pe_int (pa_cons pe_int (pa_cons pe_int (pa_cons pe_int (pa_cons pe_int (pa_cons pe_int (pa_cons pe_int (pa_cons pe_int (pa_cons (pe_op op_add pe_int (pe_cal C__law_draw (hr.mono (by decide)) pass0 (pa_cons (pv 1) (pa_cons pe_int pa_nil)))) (pa_cons pe_int pa_nil))))))))))) (pe_cal C__law_draw (hr.mono (by decide)) pass0 (pa_cons (pv 1) (pa_cons pe_int pa_nil))) (fun _ _ => rfl)))
  (pss_cons (ps_set (i := 4) sc_law.nd rfl (by first | exact Or.inl rfl | exact Or.inr rfl) (pe_op op_add pe_int (pe_cal C__law_draw (hr.mono (by decide)) pass0 (pa_cons (pv 1) (pa_cons pe_int pa_nil)))))
  (pss_cons (ps_set (i := 5) sc_law.nd rfl (by first | exact Or.inl rfl | exact Or.inr rfl) (pe_cal C__law_plan (hr.mono (by decide)) pass0 (pa_cons (pv 1) (pa_cons (pv 4) (pa_cons (pe_ix ix_list (pe_lst (pa_cons pe_int (pa_cons pe_int (pa_cons pe_int pa_nil)))) (pe_cal C__law_draw (hr.mono (by decide)) pass0 (pa_cons (pv 1) (pa_cons pe_int pa_nil))) (fun _ _ => rfl)) (pa_cons (pv 3) pa_nil))))))
  (pss_cons (ps_set (i := 6) sc_law.nd rfl (by first | exact Or.inl rfl | exact Or.inr rfl) (pe_cal C__law_beats (hr.mono (by decide)) pass0 (pa_cons (pv 1) (pa_cons (pv 4) (pa_cons (pv 3) pa_nil)))))
  (pss_cons (ps_set (i := 7) sc_law.nd rfl (by first | exact Or.inl rfl | exact Or.inr rfl) (pe_callTy call_tuple_of (by rfl) T.tuple (by decide +kernel) (pa_cons (pe_lc (own := [("_law_s", 8)]) (g := (gName 8)) (tt := (tTest (tOp rGtI (tCall sp__law_draw [] E0 (tCons (tVar 1) (tCons (tC (.int 4)) tNil))) (tC (.int 0))))) rfl sc_law.nd (pi_range1 rfl T.range (pa_cons (pe_callB call_len_seq (by rfl) T.len PySem.boot_len (pa_cons (pe_ix ix_tup (pv 5) pe_int (fun _ _ => rfl)) pa_nil)) pa_nil)) (blkOk_by (own := [("_law_s", 8)]) (N := N_law) (sc := defScope (top 44)) (by decide +kernel)) (fun _ _ _ _ _ => (pg_name (i := 8) sc_law.nd rfl (by first | exact Or.inl rfl | exact Or.inr rfl))) (fun _ _ _ _ _ => pts_one (pt_cmpR op_gt (pe_cal C__law_draw (hr.mono (by decide)) pass0 (pa_cons (pv 1) (pa_cons pe_int pa_nil))) pe_int (nomark _))) (fun _ _ _ _ _ => (pv 8))) pa_nil)))
  (pss_cons (ps_set (i := 9) sc_law.nd rfl (by first | exact Or.inl rfl | exact Or.inr rfl) (pe_op op_add pe_int (pe_cal C__law_draw (hr.mono (by decide)) pass0 (pa_cons (pv 1) (pa_cons pe_int pa_nil)))))
  (pss_cons (ps_set (i := 10) sc_law.nd rfl (by first | exact Or.inl rfl | exact Or.inr rfl) (pe_cal C__law_given (hr.mono (by decide)) pass0 (pa_cons (pv 1) (pa_cons (pv 4) (pa_cons (pv 9) pa_nil)))))
  (pss_cons (ps_set (i := 11) sc_law.nd rfl (by first | exact Or.inl rfl | exact Or.inr rfl) (pe_callB (cr_repr (by exact hg) (hu200 hr)) (by rfl) T.repr (by decide +kernel) (pa_cons (pe_tup (pa_cons (pv 5) (pa_cons (pv 6) (pa_cons (pv 7) (pa_cons (pv 10) pa_nil))))) pa_nil)))
  (pss_cons (ps_set (i := 12) sc_law.nd rfl (by first | exact Or.inl rfl | exact Or.inr rfl) (pe_cal C__law_legs (hr.mono (by decide)) pass0 (pa_cons (pv 5) (pa_cons (pv 3) (pa_cons (pv 6) (pa_cons (pv 7) (pa_cons (pv 9) pa_nil)))))))
  (pss_cons (ps_set (i := 13) sc_law.nd rfl (by first | exact Or.inl rfl | exact Or.inr rfl) (pe_cal C_lateness_of (hr.mono (by decide)) pass0 (pa_cons (pv 5) (pa_cons (pv 3) (pa_cons (pv 6) (pa_cons (pv 7) (pa_cons (pv 10) (pa_cons (pv 9) pa_nil))))))))
  (pss_cons (ps_if (pt_cmpR op_ne (pe_callB (cr_repr (by exact hg) (hu200 hr)) (by rfl) T.repr (by decide +kernel) (pa_cons (pv 13) pa_nil)) (pe_callB (cr_repr (by exact hg) (hu200 hr)) (by rfl) T.repr (by decide +kernel) (pa_cons (pe_cal C__law_least (hr.mono (by decide)) pass0 (pa_cons (pv 12) (pa_cons (pv 3) (pa_cons (pv 6) (pa_cons (pv 10) (pa_cons (pv 9) pa_nil)))))) pa_nil)) (nomark _)) (pss_one (ps_ret pe_bl)) pss_nil)
  (pss_cons (ps_if (pt_not (pt_val (pe_cal C__law_table_right (hr.mono (by decide)) pass0 (pa_cons (pv 13) (pa_cons (pv 12) (pa_cons (pv 3) (pa_cons (pv 6) (pa_cons (pv 10) pa_nil)))))))) (pss_one (ps_ret pe_bl)) pss_nil)
  (pss_cons (ps_if (pt_cmpR op_lt (pe_callB call_len_seq (by rfl) T.len PySem.boot_len (pa_cons (pv 10) pa_nil)) pe_int (nomark _)) (pss_cons (ps_setLc (i := 14) (own := [("_law_at", 15)]) (g := (gName 15)) (tt := tYes) rfl sc_law.nd rfl rfl (sw_true rfl rfl rfl (by decide +kernel)) (pi_list (pe_cal C__law_shuffle (hr.mono (by decide)) pass0 (pa_cons (pv 1) (pa_cons (pe_callB call_len_seq (by rfl) T.len PySem.boot_len (pa_cons (pv 10) pa_nil)) pa_nil)))) (blkOk_by (own := [("_law_at", 15)]) (N := N_law) (sc := defScope (top 44)) (by decide +kernel)) (fun _ _ _ _ _ => (pg_name (i := 15) sc_law.nd rfl (by first | exact Or.inl rfl | exact Or.inr rfl))) (fun _ _ _ _ _ => pts_nil) (fun _ _ _ _ _ => (pe_ix ix_tup (pv 10) (pv 15) (fun _ _ => rfl))))
  (pss_cons (ps_expr (pe_bm PySem.F.plainAttrs_list PySem.F.slot_list_append PySem.F.type_list_append mt_append (pv 14) (pa_cons (pe_tup (pa_cons pe_int (pa_cons pe_int (pa_cons (pe_ix ix_tup (pe_ix ix_tup (pv 13) pe_int (fun _ _ => rfl)) pe_int (fun _ _ => rfl)) pa_nil)))) pa_nil)))
  (pss_one (ps_if (pt_cmpR (op_neD hr.units) (pe_cal C_lateness_of (hr.mono (by decide)) pass0 (pa_cons (pv 5) (pa_cons (pv 3) (pa_cons (pv 6) (pa_cons (pv 7) (pa_cons (pe_callTy call_tuple_of (by rfl) T.tuple (by decide +kernel) (pa_cons (pv 14) pa_nil)) (pa_cons (pv 9) pa_nil))))))) (pv 13) (nomark _)) (pss_one (ps_ret pe_bl)) pss_nil)))) pss_nil)
  (pss_cons (ps_set (i := 16) sc_law.nd rfl (by first | exact Or.inl rfl | exact Or.inr rfl) (pe_cal C_late_paper (hr.mono (by decide)) pass0 (pa_cons (pv 5) (pa_cons (pv 3) (pa_cons (pv 6) (pa_cons (pv 7) (pa_cons (pv 10) (pa_cons (pv 9) pa_nil))))))))
  (pss_cons (ps_if (pt_cmpR (op_neD hr.units) (pe_ix ix_tup (pv 16) pe_int (fun _ _ => rfl)) (pv 13) (nomark _)) (pss_one (ps_ret pe_bl)) pss_nil)
  (pss_cons (ps_if (pt_not (pt_val (pe_cal C__law_is_let_by (hr.mono (by decide)) pass0 (pa_cons (pv 5) (pa_cons (pv 3) (pa_cons (pv 6) (pa_cons (pv 7) (pa_cons (pv 10) (pa_cons (pv 9) (pa_cons (pv 16) pa_nil)))))))))) (pss_one (ps_ret pe_bl)) pss_nil)
  (pss_cons (ps_par (by rfl) sc_law.nd rfl rfl (by decide) rfl rfl (pa_cons (pe_cal C__law_draw (hr.mono (by decide)) pass0 (pa_cons (pv 1) (pa_cons (pv 9) pa_nil))) (pa_cons (pe_cal C__law_draw (hr.mono (by decide)) pass0 (pa_cons (pv 1) (pa_cons (pv 4) pa_nil))) pa_nil)) (by rfl))
  (pss_cons (ps_for PassesOwn.never rfl (pi_list (pe_cal C__law_other_tables (hr.mono (by decide)) pass0 (pa_cons (pv 13) (pa_cons (pv 17) (pa_cons (pv 18) pa_nil))))) (pg_name (i := 19) sc_law.nd rfl (by first | exact Or.inl rfl | exact Or.inr rfl)) (pss_one (ps_if (pt_val (pe_cal C__law_is_let_by (hr.mono (by decide)) pass0 (pa_cons (pv 5) (pa_cons (pv 3) (pa_cons (pv 6) (pa_cons (pv 7) (pa_cons (pv 10) (pa_cons (pv 9) (pa_cons (pe_tup (pa_cons (pv 19) (pa_cons (pe_ix ix_tup (pv 16) pe_int (fun _ _ => rfl)) pa_nil))) pa_nil))))))))) (pss_one (ps_ret pe_bl)) pss_nil)))
  (pss_one (ps_if (PW.pt (pw_or (pt_not (pt_val (pe_cal C__law_left_right (hr.mono (by decide)) pass0 (pa_cons (pv 5) (pa_cons (pv 3) (pa_cons (pv 6) (pa_cons (pv 7) (pa_cons (pv 18) pa_nil)))))))) (pw_or1 (pt_cmpR op_ne (pe_callB (cr_repr (by exact hg) (hu200 hr)) (by rfl) T.repr (by decide +kernel) (pa_cons (pe_tup (pa_cons (pv 5) (pa_cons (pv 6) (pa_cons (pv 7) (pa_cons (pv 10) pa_nil))))) pa_nil)) (pv 11) (nomark _))))) (pss_one (ps_ret pe_bl)) pss_nil)))))))))))))))))))))
  (pss_one (ps_ret pe_bl))))
theorem law_enter (T : Txt K mg) : ∃ fd : FuncData, (∀ (st : Shared) (u : Value), BindsTo st fd ⟨[u], []⟩ [("_law_script", u)]) ∧
    ∀ (base : Heap) (st : Shared) (H : Hp) (q : Args) (us : List Value) (vs : List V) (Q : VK) (E : XK), Env0 P w K mg base callerA [] st H → BindsTo st fd q ((["_law_script"] : List Str).zip us) → Vals vs us → sp_law (K := K) vs H Q E →
      codeAny (model P w) callerA (.call (.ref (He.ga K "law")) q) (CR CX0 [] P w H st Q E) st := by
  obtain ⟨fd, F⟩ := T.says.def_ (d := dd "law" 44) (List.mem_of_getElem? (i := 36) rfl)
  have bnd := FunD.bindsA (ps := ["_law_script"]) F fun _ _ _ _ _ _ us hl => match us, hl with | [_], _ => rfl
  refine ⟨fd, fun st u => bnd st [u] rfl, ?_⟩
  obtain ⟨oc, od, dV, kV, doc, pm, an, cdv, ct, osl, efd, lk, hcd, _, _⟩ := F.ex
  subst efd
  intro base st H q us vs Q E env0 hbnd rel hsp
  have vlen : vs.length = 1 := by
    obtain ⟨_, _, rfl, _⟩ := hsp
    rfl
  have kin : K.In st.heap := env0.mod.kin.keeps fun x o z => (env0.bs x o z).1
  have nol : st.heap.NoLimit := env0.mod.nolimit.keeps fun x o z => (env0.bs x o z).1
  have rm : Room 7 callerA := ⟨rfl, by decide, by decide⟩
  have kinds : ∀ p ∈ (["_law_script"] : List Str).zip us, (defScope (top 44)).names.lookup p.1 = some .local ∨ ((defScope (top 44)).names.lookup p.1 = some .cell ∧ ((cellsFrom (st.heap.objs.size + 1) (defScope (top 44)).names []).lookup p.1).isSome = true) := by
    rintro ⟨x, u⟩ hx
    rcases sc_law.par x (List.of_mem_zip hx).1 with z | z
    · exact Or.inl z
    · exact Or.inr ⟨z, PySem.W.cellsFrom_some _ _ _ (Or.inl z)⟩
  refine codeAny_call_function rm.depth (kin _ _ lk) rfl sc_law.co sc_law.gen rfl (PySem.W.codeRec_of kin hcd) (hbnd _ _ _ _ ?_)
  refine wpAny_newFunctionEnv_cells sc_law.kind kinds fun en hen st1 call => ?_
  subst hen
  refine ⟨nol.keeps call.toInCall.keep, codeAny_func ?_⟩
  have begun : Inv (cxOf CX0 P w K mg base N_law "law" (defScope (top 44)) (He.ga K "law") cdv callerA [] st H E) [] (start N_law vs) H st1 := inv_start sc_law rfl env0 vlen rel call
  refine wpAny_mono ((body_law T rfl (rm.deeper _)).run [] st1 (start N_law vs) H _ begun (pure_law vs H Q E hsp)) (fun way st2 z => ?_) fun _ _ z => z
  have ends : ∀ {σ2 : L2.St} {H2 : Hp} {r : V} {u : Value}, Inv (cxOf CX0 P w K mg base N_law "law" (defScope (top 44)) (He.ga K "law") cdv callerA [] st H E) [] σ2 H2 st2 → RelV r u → Q r H2 → CE [] P w H st Q u st2 := by
    intro σ2 H2 r u J rr qq
    exact ⟨r, H2, J.os, J.bare, J.base, J.hok, rr, qq⟩
  cases way with
  | next =>
    obtain ⟨_, _, J, qq⟩ := z
    exact ends (r := V.non) (u := Value.none) J rfl qq
  | ret u =>
    obtain ⟨_, _, _, J, rr, qq⟩ := z
    exact ends J rr qq
  | cont =>
    obtain ⟨_, _, _, qq⟩ := z
    cases qq
  | brk =>
    obtain ⟨_, _, _, qq⟩ := z
    cases qq
/-- at the heap behind the top the law says True -/
theorem law_ran {a : Addr} {st : Shared} {vs : List Value} {ns : List Int} (T : Txt K mg) (KX : K.In st.heap) (hM : st.heap.Ns mainGlobals mg) (hB : st.heap.Ns builtinsNs mb) (hBB : ∀ x : Str, x ≠ "__name__" → mb x = bootBuiltins x) (hL : st.heap.NoLimit) (hG : st.gens = #[])
    (hA : st.heap.get? a = some { cls := .type "list", data := .seq vs.toArray }) (hI : IntsAre vs ns) (hN : ns.length ≤ 63) :
    codeAny (model P w) callerA (.call (.ref (He.ga K "law")) ⟨[.ref a], []⟩) (fun r st' => r = .ok (.ret (.bool true)) ∧ OldK st.heap st'.heap ∧ st'.os = st.os ∧ AllBare st'.gens) st := by
  obtain ⟨fd, bnd, go⟩ := law_enter (P := P) (w := w) T
  have rel := vals_ints hI
  have width := hI.length
  have fits : ns.length ≤ sizeLine := sz _ (by omega)
  have main : ∀ H : Hp, Only H → SqL K H a (ns.map V.int) → HOk P w H st.heap → (∀ x, H x ≠ none → x = a) → (H a ≠ none → K.lookup a = none) →
      codeAny (model P w) callerA (.call (.ref (He.ga K "law")) ⟨[.ref a], []⟩) (fun r st' => r = .ok (.ret (.bool true)) ∧ OldK st.heap st'.heap ∧ st'.os = st.os ∧ AllBare st'.gens) st := by
    intro H only seen okH alone notK
    have stays : ∀ {x : Addr} {o : Obj} {es : Array DictEntry} {ep : Nat}, st.heap.get? x = some o → o.data = .dict es ep → (hidT st.heap H).get? x = some o := by
      intro x o es ep e hd
      refine hidT_get e ?_
      by_cases c : H x = none
      · exact c
      · rw [alone x c, hA] at e
        cases e
        exact absurd hd (fun z => by cases z)
    have spaces : ∀ {x : Addr} {m : Str → Option Value}, st.heap.Ns x m → (hidT st.heap H).Ns x m := by
      rintro x m ⟨o, es, ep, e, hd, r⟩
      exact ⟨o, es, ep, stays e hd, hd, r⟩
    have inK : K.In (hidT st.heap H) := by
      intro x o e
      refine hidT_get (KX x o e) ?_
      by_cases c : H x = none
      · exact c
      · have ex := alone x c
        rw [ex] at c e
        rw [notK c] at e
        cases e
    obtain ⟨ml, l1, l2⟩ := hL
    have md : Mod K mg (hidT st.heap H) := ⟨inK, spaces hM, ⟨mb, spaces hB, hBB⟩, ⟨ml, spaces l1, l2⟩⟩
    have none0 : ∀ x : Addr, x ∉ ([] : List Addr) := fun x => by simp
    have env0 : Env0 P w K mg (hidT st.heap H) callerA [] st H := ⟨rfl, md, fun x o e => of_hidT e, Nat.le_of_eq (hidT_size _ _), trivial, fun x hx => absurd hx (none0 x), okH, .of_eq hG⟩
    refine codeAny_mono (go _ st H ⟨[.ref a], []⟩ [.ref a] [.ref a] (fun v _ => v = .bl true) (fun _ _ _ => False) env0 (bnd st (.ref a)) (.cons rfl .nil) ⟨a, ns, rfl, seen, hN, fun _ => rfl⟩) fun r st' z => ?_
    cases r with
    | error e => exact (show False from z).elim
    | ok way =>
      cases way with
      | brk => exact (show False from z).elim
      | cont => exact (show False from z).elim
      | next => exact (show False from z).elim
      | ret u =>
        obtain ⟨v, H2, os, bare, un, ok2, rr, ev⟩ := z
        have ev2 : v = .bl true := ev
        rw [ev2] at rr
        have eu : u = Value.bool true := rr
        rw [eu]
        refine ⟨rfl, OldK.of_keep fun x o e => ?_, os, bare⟩
        by_cases c : H x = none
        · exact un.keep x o e c (none0 x) (none0 x)
        · rcases only x with z | ⟨ob, xs, z⟩
          · exact absurd z c
          · obtain ⟨f1, _⟩ := okH x _ z
            obtain ⟨f2, _⟩ := ok2 x _ (un.frzs x ob _ z)
            rw [← e, f1]
            exact f2
  by_cases c : ∃ o, K.lookup a = some o
  · obtain ⟨o, hk⟩ := c
    have e := (KX a o hk).symm.trans hA
    cases e
    refine main (fun _ => none) (fun _ => Or.inl rfl) (Or.inr ⟨_, vs.toArray, _, hk, rfl, rfl, rfl, ?_, ?_⟩) (fun x u z => by cases z) (fun x z => absurd rfl z) fun z => absurd rfl z
    · rw [List.size_toArray, width]
      exact fits
    · simpa using rel
  · have hk : K.lookup a = none := by
      cases q : K.lookup a with
      | none => rfl
      | some o => exact absurd ⟨o, q⟩ c
    have at_a : ∀ (x : Addr) (u : HO), (if x = a then some (HO.frz { cls := .type "list", data := .seq vs.toArray } (.lst (ns.map V.int))) else none) = some u → x = a ∧ u = .frz { cls := .type "list", data := .seq vs.toArray } (.lst (ns.map V.int)) := by
      intro x u z
      by_cases e : x = a
      · rw [if_pos e] at z
        exact ⟨e, (Option.some.inj z).symm⟩
      · rw [if_neg e] at z
        cases z
    refine main (fun x => if x = a then some (HO.frz { cls := .type "list", data := .seq vs.toArray } (.lst (ns.map V.int))) else none) (fun x => ?_) (Or.inl (Or.inr ⟨_, if_pos rfl⟩)) (fun x u z => ?_) (fun x z => ?_) fun _ => hk
    · by_cases e : x = a
      · exact Or.inr ⟨_, _, if_pos e⟩
      · exact Or.inl (if_neg e)
    · obtain ⟨ex, eu⟩ := at_a x u z
      rw [ex, eu]
      exact ⟨hA, by rw [List.length_map]; exact fits, vs, _, rel, hA⟩
    · by_cases e : x = a
      · exact e
      · exact absurd (if_neg e) z
end
end Bp

/-! the statement -/
namespace Bp
open PySem PyProof.Rows L2 PySem.Spec
abbrev LW : PySem.W.OpenLaw := PySem.Challenge.rw_beatplans_k96_whole_late_and_why
theorem at_end {XP : (Str → Option Value) → Heap → Prop} : PySem.W.WalkO (PySem.W.view R.prog [44]) loose XP hk.says LW.row.toRowW (HandSHeadRun.topDef R.prog 44) [] (fun f vs => PySem.call f vs) := by
  refine Att.attach_call (l := LW) (n := 63) rfl (by kernel_rfl) fun w s₀ st mg mb fl o pm cd doc a vs ns G Y ho hd hcd hmg hobj hints hlen hgens => ?_
  obtain ⟨K, KX, says⟩ := Y
  have T : Txt K mg := Txt.of KX G.T.g says
  have named : mg ("law" : Str) = some (.ref fl) := by
    have e : (HandSHeadRun.topDef R.prog 44).name = ("law" : Str) := by kernel_rfl
    rw [← e]
    exact hmg
  have same : fl = He.ga K "law" := by
    have e := named.symm.trans (T.glo "law" (in_fa 35 rfl))
    injection e with e
    injection e
  rw [same]
  exact law_ran T KX G.T.g G.T.b G.T.builtins G.T.nolimit hgens hobj hints hlen
end Bp
open PySem PySem.W PySem.Calls PyProof.Rows in
theorem PySem.Challenge.cw_beatplans_k96_whole_late_and_why_holds : PySem.Challenge.rw_beatplans_k96_whole_late_and_why.Holds := by
  w_on; o_law
  refine HandSHeadRun.head_any (r := Bp.R) (q := view Bp.R.prog [44]) (H := Bp.hk) (ob := Bp.ob) (M := 4000) (loose := Bp.loose) (d := HandSHeadRun.topDef Bp.R.prog 44) (kwd := []) Bp.ob_eq
    (by kernel_rfl) (fun s => by kernel_rfl) Bp.run (by kernel_rfl) (by kernel_rfl) (by kernel_rfl) (by rfl) (by first | assumption | decide +kernel) (by decide +kernel) ⟨rfl, rfl, rfl, rfl, rfl, by decide +kernel⟩ ?hw ?hc
  case hw => w_witness2
  case hc => exact Bp.at_end

