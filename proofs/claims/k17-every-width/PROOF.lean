import PyProof.Rows.All
import Wide.All
import OpenK.AllK
import Wide.FinOn
import HandS.Base
import HandS.Call
import HandS.List
import HandS.Comp
import HandS.Iter
import HandS.Ends
import HandS.Words
import HandS.WordsList
import HandS.Evl
import PySem.Challenge.RW_anyplaces_k17_whole_every_width
import PyProof.ReprRoads
import PyProof.ReprBulk
import PyProof.Rows.CallKwBuiltin
import KE.GoesEnumKw
import HandS.ForMost
import HandS.Wide
import HandS.WideBits
import HandS.IsInst
import HandS.Style
import HandS.SortKw
import HandS.Zip
import HandS.Walk
import KE.KStateDown
import HandS.Exc
import HandS.Head0
import HandS.Head1
import HandS.Head2
import HandS.HeadHook1
import HandS.HeadEnd
set_option Elab.async false
set_option linter.all false
set_option maxRecDepth 100000
set_option maxHeartbeats 4000000
/-! The text: the defs of the row's top by their places, their scopes and slots. -/
namespace K17
open PySem PySem.Spec PyProof.Rows L2
def top (i : Nat) : Stmt := PySem.Challenge.pw_anyplaces_k17_whole_every_width.main.body.getD i (.Pass ⟨0, 0, 0, 0⟩)
abbrev dIsWhole : Stmt := top 7
abbrev dIsBetween : Stmt := top 8
abbrev dCheckNumber : Stmt := top 9
abbrev dPowerOfTwo : Stmt := top 10
abbrev dTwos : Stmt := top 11
abbrev dGoodRow : Stmt := top 12
abbrev dItemsCounted : Stmt := top 13
abbrev dIsWidth : Stmt := top 15
abbrev dCheckWidth : Stmt := top 16
abbrev dIsOfWidth : Stmt := top 17
abbrev dRises : Stmt := top 18
abbrev dArePlaces : Stmt := top 19
abbrev dCheckPlaces : Stmt := top 20
abbrev dCheckCode : Stmt := top 22
abbrev dSizePower : Stmt := top 24
abbrev dItemCount : Stmt := top 25
abbrev dHowManyCodewords : Stmt := top 26
abbrev dCheckAnyPlaces : Stmt := top 27
abbrev dItemWidths : Stmt := top 28
abbrev dWidthFor : Stmt := top 29
abbrev dLHash : Stmt := top 31
abbrev dLRandom : Stmt := top 32
abbrev dLCell : Stmt := top 33
abbrev dLGenerator : Stmt := top 34
abbrev dLTwo : Stmt := top 35
abbrev dLPlaces : Stmt := top 36
abbrev dLTwos : Stmt := top 37
abbrev dLGood : Stmt := top 38
abbrev dLBits : Stmt := top 43
abbrev dLRight : Stmt := top 44
abbrev dLaw : Stmt := top 45
theorem scIsWhole : FnScope ["value"] ["value"] (defScope dIsWhole) := ⟨rfl, rfl, rfl, by decide +kernel, rfl, by decide +kernel, by decide +kernel⟩
theorem scIsBetween : FnScope ["value", "low", "high"] ["value", "low", "high"] (defScope dIsBetween) := ⟨rfl, rfl, rfl, by decide +kernel, rfl, by decide +kernel, by decide +kernel⟩
theorem scCheckNumber : FnScope ["number", "low", "high"] ["number", "low", "high"] (defScope dCheckNumber) := ⟨rfl, rfl, rfl, by decide +kernel, rfl, by decide +kernel, by decide +kernel⟩
theorem scPowerOfTwo : FnScope ["many"] ["many"] (defScope dPowerOfTwo) := ⟨rfl, rfl, rfl, by decide +kernel, rfl, by decide +kernel, by decide +kernel⟩
theorem scTwos : FnScope ["number", "found"] ["number"] (defScope dTwos) := ⟨rfl, rfl, rfl, by decide +kernel, rfl, by decide +kernel, by decide +kernel⟩
theorem scGoodRow : FnScope ["places", "order", "numbers", "left", "sums", "at", "taken", "have", "place"] ["places"] (defScope dGoodRow) := ⟨rfl, rfl, rfl, by decide +kernel, rfl, by decide +kernel, by decide +kernel⟩
theorem scItemsCounted : FnScope ["width", "numbers", "count", "number"] ["width", "numbers", "count"] (defScope dItemsCounted) := ⟨rfl, rfl, rfl, by decide +kernel, rfl, by decide +kernel, by decide +kernel⟩
theorem scIsWidth : FnScope ["value"] ["value"] (defScope dIsWidth) := ⟨rfl, rfl, rfl, by decide +kernel, rfl, by decide +kernel, by decide +kernel⟩
theorem scCheckWidth : FnScope ["width"] ["width"] (defScope dCheckWidth) := ⟨rfl, rfl, rfl, by decide +kernel, rfl, by decide +kernel, by decide +kernel⟩
theorem scIsOfWidth : FnScope ["width", "value"] ["width", "value"] (defScope dIsOfWidth) := ⟨rfl, rfl, rfl, by decide +kernel, rfl, by decide +kernel, by decide +kernel⟩
theorem scRises : FnScope ["numbers", "at"] ["numbers"] (defScope dRises) := ⟨rfl, rfl, rfl, by decide +kernel, rfl, by decide +kernel, by decide +kernel⟩
theorem scArePlaces : FnScope ["width", "value", "item"] ["width", "value"] (defScope dArePlaces) := ⟨rfl, rfl, rfl, by decide +kernel, rfl, by decide +kernel, by decide +kernel⟩
theorem scCheckPlaces : FnScope ["width", "places"] ["width", "places"] (defScope dCheckPlaces) := ⟨rfl, rfl, rfl, by decide +kernel, rfl, by decide +kernel, by decide +kernel⟩
theorem scCheckCode : FnScope ["width", "places", "count"] ["width", "places", "count"] (defScope dCheckCode) := ⟨rfl, rfl, rfl, by decide +kernel, rfl, by decide +kernel, by decide +kernel⟩
theorem scSizePower : FnScope ["width", "numbers", "count", "number"] ["width", "numbers", "count"] (defScope dSizePower) := ⟨rfl, rfl, rfl, by decide +kernel, rfl, by decide +kernel, by decide +kernel⟩
theorem scItemCount : FnScope ["width", "places", "count"] ["width", "places", "count"] (defScope dItemCount) := ⟨rfl, rfl, rfl, by decide +kernel, rfl, by decide +kernel, by decide +kernel⟩
theorem scHowManyCodewords : FnScope ["width", "places", "count"] ["width", "places", "count"] (defScope dHowManyCodewords) := ⟨rfl, rfl, rfl, by decide +kernel, rfl, by decide +kernel, by decide +kernel⟩
theorem scCheckAnyPlaces : FnScope ["places", "count"] ["places", "count"] (defScope dCheckAnyPlaces) := ⟨rfl, rfl, rfl, by decide +kernel, rfl, by decide +kernel, by decide +kernel⟩
theorem scItemWidths : FnScope ["places", "count", "number"] ["places", "count"] (defScope dItemWidths) := ⟨rfl, rfl, rfl, by decide +kernel, rfl, by decide +kernel, by decide +kernel⟩
theorem scWidthFor : FnScope ["places", "count", "many", "numbers", "width"] ["places", "count", "many"] (defScope dWidthFor) := ⟨rfl, rfl, rfl, by decide +kernel, rfl, by decide +kernel, by decide +kernel⟩
theorem scLHash : FnScope ["_law_seed", "_law_index", "_law_mixed"] ["_law_seed", "_law_index"] (defScope dLHash) := ⟨rfl, rfl, rfl, by decide +kernel, rfl, by decide +kernel, by decide +kernel⟩
theorem scLRandom : FnScope ["_law_generator_here", "_law_bound", "_law_drawn_here", "_law_turn"] ["_law_generator_here", "_law_bound"] (defScope dLRandom) := ⟨rfl, rfl, rfl, by decide +kernel, rfl, by decide +kernel, by decide +kernel⟩
theorem scLCell : FnScope ["_law_script", "_law_index"] ["_law_script", "_law_index"] (defScope dLCell) := ⟨rfl, rfl, rfl, by decide +kernel, rfl, by decide +kernel, by decide +kernel⟩
theorem scLGenerator : FnScope ["_law_script", "_law_index", "_law_seed"] ["_law_script", "_law_index"] (defScope dLGenerator) := ⟨rfl, rfl, rfl, by decide +kernel, rfl, by decide +kernel, by decide +kernel⟩
theorem scLTwo : FnScope ["_law_many"] ["_law_many"] (defScope dLTwo) := ⟨rfl, rfl, rfl, by decide +kernel, rfl, by decide +kernel, by decide +kernel⟩
theorem scLPlaces : FnScope ["_law_generator_here", "_law_width_there", "_law_most", "_law_found", "_law_turn", "_law_place"] ["_law_generator_here", "_law_width_there", "_law_most"] (defScope dLPlaces) := ⟨rfl, rfl, rfl, by decide +kernel, rfl, by decide +kernel, by decide +kernel⟩
theorem scLTwos : FnScope ["_law_number", "_law_found"] ["_law_number"] (defScope dLTwos) := ⟨rfl, rfl, rfl, by decide +kernel, rfl, by decide +kernel, by decide +kernel⟩
theorem scLGood : FnScope ["_law_spots", "_law_order", "_law_numbers", "_law_left", "_law_costs", "_law_at", "_law_taken", "_law_place"] ["_law_spots"] (defScope dLGood) := ⟨rfl, rfl, rfl, by decide +kernel, rfl, by decide +kernel, by decide +kernel⟩
theorem scLBits : FnScope ["_law_spots", "_law_found"] ["_law_spots"] (defScope dLBits) := ⟨rfl, rfl, rfl, by decide +kernel, rfl, by decide +kernel, by decide +kernel⟩
theorem scLRight : FnScope ["_law_generator_here", "_law_spots", "_law_many", "_law_first", "_law_due", "_law_handed", "_law_told", "_law_width_there", "_law_more", "_law_powers_there", "_law_power", "_law_reached", "_law_number", "_law_item", "_law_at", "_law_have"] ["_law_generator_here"] (defScope dLRight) := ⟨rfl, rfl, rfl, by decide +kernel, rfl, by decide +kernel, by decide +kernel⟩
theorem scLaw : FnScope ["_law_script", "_law_index", "_law_four", "_law_far", "_law_told"] ["_law_script"] (defScope dLaw) := ⟨rfl, rfl, rfl, by decide +kernel, rfl, by decide +kernel, by decide +kernel⟩
end K17
set_option maxHeartbeats 4000000
/-! Rules of our own: ** of a great base, repr of lists of ints, zip of two lists of one length (strict), defs that know that no repr is under way. -/
namespace K17
open PySem PySem.Spec PyProof.Rows L2 Evl
/-! ### i ** j, the result below 2 ^ 27 bits -/
def CPw (i j : Int) : Prop := 0 ≤ j ∧ (Builtin.Int.intBits i : Int) * j ≤ 2 ^ 27
theorem op_pw {X : Cx} : OpR X (binaryOp .Pow) (rI CPw fun i j => .int (i ^ j.toNat)) :=
  opI fun i j t u s Q E hc q => PyProof.Rows.pow_int hc.1 hc.2 q
/-! ### repr -/
/-- what may be shown: no dict, ints of few figures, not too long -/
structure Shw (d : PyData) : Prop where
  ok : d.showable = true
  nd : d.hasDict = false
  dp : d.depth ≤ 8
  sz : d.shown.length ≤ sizeLine
def rRepr (K : PySem.W.Frag) : List V → Hp → VK → Prop := fun xs H Q =>
  ∃ x d, xs = [x] ∧ Dp K H x d ∧ Shw d ∧ Q (.str d.shown) H
theorem cr_repr {X : Cx} (hg : X.A.guards = some []) (hu : X.A.units + 64 < cLine) : CallR X (.builtin "repr") (rRepr X.K) := by
  intro pins s σ H xs us Q I r h
  obtain ⟨x, d, ex, hd, hs, q⟩ := h
  subst ex
  obtain ⟨u, eu, rx⟩ := vals1 r
  subst eu
  obtain ⟨as, rd⟩ := Dp.reads I d x u hd rx
  cases hd with
  | non =>
    cases (show u = Value.none from rx)
    exact P.repr_of_none ⟨.str "None", H, I.tok _, ⟨_, rfl⟩, q⟩
  | bl b =>
    cases (show u = Value.bool b from rx)
    refine P.repr_of_bool ⟨.str (PyData.shown (.bool b)), H, I.tok _, ?_, q⟩
    cases b <;> exact ⟨_, rfl⟩
  | int i =>
    obtain ⟨t, e⟩ := (show ∃ t, u = Value.int i t from rx)
    subst e
    have hi : i.natAbs.log2 < 1920 := by simpa only [PyData.showable, decide_eq_true_eq] using hs.ok
    exact P.repr_of_int hi ⟨.str (PyData.shown (.int i)), H, I.tok _, ⟨_, rfl⟩, q⟩
  | str z =>
    obtain ⟨t, e⟩ := (show ∃ t, u = Value.str z t from rx)
    subst e
    exact P.repr_of_str ⟨.str (PyData.shown (.str z)), H, I.tok _, ⟨_, rfl⟩, q⟩ hs.sz
  | lst h1 h2 =>
    rename_i a ys ds
    cases (show u = Value.ref a from rx)
    have hd := hs.dp
    exact repr_of_reads' rd hs.ok (PyData.noDict_hsm hs.nd) hg (by omega) (fun b o e => e) (fun h' u tk hk => ⟨.str (PyData.shown (.list ds)), H, I.kept hk, ⟨_, rfl⟩, q⟩) hs.sz
  | tup h1 h2 =>
    rename_i a ys ds
    cases (show u = Value.ref a from rx)
    have hd := hs.dp
    exact repr_of_reads' rd hs.ok (PyData.noDict_hsm hs.nd) hg (by omega) (fun b o e => e) (fun h' u tk hk => ⟨.str (PyData.shown (.tuple ds)), H, I.kept hk, ⟨_, rfl⟩, q⟩) hs.sz
/-- a list of ints as data -/
def dInts (ns : List Int) : PyData := .list (ns.map PyData.int)
theorem dp_all {K : PySem.W.Frag} {H : Hp} : ∀ ns : List Int, DpAll K H (ns.map V.int) (ns.map PyData.int)
  | [] => .nil
  | n :: r => .cons (.int n) (dp_all r)
theorem dp_ints {K : PySem.W.Frag} {H : Hp} {a : Addr} {ns : List Int} (h : SqL K H a (ns.map V.int)) : Dp K H (.ref a) (dInts ns) := .lst h (dp_all ns)
theorem few_log {i : Int} (h : i.natAbs < 2 ^ 64) : i.natAbs.log2 < 1920 := by
  by_cases h0 : i.natAbs = 0
  · rw [h0]; decide
  · have := (Nat.log2_lt (n := i.natAbs) (k := 64) h0).mpr h
    omega
theorem few_text {i : Int} (h : i.natAbs < 2 ^ 64) : (PyData.shown (.int i)).length ≤ 100 := by
  have e : PyData.shown (.int i) = Str.ofString (toString i) := rfl
  have q := int_text_length_le10 (a := i) (k := 20) (by decide) (Nat.lt_of_lt_of_le h (by decide))
  rw [e, PySem.ofString_length]
  omega
theorem shw_int {i : Int} (h : i.natAbs < 2 ^ 64) : Shw (.int i) := by
  refine ⟨?_, rfl, by simp only [PyData.depth]; decide, ?_⟩
  · simp only [PyData.showable, decide_eq_true_eq]
    exact few_log h
  · exact Nat.le_trans (few_text h) (by decide)
theorem shw_non : Shw .none := ⟨rfl, rfl, by decide, by decide +kernel⟩
theorem show_all : ∀ {ns : List Int}, (∀ n ∈ ns, n.natAbs < 2 ^ 64) → PyData.showableAll (ns.map PyData.int) = true ∧ PyData.hasDictAll (ns.map PyData.int) = false ∧ PyData.leavesShortAll 100 (ns.map PyData.int) = true ∧ PyData.bulkAll (ns.map PyData.int) = ns.length ∧ PyData.depthAll (ns.map PyData.int) ≤ 4
  | [], _ => ⟨rfl, rfl, rfl, rfl, by decide⟩
  | n :: r, h => by
    obtain ⟨h1, h2, h3, h4, h5⟩ := show_all (ns := r) fun m hm => h m (List.mem_cons_of_mem _ hm)
    have hn := h n List.mem_cons_self
    refine ⟨?_, ?_, ?_, ?_, ?_⟩
    · rw [List.map_cons]
      simp only [PyData.showableAll, PyData.showable, h1, Bool.and_true, decide_eq_true_eq]
      exact few_log hn
    · rw [List.map_cons]
      simp only [PyData.hasDictAll, PyData.hasDict, h2, Bool.or_false]
    · rw [List.map_cons]
      simp only [PyData.leavesShortAll, PyData.leavesShort, h3, Bool.and_true, decide_eq_true_eq]
      exact few_text hn
    · rw [List.map_cons]
      simp only [PyData.bulkAll, PyData.bulk, h4, List.length_cons]
      omega
    · rw [List.map_cons]
      simp only [PyData.depthAll, PyData.depth]
      omega
theorem shw_ints {ns : List Int} (h : ∀ n ∈ ns, n.natAbs < 2 ^ 64) (hl : ns.length ≤ 1000) : Shw (dInts ns) := by
  obtain ⟨h1, h2, h3, h4, h5⟩ := show_all h
  unfold dInts
  refine ⟨?_, ?_, ?_, ?_⟩
  · simp only [PyData.showable, h1]
  · simp only [PyData.hasDict, h2]
  · simp only [PyData.depth]
    omega
  · have h6 := PyData.shown_le_bulk 100 (by decide) (.list (ns.map PyData.int)) (by simp only [PyData.leavesShort, h3])
    simp only [PyData.bulk, h4] at h6
    exact Nat.le_trans h6 (Nat.le_trans (by omega) (show 110000 ≤ sizeLine by decide))
/-! ### defs that are called while no repr is under way -/
section
variable {P : Program} {w : World} {K : PySem.W.Frag} {mg : Str → Option Value} {base : Heap}
/-- a def's promise where nothing is being shown; no exception leaves it -/
structure FnG (P : Program) (w : World) (K : PySem.W.Frag) (mg : Str → Option Value) (base : Heap) (k : Nat) (f : Addr) (fd : FuncData) (ps : List Str) (sp : Sp) : Prop where
  len : ∀ vs H Q E, sp vs H Q E → vs.length = ps.length
  run : ∀ (A : Around) (outer : List Env) (s : Shared) (H : Hp) (args : Args) (us : List Value) (vs : List V) (Q : VK), A.guards = some [] → Room k A →
    Env0 P w K mg base A outer s H → BindsTo s fd args (ps.zip us) → Vals vs us → sp vs H Q E0 → codeAny (model P w) A (.call (.ref f) args) (CR CX0 outer P w H s Q E0) s
theorem ne_kind {sc : Scope} {ps : List Str} {N : List Str} (S : FnScope N ps sc) (n : Nat) (us : List Value) :
    ∀ y ∈ ps.zip us, sc.names.lookup y.1 = some .local ∨ (sc.names.lookup y.1 = some .cell ∧ ((cellsFrom n sc.names []).lookup y.1).isSome = true) := by
  rintro ⟨x, v⟩ hm
  cases S.par x (List.of_mem_zip hm).1 with
  | inl h => exact Or.inl h
  | inr h => exact Or.inr ⟨h, PySem.W.cellsFrom_some _ _ _ (Or.inl h)⟩
theorem fnG_ok {x qual : Str} {st : Stmt} {f : Addr} {fd : FuncData} {N ps : List Str} {k : Nat} {sp : Sp} (F : Fun K x qual st f fd) (S : FnScope N ps (defScope st)) (len : ∀ vs H Q E, sp vs H Q E → vs.length = ps.length)
    (body : ∀ (cdv : Value) (A : Around) (outer : List Env) (s : Shared) (H : Hp) (vs : List V) (Q : VK), A.guards = some [] → Room k (A.deeper (envOfC qual (defScope st) s.heap.objs.size f cdv)) → sp vs H Q E0 →
      ∃ t, PSs (cxOf CX0 P w K mg base N qual (defScope st) f cdv A outer s H E0).nox (defBody st) t ∧ t { nx := fun _ H' => Q .non H', rt := Q } (start N vs) H) : FnG P w K mg base (k + 1) f fd ps sp := by
  obtain ⟨oc, od, kV, doc, pm, an, cdv, ct, osl, rfl, lk, hcode⟩ := F.ex
  constructor
  · exact len
  intro A outer s H args us vs Q hgu hroom h0 hbind hv hsp
  have lenV := len _ _ _ _ hsp
  have hK : K.In s.heap := h0.mod.kin.keeps fun b o hb => (h0.bs b o hb).1
  have hlim : s.heap.NoLimit := h0.mod.nolimit.keeps fun b o hb => (h0.bs b o hb).1
  refine codeAny_call_function hroom.depth (hK _ _ lk) rfl S.co S.gen rfl (PySem.W.codeRec_of hK hcode) (hbind _ _ _ _ ?_)
  refine wpAny_newFunctionEnv_cells S.kind (ne_kind S _ us) fun env e s1 ic => ?_
  subst e
  refine ⟨hlim.keeps ic.toInCall.keep, codeAny_func ?_⟩
  obtain ⟨t, ht, hq⟩ := body cdv A outer s H vs Q hgu (hroom.deeper _) hsp
  have J := inv_start (CX := CX0) (N := N) (E := E0) S hroom.hd h0 lenV hv ic
  refine wpAny_mono (ht.nox.run [] s1 (start N vs) H _ J hq) (fun fl s2 h2 => ?_) fun _ _ z => z
  cases fl with
  | next =>
    obtain ⟨σ2, H2, J2, q2⟩ := h2
    exact ⟨.non, H2, J2.os, J2.bare, J2.base, J2.hok, rfl, q2⟩
  | ret u =>
    obtain ⟨v, σ2, H2, J2, r2, q2⟩ := h2
    exact ⟨v, H2, J2.os, J2.bare, J2.base, J2.hok, r2, q2⟩
  | brk => exact h2.elim fun _ z => z.elim fun _ z => z.2.elim
  | cont => exact h2.elim fun _ z => z.elim fun _ z => z.2.elim
end
section
variable {X : Cx} {k : Nat} {f : Addr} {fd : FuncData} {ps : List Str} {sp : Sp} {x : Str} {p pos : Pos} {e : Expr} {es : List Expr} {t : TA}
/-- a call of such a def -/
theorem pe_callG (F : FnG X.prog X.w X.K X.mg X.base k f fd ps sp) (hgu : X.A.guards = some []) (hr : Room k X.A) (hg : Gl X x) (hm : X.mg x = some (.ref f)) (hk : PySem.W.keepIn X.K (.ref f) = true) (hb : Binds X.K fd ps [])
    (ha : PA X (e :: es) t) (hdb : (x == ("__debug__" : Str)) = false := by decide) (he : starEach (e :: es) X.env = (false, eval e X.env) :: starEach es X.env := by rfl) (hpl : (backTo pos (starEach es X.env)).any (·.1) = false := by rfl) :
    PE X (.Call (.Name x p) (e :: es) [] pos) (tCall sp [] E0 t) := by
  constructor
  intro pins s σ H Q I h
  refine wpAny_Call_Name_kw (ld_glob I hg hm ?_ hdb)
  refine PySem.W.callWith_K (h₀ := X.base) I.ok.mod.kin hk (thn (ha.run pos pins s σ H _ I h) ?_) he hpl
  rintro us s1 ⟨vs, H1, I1, rv, q⟩
  refine ⟨I1.kIn, ?_⟩
  have hq : sp (vs ++ []) H1 Q E0 := q
  rw [List.append_nil] at hq
  have hl : us.length = ps.length := by rw [← rv.length]; exact F.len _ _ _ _ hq
  have hbn : BindsTo s1 fd ⟨us, []⟩ (ps.zip us) := by
    have := hb s1 us I1.kIn (by rw [List.append_nil]; exact hl)
    rw [List.append_nil] at this
    exact this
  refine wpAny_call (codeAny_mono (F.run X.A X.stack s1 H1 ⟨us, []⟩ us vs Q hgu hr I1.env0 hbn rv hq) ?_)
  intro r s2 hr2
  match r, hr2 with
  | .error _, z => exact z.elim
  | .ok (.ret u), z => exact I1.after z
end
end K17
set_option maxHeartbeats 4000000
/-! zip(xs, ys, strict=True) of two lists of one length: made, walked, ended. -/
namespace K17
open PySem PySem.Spec PyProof.Rows L2
/-- a strict zip's own object -/
abbrev IsZs (h : Heap) (z TI TO : Addr) (f0 : Value) : Prop :=
  h.get? z = some { cls := .type "zip", dict := none, data := .fields #[f0, .bool false, .bool true, .ref TI, .ref TO], slots := #[] }
section
variable {prog : Program} {w : World} {A : Around} {E : Value → Shared → Prop} {s : Shared}
theorem orEnd_item {it l : Addr} {i : Nat} {items : Array Value} {x : Value} {Q : Option Value → Shared → Prop} (hit : s.heap.IsListIter it l i) (hl : s.heap.IsList l items) (hx : items[i]? = some x)
    (k : ∀ h', h'.IsListIter it l (i + 1) → Heap.SameBut it s.heap h' → Q (some x) { s with heap := h' }) : wpAny (model prog w) A (Builtin.SmallTypes.nextOrEnd (.ref it)) Q E s := by
  unfold Builtin.SmallTypes.nextOrEnd
  exact wpAny_bind (wpAny_attempt (wpAny_nextOf_list_item hit hl hx fun h' a b => wpAny_pure (k h' a b)))
theorem orEnd_end {it l : Addr} {i : Nat} {items : Array Value} {Q : Option Value → Shared → Prop} (hh : A.handled = none) (hit : s.heap.IsListIter it l i) (hl : s.heap.IsList l items) (hx : items[i]? = none)
    (k : ∀ h', Heap.ExtBut it s.heap h' → Q none { s with heap := h' }) : wpAny (model prog w) A (Builtin.SmallTypes.nextOrEnd (.ref it)) Q E s := by
  unfold Builtin.SmallTypes.nextOrEnd
  refine wpAny_bind (wpAny_attempt (wpAny_nextOf_list_end hh hit hl hx fun h' e a b => ?_))
  obtain ⟨o, ho, hc⟩ := b
  exact wpAny_bind (wpAny_isInstance (T := "StopIteration") (b := true) ⟨o, ho, hc⟩ isSubtype_stop (wpAny_pure (k h' a)))
/-- StopIteration is raised, nothing being handled -/
theorem stop_now {α : Type} {Q : α → Shared → Prop} (hh : A.handled = none)
    (k : ∀ h' e, (∀ c o, s.heap.get? c = some o → h'.get? c = some o) → (∃ o, h'.get? e = some o ∧ o.cls = .type "StopIteration") → E (.ref e) { s with heap := h' }) :
    wpAny (model prog w) A (Builtin.SmallTypes.stopIteration (α := α)) Q E s := by
  unfold Builtin.SmallTypes.stopIteration
  refine wpAny_bind ?_
  simp only [newExc, newTuple]
  refine wpAny_bind (wpAny_newObj_type ?_ (by size_fits))
  refine wpAny_bind (m := firstArgMember _ _) (wpAny_of_eq (a := Value.none) (by rfl) ?_)
  refine wpAny_newObj_type ?_ (by size_fits)
  simp only [raiseNew]
  refine wpAny_bind (wpAny_handled ?_)
  rw [hh]
  refine wpAny_bind (wpAny_pure (wpAny_throw (k _ _ (fun c o e => ?_) ?_)))
  · exact Heap.get?_push_of_some _ (Heap.get?_push_of_some _ e)
  · exact ⟨_, Heap.get?_push_size _ rfl, rfl⟩
theorem keep_of {x : Addr} {h h' : Heap} (e : Heap.ExtBut x h h') {c : Addr} {o : Obj} (n : c ≠ x) (q : h.get? c = some o) : h'.get? c = some o := e c o n q
variable {z TI TO i1 i2 l1 l2 : Addr} {k1 k2 : Nat} {xs ys : Array Value} {x y a b : Value}
theorem zs_item {Q : Value → Shared → Prop} (D : ZipApart z TI TO i1 i2 l1 l2)
    (hz : IsZs s.heap z TI TO .none) (hTI : IsPair s.heap TI (.ref i1) (.ref i2)) (hTO : IsPair s.heap TO a b)
    (g1 : s.heap.IsListIter i1 l1 k1) (g2 : s.heap.IsListIter i2 l2 k2) (q1 : s.heap.IsList l1 xs) (q2 : s.heap.IsList l2 ys) (hx : xs[k1]? = some x) (hy : ys[k2]? = some y)
    (hQ : ∀ h', IsZs h' z TI TO (rawInt s.heap.objs.size) → IsPair h' TO x y → h'.IsListIter i1 l1 (k1 + 1) → h'.IsListIter i2 l2 (k2 + 1) → IsPair h' s.heap.objs.size x y → h'.objs.size = s.heap.objs.size + 1 →
      (∀ c o, c ≠ z → c ≠ TO → c ≠ i1 → c ≠ i2 → s.heap.get? c = some o → h'.get? c = some o) → Q (.ref s.heap.objs.size) { s with heap := h' }) :
    wpAny (model prog w) A (Builtin.«zip.__next__» ⟨[.ref z], []⟩) (fun fin s' => ∃ v, fin = .done (.ret v) ∧ Q v s') E s := by
  obtain ⟨hp, gs, dr, tk, os⟩ := s
  -- strict, the iterators, the pair kept for giving out
  show wpAny _ _ (field (.ref z) 2 >>= _) _ _ _
  refine wpAny_bind (wpAny_field hz rfl (x := .bool true) rfl ?_)
  show wpAny _ _ (field (.ref z) 3 >>= _) _ _ _
  refine wpAny_bind (wpAny_field hz rfl (x := .ref TI) rfl ?_)
  refine wpAny_bind (wpAny_seqItems hTI rfl ?_)
  show wpAny _ _ (Builtin.SmallTypes.ownedTupleIsFree (.ref z) >>= _) _ _ _
  refine wpAny_bind ?_
  unfold Builtin.SmallTypes.ownedTupleIsFree
  refine wpAny_bind (wpAny_field hz rfl (x := .none) rfl (wpAny_pure ?_))
  simp only [if_true]
  refine wpAny_bind (wpAny_rule ?_)
  refine wpAny_bind (wpAny_field hz rfl (x := .ref TO) rfl ?_)
  refine wpAny_bind (wpAny_setField_rec hz (by simp) fun u1 hu1 su1 => ?_)
  have zu1 : IsZs u1 z TI TO .ellipsis := hu1
  have su1 : Heap.SameBut z hp u1 := su1
  refine wpAny_bind ?_
  simp only [List.zipIdx_cons, List.zipIdx_nil, List.forIn_cons, List.forIn_nil]
  -- the first
  refine wpAny_bind (wpAny_bind (wpAny_onRaise ?_))
  show wpAny _ _ (Builtin.SmallTypes.nextOrEnd (.ref i1)) _ _ _
  refine orEnd_item (g1.extBut su1.extBut D.i1z) (q1.extBut su1.extBut D.l1z) hx fun u2 gu2 su2 => ?_
  have tu2 : IsPair u2 TO a b := su2.extBut _ _ D.TOi1 (su1.extBut _ _ D.TOz hTO)
  refine wpAny_bind (wpAny_seqItems tu2 rfl ?_)
  refine wpAny_bind (wpAny_updateSeq_pair tu2 fun u3 hu3 su3 => ?_)
  have tu3 : IsPair u3 TO x b := hu3
  refine wpAny_bind (wpAny_letGo (wpAny_pure ?_))
  -- the second
  refine wpAny_bind (wpAny_bind (wpAny_onRaise ?_))
  show wpAny _ _ (Builtin.SmallTypes.nextOrEnd (.ref i2)) _ _ _
  refine orEnd_item (((g2.extBut su1.extBut D.i2z).extBut su2.extBut D.i12.symm).extBut su3.extBut D.TOi2.symm) (((q2.extBut su1.extBut D.l2z).extBut su2.extBut D.l2i1).extBut su3.extBut D.l2TO) hy fun u4 gu4 su4 => ?_
  have tu4 : IsPair u4 TO x b := su4.extBut _ _ D.TOi2 tu3
  refine wpAny_bind (wpAny_seqItems tu4 rfl ?_)
  refine wpAny_bind (wpAny_updateSeq_pair tu4 fun u5 hu5 su5 => ?_)
  have tu5 : IsPair u5 TO x y := hu5
  refine wpAny_bind (wpAny_letGo (wpAny_pure (wpAny_pure ?_)))
  -- the pair is given out
  refine wpAny_bind (wpAny_seqItems tu5 rfl ?_)
  refine wpAny_bind (wpAny_newTuple ?_)
  have esz : u5.objs.size = hp.objs.size := by rw [su5.1, su4.1, su3.1, su2.1, su1.1]
  have zu5 : IsZs u5 z TI TO .ellipsis := su5.extBut _ _ D.TOz.symm (su4.extBut _ _ D.i2z.symm (su3.extBut _ _ D.TOz.symm (su2.extBut _ _ D.i1z.symm zu1)))
  have kp : ∀ c o, c ≠ z → c ≠ TO → c ≠ i1 → c ≠ i2 → hp.get? c = some o → u5.get? c = some o := fun c o n1 n2 n3 n4 e =>
    su5.extBut _ _ n2 (su4.extBut _ _ n4 (su3.extBut _ _ n2 (su2.extBut _ _ n3 (su1.extBut _ _ n1 e))))
  have ga : u5.IsListIter i1 l1 (k1 + 1) := ((gu2.extBut su3.extBut D.TOi1.symm).extBut su4.extBut D.i12).extBut su5.extBut D.TOi1.symm
  have gb : u5.IsListIter i2 l2 (k2 + 1) := gu4.extBut su5.extBut D.TOi2.symm
  have ltz : z < u5.objs.size := Heap.lt_size zu5
  show wpAny _ _ (Builtin.SmallTypes.ownedTupleHandOut (.ref z) (.ref u5.objs.size) >>= _) _ _ _
  refine wpAny_bind ?_
  unfold Builtin.SmallTypes.ownedTupleHandOut
  have zu6 : IsZs (u5.push { cls := .type "tuple", data := .seq #[x, y] }) z TI TO .ellipsis := Heap.get?_push_of_some _ zu5
  refine wpAny_bind (wpAny_setField_rec zu6 (by simp) fun u7 hu7 su7 => ?_)
  have zu7 : IsZs u7 z TI TO (rawInt u5.objs.size) := hu7
  refine wpAny_setField_rec zu7 (by simp) fun u8 hu8 su8 => ?_
  have zu8 : IsZs u8 z TI TO (rawInt u5.objs.size) := hu8
  have up : ∀ c o, c ≠ z → u5.get? c = some o → u8.get? c = some o := fun c o n e => su8.extBut _ _ n (su7.extBut _ _ n (Heap.get?_push_of_some _ e))
  have pr : IsPair u8 u5.objs.size x y := su8.extBut _ _ (Nat.ne_of_gt ltz) (su7.extBut _ _ (Nat.ne_of_gt ltz) (Heap.get?_push_size _ rfl))
  have sz8 : u8.objs.size = u5.objs.size + 1 := by rw [su8.1, su7.1, Heap.size_push]
  rw [esz] at zu8 pr sz8
  refine wpAny_pure ⟨_, rfl, ?_⟩
  show Q (.ref u5.objs.size) _
  rw [esz]
  exact hQ u8 zu8 (up _ _ D.TOz tu5) (ga.at fun o e => up _ o D.i1z e) (gb.at fun o e => up _ o D.i2z e) pr sz8 fun c o n1 n2 n3 n4 e => up c o n1 (kp c o n1 n2 n3 n4 e)
theorem zs_end {Q : Fin → Shared → Prop} (hh : A.handled = none) (D : ZipApart z TI TO i1 i2 l1 l2)
    (hz : IsZs s.heap z TI TO .none) (hTI : IsPair s.heap TI (.ref i1) (.ref i2)) (hTO : IsPair s.heap TO a b)
    (g1 : s.heap.IsListIter i1 l1 k1) (g2 : s.heap.IsListIter i2 l2 k2) (q1 : s.heap.IsList l1 xs) (q2 : s.heap.IsList l2 ys) (hx : xs[k1]? = none) (hy : ys[k2]? = none)
    (hE : ∀ h' e, (∀ c o, c ≠ z → c ≠ TO → c ≠ i1 → c ≠ i2 → s.heap.get? c = some o → h'.get? c = some o) → (∃ o, h'.get? e = some o ∧ o.cls = .type "StopIteration") → E (.ref e) { s with heap := h' }) :
    wpAny (model prog w) A (Builtin.«zip.__next__» ⟨[.ref z], []⟩) Q E s := by
  obtain ⟨hp, gs, dr, tk, os⟩ := s
  show wpAny _ _ (field (.ref z) 2 >>= _) _ _ _
  refine wpAny_bind (wpAny_field hz rfl (x := .bool true) rfl ?_)
  show wpAny _ _ (field (.ref z) 3 >>= _) _ _ _
  refine wpAny_bind (wpAny_field hz rfl (x := .ref TI) rfl ?_)
  refine wpAny_bind (wpAny_seqItems hTI rfl ?_)
  show wpAny _ _ (Builtin.SmallTypes.ownedTupleIsFree (.ref z) >>= _) _ _ _
  refine wpAny_bind ?_
  unfold Builtin.SmallTypes.ownedTupleIsFree
  refine wpAny_bind (wpAny_field hz rfl (x := .none) rfl (wpAny_pure ?_))
  simp only [if_true]
  refine wpAny_bind (wpAny_rule ?_)
  refine wpAny_bind (wpAny_field hz rfl (x := .ref TO) rfl ?_)
  refine wpAny_bind (wpAny_setField_rec hz (by simp) fun u1 hu1 su1 => ?_)
  have zu1 : IsZs u1 z TI TO .ellipsis := hu1
  have su1 : Heap.SameBut z hp u1 := su1
  refine wpAny_bind ?_
  simp only [List.zipIdx_cons, List.zipIdx_nil, List.forIn_cons, List.forIn_nil]
  refine wpAny_bind (wpAny_bind (wpAny_onRaise ?_))
  show wpAny _ _ (Builtin.SmallTypes.nextOrEnd (.ref i1)) _ _ _
  refine orEnd_end hh (g1.extBut su1.extBut D.i1z) (q1.extBut su1.extBut D.l1z) hx fun u2 su2 => ?_
  have zu2 : IsZs u2 z TI TO .ellipsis := su2 _ _ D.i1z.symm zu1
  refine wpAny_bind (wpAny_setField_rec zu2 (by simp) fun u3 hu3 su3 => ?_)
  have kp : ∀ c o, c ≠ z → c ≠ TO → c ≠ i1 → c ≠ i2 → hp.get? c = some o → u3.get? c = some o := fun c o n1 _ n3 _ e => su3.extBut _ _ n1 (su2 _ _ n3 (su1.extBut _ _ n1 e))
  refine wpAny_bind ?_
  show wpAny _ _ ((forIn [(Value.ref i2, 1)] PUnit.unit _ : Sem PUnit) >>= _) _ _ _
  simp only [List.forIn_cons, List.forIn_nil]
  have p1 : ∀ c o, c ≠ z → c ≠ i1 → hp.get? c = some o → u3.get? c = some o := fun c o n1 n3 e => su3.extBut _ _ n1 (su2 _ _ n3 (su1.extBut _ _ n1 e))
  refine wpAny_bind (wpAny_bind (wpAny_bind (orEnd_end hh (g2.at fun o e => p1 _ o D.i2z D.i12.symm e) (q2.at fun o e => p1 _ o D.l2z D.l2i1 e) hy fun u4 su4 => ?_)))
  rw [if_neg (show ¬ ((none : Option Value).isSome = true) from Bool.false_ne_true)]
  refine wpAny_pure (wpAny_pure ?_)
  refine wpAny_bind (wpAny_rule (stop_now hh fun u5 e k5 he => ?_))
  exact hE u5 e (fun c o n1 n2 n3 n4 q => k5 _ _ (su4 _ _ n4 (p1 _ _ n1 n3 q))) he
theorem next_zs {Q : Option Value → Shared → Prop} (D : ZipApart z TI TO i1 i2 l1 l2)
    (hz : IsZs s.heap z TI TO .none) (hTI : IsPair s.heap TI (.ref i1) (.ref i2)) (hTO : IsPair s.heap TO a b)
    (g1 : s.heap.IsListIter i1 l1 k1) (g2 : s.heap.IsListIter i2 l2 k2) (q1 : s.heap.IsList l1 xs) (q2 : s.heap.IsList l2 ys) (hx : xs[k1]? = some x) (hy : ys[k2]? = some y)
    (hQ : ∀ h', IsZs h' z TI TO (rawInt s.heap.objs.size) → IsPair h' TO x y → h'.IsListIter i1 l1 (k1 + 1) → h'.IsListIter i2 l2 (k2 + 1) → IsPair h' s.heap.objs.size x y → h'.objs.size = s.heap.objs.size + 1 →
      (∀ c o, c ≠ z → c ≠ TO → c ≠ i1 → c ≠ i2 → s.heap.get? c = some o → h'.get? c = some o) → Q (some (.ref s.heap.objs.size)) { s with heap := h' }) :
    wpAny (model prog w) A (pyNext (.ref z)) Q E s := by
  have ty : s.TypeIs (.ref z) "zip" := ⟨_, hz, rfl⟩
  unfold pyNext
  refine wpAny_bind (wpAny_attempt (wpAny_callSpecial?_slot (name := Str.ofString "__next__") ty PySem.F.slot_zip_next (wpAny_call_entry PySem.F.slot_zip_next ty PySem.F.entry_zip_next ?_ (PySem.F.args_zip_next_1 _))))
  exact zs_item D hz hTI hTO g1 g2 q1 q2 hx hy fun h' a1 a2 a3 a4 a5 a6 a7 => wpAny_pure (hQ h' a1 a2 a3 a4 a5 a6 a7)
theorem next_zs_end {Q : Option Value → Shared → Prop} (hh : A.handled = none) (D : ZipApart z TI TO i1 i2 l1 l2)
    (hz : IsZs s.heap z TI TO .none) (hTI : IsPair s.heap TI (.ref i1) (.ref i2)) (hTO : IsPair s.heap TO a b)
    (g1 : s.heap.IsListIter i1 l1 k1) (g2 : s.heap.IsListIter i2 l2 k2) (q1 : s.heap.IsList l1 xs) (q2 : s.heap.IsList l2 ys) (hx : xs[k1]? = none) (hy : ys[k2]? = none)
    (hQ : ∀ h', (∀ c o, c ≠ z → c ≠ TO → c ≠ i1 → c ≠ i2 → s.heap.get? c = some o → h'.get? c = some o) → Q none { s with heap := h' }) : wpAny (model prog w) A (pyNext (.ref z)) Q E s := by
  have ty : s.TypeIs (.ref z) "zip" := ⟨_, hz, rfl⟩
  unfold pyNext
  refine wpAny_bind (wpAny_attempt (wpAny_callSpecial?_slot (name := Str.ofString "__next__") ty PySem.F.slot_zip_next (wpAny_call_entry PySem.F.slot_zip_next ty PySem.F.entry_zip_next ?_ (PySem.F.args_zip_next_1 _))))
  refine zs_end hh D hz hTI hTO g1 g2 q1 q2 hx hy fun h' e hk he => ?_
  obtain ⟨o, ho, hc⟩ := he
  exact wpAny_bind (wpAny_isInstance (T := "StopIteration") (b := true) ⟨o, ho, hc⟩ isSubtype_stop (wpAny_pure (hQ _ hk)))
/-- the pair that the zip keeps is let go -/
theorem go_zs {elts : List Expr} {x1} {pos : Pos} {T : Addr} {Q : Unit → Shared → Prop} (hz : IsZs s.heap z TI TO (rawInt T))
    (hQ : ∀ h', IsZs h' z TI TO .none → Heap.SameBut z s.heap h' → Q () { s with heap := h' }) : wpAny (model prog w) A (letOwnedTupleGo (.Tuple elts x1 pos) (.ref z) (.ref T)) Q E s := by
  unfold letOwnedTupleGo
  refine wpAny_bind (wpAny_load hz ?_)
  refine PySem.W.KFB.if_so (by simp) ?_
  refine wpAny_bind (wpAny_rule ?_)
  show wpAny _ _ (setField (.ref z) 0 .none) Q E s
  exact wpAny_setField_rec hz (by simp) fun h' hz' hs' => hQ h' hz' hs'
theorem iter_zs {f0 : Value} {Q : Value → Shared → Prop} (hz : IsZs s.heap z TI TO f0) (h : Q (.ref z) s) : wpAny (model prog w) A (pyIter (.ref z)) Q E s := by
  have ty : s.TypeIs (.ref z) "zip" := ⟨_, hz, rfl⟩
  refine wpAny_pyIter_slot ty PySem.F.slot_zip_iter (wpAny_call_entry PySem.F.slot_zip_iter ty PySem.F.entry_zip_iter ?_ (PySem.F.args_zip_iter_1 _))
  show wpAny _ _ (ret (.ref z)) _ _ s
  exact wpAny_pure ⟨_, rfl, "zip", _, ty, PySem.F.slot_zip_next.lookup, h⟩
end
/-! ### how it is made -/
theorem zs_typeCall (a b : Value) : checkTypeCall "zip" ⟨[a, b], [(Str.ofString "strict", .bool true)]⟩ = pure () := by kernel_rfl
theorem zs_newCall (a b : Value) : checkBuiltinCall "zip.__new__" ⟨[.type "zip", a, b], [(Str.ofString "strict", .bool true)]⟩ = pure () := by kernel_rfl
theorem zs_initArgs (o a b : Value) : argsOk "object.__init__" ⟨[o, a, b], [(Str.ofString "strict", .bool true)]⟩ := by unfold argsOk; kernel_rfl
abbrev zsA (h : Heap) (l1 : Addr) : Heap := h.push { cls := .type "list_iterator", data := .fields #[.ref l1, .int 0 0] }
abbrev zsB (h : Heap) (l1 l2 : Addr) : Heap := (zsA h l1).push { cls := .type "list_iterator", data := .fields #[.ref l2, .int 0 0] }
abbrev zsC (h : Heap) (l1 l2 : Addr) : Heap := (zsB h l1 l2).push { cls := .type "tuple", data := .seq #[.ref h.objs.size, .ref (zsA h l1).objs.size] }
abbrev zsD (h : Heap) (l1 l2 : Addr) : Heap := (zsC h l1 l2).push { cls := .type "tuple", data := .seq #[.none, .none] }
abbrev zsE (h : Heap) (l1 l2 : Addr) : Heap := (zsD h l1 l2).push { cls := .type "zip", data := .fields #[.none, .bool false, .bool true, .ref (zsB h l1 l2).objs.size, .ref (zsC h l1 l2).objs.size] }
theorem zs_meets (l1 l2 : Addr) (xs ys : Array Value) :
    Meets (Builtin.«zip.__new__» ⟨[.type "zip", .ref l1, .ref l2], [(Str.ofString "strict", .bool true)]⟩) (fun _ R s => s.heap.IsList l1 xs ∧ s.heap.IsList l2 ys ∧
      R (.ok (.ret (.ref (zsD s.heap l1 l2).objs.size))) { s with heap := zsE s.heap l1 l2 }) :=
  .of_wp fun prog w A R s h => by
    obtain ⟨hp, gs, dr, tk, os⟩ := s
    obtain ⟨b1, b2, h⟩ := h
    have hsub := sub_zip
    have q1 : Heap.IsList (Shared.heap ⟨hp, gs, dr, tk, os⟩) l1 xs := b1
    have q2 : Heap.IsList (Shared.heap ⟨hp.push { cls := .type "list_iterator", data := .fields #[.ref l1, .int 0 0] }, gs, dr, tk, os⟩) l2 ys := Heap.IsList.push b2 _
    have e2 : (Str.ofString "strict" != ("strict" : Str)) = false := by decide +kernel
    wp_walk using wpAny_pyIter_list q1, wpAny_pyIter_list q2
    exact ⟨_, rfl, h⟩
section
variable {prog : Program} {w : World} {A : Around} {E : Value → Shared → Prop} {s : Shared}
theorem call_zs {l1 l2 : Addr} {xs ys : Array Value} {Q : Value → Shared → Prop} (q1 : s.heap.IsList l1 xs) (q2 : s.heap.IsList l2 ys)
    (k : ∀ h', IsZs h' (s.heap.objs.size + 4) (s.heap.objs.size + 2) (s.heap.objs.size + 3) .none → IsPair h' (s.heap.objs.size + 2) (.ref s.heap.objs.size) (.ref (s.heap.objs.size + 1)) →
      IsPair h' (s.heap.objs.size + 3) .none .none → h'.IsListIter s.heap.objs.size l1 0 → h'.IsListIter (s.heap.objs.size + 1) l2 0 →
      (∀ c o, s.heap.get? c = some o → h'.get? c = some o) → Q (.ref (s.heap.objs.size + 4)) { s with heap := h' }) :
    wpAny (model prog w) A (call (.type "zip") [.ref l1, .ref l2] [(Str.ofString "strict", .bool true)]) Q E s := by
  refine callType_newKw PySem.F.called_zip (by decide) (zs_typeCall _ _) (zs_newCall _ _) (fun o => zs_initArgs o _ _) PySem.F.entry_zip_new (zs_meets l1 l2 xs ys) ⟨q1, q2, ?_⟩
  have n1 : (zsA s.heap l1).objs.size = s.heap.objs.size + 1 := Heap.size_push ..
  have n2 : (zsB s.heap l1 l2).objs.size = s.heap.objs.size + 2 := by rw [Heap.size_push, n1]
  have n3 : (zsC s.heap l1 l2).objs.size = s.heap.objs.size + 3 := by rw [Heap.size_push, n2]
  have n4 : (zsD s.heap l1 l2).objs.size = s.heap.objs.size + 4 := by rw [Heap.size_push, n3]
  have up : ∀ {c : Addr} {o : Obj}, (zsD s.heap l1 l2).get? c = some o → (zsE s.heap l1 l2).get? c = some o := fun e => Heap.get?_push_of_some _ e
  have z5 : (zsE s.heap l1 l2).get? (zsD s.heap l1 l2).objs.size = some _ := Heap.get?_push_size _ rfl
  have z4 : (zsE s.heap l1 l2).get? (zsC s.heap l1 l2).objs.size = some _ := up (Heap.get?_push_size _ rfl)
  have z3 : (zsE s.heap l1 l2).get? (zsB s.heap l1 l2).objs.size = some _ := up (Heap.get?_push_of_some _ (Heap.get?_push_size _ rfl))
  have z2 : (zsE s.heap l1 l2).get? (zsA s.heap l1).objs.size = some _ := up (Heap.get?_push_of_some _ (Heap.get?_push_of_some _ (Heap.get?_push_size _ rfl)))
  have z1 : (zsE s.heap l1 l2).get? s.heap.objs.size = some _ := up (Heap.get?_push_of_some _ (Heap.get?_push_of_some _ (Heap.get?_push_of_some _ (Heap.get?_push_size _ rfl))))
  rw [n2, n3, n4] at z5
  rw [n1, n2] at z3
  rw [n3] at z4
  rw [n1] at z2
  rw [n4]
  exact ⟨⟨_, z5, rfl⟩, k _ z5 z3 z4 ⟨_, z1, rfl, rfl⟩ ⟨_, z2, rfl, rfl⟩ fun c o q => up (Heap.get?_push_of_some _ (Heap.get?_push_of_some _ (Heap.get?_push_of_some _ (Heap.get?_push_of_some _ q))))⟩
/-- a built-in class called with keywords -/
theorem callWith_tyKw {env : Env} {pos : Pos} {T : String} {e : Expr} {rest : List Expr} {kws : List Keyword} {Q : Value → Shared → Prop} {M : Model}
    (h : wpAny M A (spliced (backTo pos (starEach (e :: rest) env))) (fun vs s1 => wpAny M A (evalAll ((backToKw pos (keywordEach kws env)).map (·.2)))
      (fun ks s2 => wpAny M A (call (.type T) vs (((backToKw pos (keywordEach kws env)).filterMap (·.1)).zip ks)) Q E s2) E s1) E s)
    (he : backTo pos (starEach (e :: rest) env) = (false, eval e env) :: backTo pos (starEach rest env))
    (hplain : (backTo pos (starEach (e :: rest) env)).any (·.1) = false)
    (hall : (backToKw pos (keywordEach kws env)).all (·.1.isSome) = true)
    (hkw : (backToKw pos (keywordEach kws env)).any (·.1.isNone) = false) :
    wpAny M A (callWith pos (.type T) [] (backTo pos (starEach (e :: rest) env)) (backToKw pos (keywordEach kws env))) Q E s := by
  unfold callWith
  have h2 : wpAny M A (evalArgs (.type T) true (backTo pos (starEach (e :: rest) env)) (backToKw pos (keywordEach kws env))) (fun a s1 => wpAny M A (call (.type T) ([] ++ a.pos) a.kw) Q E s1) E s := by
    rw [he] at h ⊢
    exact evalArgs_kwB hall h
  refine wpAny_bind (wpAny_holding (wpAny_mono h2 (fun a s1 h1 => wpAny_bind (wpAny_standAt ?_)) fun _ _ z => z))
  simp only [hplain, hkw, Bool.or_false]
  refine wpAny_bind (wpAny_pure ?_)
  exact wpAny_bind (wpAny_mono h1 (fun r s2 q => wpAny_bind (wpAny_holding (wpAny_point (wpAny_pure q)))) fun _ _ z => z)
end
end K17
set_option maxHeartbeats 4000000
/-! the strict zip as something that is walked -/
namespace K17
open PySem PySem.Spec PyProof.Rows L2
/-- the lists at a and b, of one length, as they stand at each turn; the items in new pairs -/
def Izs (K : PySem.W.Frag) (a b : Addr) : It where
  go := fun i H => ∃ (xs ys : List V) (x y : V), SqL K H a xs ∧ SqL K H b ys ∧ xs[i]? = some x ∧ ys[i]? = some y
  yld := fun i H v H' => ∃ T x y, v = .ref T ∧ H T = none ∧ H' = upd H T (.tup [x, y]) ∧ (∀ xs, SqL K H a xs → xs[i]? = some x) ∧ ∀ ys, SqL K H b ys → ys[i]? = some y
  stop := fun i H => ∃ xs ys : List V, SqL K H a xs ∧ SqL K H b ys ∧ xs.length ≤ i ∧ ys.length ≤ i
/-- how the zip's five objects stand ahead of turn i -/
structure ZsAt (z TI TO i1 i2 a b : Addr) (i : Nat) (h : Heap) : Prop where
  z : IsZs h z TI TO .none
  ti : IsPair h TI (.ref i1) (.ref i2)
  to : ∃ x y, IsPair h TO x y
  one : h.IsListIter i1 a i
  two : h.IsListIter i2 b i
theorem ZsAt.keep {z TI TO i1 i2 a b : Addr} {i : Nat} {h h' : Heap} (S : ZsAt z TI TO i1 i2 a b i h) (k : ∀ c ∈ [z, TI, TO, i1, i2], ∀ o, h.get? c = some o → h'.get? c = some o) : ZsAt z TI TO i1 i2 a b i h' := by
  obtain ⟨x, y, e⟩ := S.to
  exact ⟨k z (by simp) _ S.z, k TI (by simp) _ S.ti, ⟨x, y, k TO (by simp) _ e⟩, S.one.at fun o q => k i1 (by simp) o q, S.two.at fun o q => k i2 (by simp) o q⟩
theorem ZsAt.there {z TI TO i1 i2 a b : Addr} {i : Nat} {h : Heap} (S : ZsAt z TI TO i1 i2 a b i h) : ∀ c ∈ [z, TI, TO, i1, i2], ∃ o, h.get? c = some o ∧ ∀ v, o.data ≠ .cell v := by
  intro c hc
  obtain ⟨x, y, e⟩ := S.to
  obtain ⟨o1, e1, _, d1⟩ := S.one
  obtain ⟨o2, e2, _, d2⟩ := S.two
  simp only [List.mem_cons, List.not_mem_nil, or_false] at hc
  rcases hc with rfl | rfl | rfl | rfl | rfl
  · exact ⟨_, S.z, fun v q => nomatch q⟩
  · exact ⟨_, S.ti, fun v q => nomatch q⟩
  · exact ⟨_, e, fun v q => nomatch q⟩
  · exact ⟨o1, e1, fun v q => by rw [d1] at q; cases q⟩
  · exact ⟨o2, e2, fun v q => by rw [d2] at q; cases q⟩
theorem not_of {c z TI TO i1 i2 : Addr} (h : c ∉ [z, TI, TO, i1, i2]) : c ≠ z ∧ c ≠ TI ∧ c ≠ TO ∧ c ≠ i1 ∧ c ≠ i2 := by
  simp only [List.mem_cons, List.not_mem_nil, or_false, not_or] at h
  exact h
theorem turn_zs {P : Program} {w : World} {K : PySem.W.Frag} {elts : List Expr} {kk : Nat} {tpos : Pos} {a b z TI TO i1 i2 : Addr} (D : ZipApart z TI TO i1 i2 a b) :
    Turn P w K (.Tuple elts kk tpos) (Izs K a b) [z, TI, TO, i1, i2] z (ZsAt z TI TO i1 i2 a b) := by
  constructor
  case mem => simp
  case obj => exact fun i h S => S.there
  case keep => exact fun i h h' S k => S.keep k
  case self => exact fun A i s Q E S k => iter_zs S.z k
  case done =>
    intro X hP hw hK hc i pins s σ H E I hf S hg
    subst hP hw hK
    obtain ⟨xs, ys, m1, m2, n1, n2⟩ := hg
    obtain ⟨us, r1, p1, _⟩ := I.list m1
    obtain ⟨vs, r2, p2, _⟩ := I.list m2
    obtain ⟨x, y, e⟩ := S.to
    have l1 := r1.length
    have l2 := r2.length
    refine next_zs_end (I.ok.hd hc) D S.z S.ti e S.one S.two p1.isList p2.isList (by simp; omega) (by simp; omega) fun h' hk => ⟨rfl, ?_⟩
    refine I.turnedL (t' := s.toks) (ch := [z, TI, TO, i1, i2]) (fun c o hc q => ?_) hf
    obtain ⟨c1, c2, c3, c4, c5⟩ := not_of hc
    exact hk c o c1 c3 c4 c5 q
  case item =>
    intro X hP hw hK hc i pins s σ H E I hf S hg
    subst hP hw hK
    obtain ⟨xs, ys, x, y, m1, m2, gx, gy⟩ := hg
    obtain ⟨us, r1, p1, _⟩ := I.list m1
    obtain ⟨vs, r2, p2, _⟩ := I.list m2
    obtain ⟨x0, y0, e⟩ := S.to
    obtain ⟨u, hu, ru⟩ := r1.get gx
    obtain ⟨v, hv, rv⟩ := r2.get gy
    have ltz : z < s.heap.objs.size := Heap.lt_size S.z
    refine next_zs D S.z S.ti e S.one S.two p1.isList p2.isList (x := u) (y := v) (by simpa using hu) (by simpa using hv) fun h1 a1 a2 a3 a4 a5 a6 hk => ?_
    refine ⟨_, rfl, go_zs (s := { s with heap := h1 }) a1 fun h2 b1 sb => ?_⟩
    have hT : h2.get? s.heap.objs.size = some { cls := .type "tuple", data := .seq #[u, v] } := (sb.2 _ (Nat.ne_of_gt ltz)).trans a5
    have hnew : ObjOk X.prog X.w (upd H s.heap.objs.size (.tup [x, y])) h2 s.heap.objs.size (.tup [x, y]) := ⟨by show 2 ≤ sizeLine; decide, [u, v], .cons ru (.cons rv .nil), ⟨_, hT, rfl, _, rfl⟩⟩
    have J : Inv X pins σ (upd H s.heap.objs.size (.tup [x, y])) { s with heap := h2 } := by
      refine I.turnedNew (t' := s.toks) (ch := [z, TI, TO, i1, i2]) (fun c o hc q => ?_) hf (Nat.le_refl _) hnew
      obtain ⟨c1, c2, c3, c4, c5⟩ := not_of hc
      exact (sb.2 c c1).trans (hk c o c1 c3 c4 c5 q)
    refine ⟨.ref s.heap.objs.size, _, J, rfl, ⟨_, x, y, rfl, I.hok.fresh (Nat.le_refl _), rfl, fun l hl => ?_, fun l hl => ?_⟩, ⟨b1, ?_, ⟨u, v, ?_⟩, ?_, ?_⟩, fun c hcm => ?_⟩
    · rw [I.list_inj hl m1]; exact gx
    · rw [I.list_inj hl m2]; exact gy
    · exact (sb.2 _ D.TIz).trans (hk _ _ D.TIz D.TITO D.TIi1 D.TIi2 S.ti)
    · exact (sb.2 _ D.TOz).trans a2
    · exact a3.at fun o q => (sb.2 _ D.i1z).trans q
    · exact a4.at fun o q => (sb.2 _ D.i2z).trans q
    · obtain ⟨o, ho, _⟩ := S.there c hcm
      rw [upd_ne (Nat.ne_of_lt (Heap.lt_size ho))]
      exact (hf c hcm).1
def iZs (K : PySem.W.Frag) (ta : TA) : TI := fun σ H R => ta σ H fun vs H1 => ∃ a b xs ys, vs = [.ref a, .ref b] ∧ SqL K H1 a xs ∧ SqL K H1 b ys ∧ R (Izs K a b) H1
/-- for .. in zip(e, e2, strict=True) -/
theorem pi_zs {X : Cx} {e e2 : Expr} {ta : TA} {p pos tpos kp cp : Pos} {j : Nat} {elts : List Expr} {kk : Nat} (hg : Gl X "zip") (hm : X.mg "zip" = none) (ha : PA X [e, e2] ta)
    (he : backTo pos (starEach [e, e2] X.env) = (false, eval e X.env) :: backTo pos (starEach [e2] X.env) := by rfl)
    (hp : (backTo pos (starEach [e, e2] X.env)).any (·.1) = false := by rfl) :
    PI X (.Tuple elts kk tpos) (.Call (.Name "zip" p) [e, e2] [⟨some "strict", .Constant (.bool true) j cp, kp⟩] pos) (iZs X.K ta) := by
  constructor
  intro pins s σ H R I h
  refine wpAny_Call_Name_kw (ld_blt I hg hm PyProof.Rows.boot_zip ?_)
  refine callWith_tyKw (thn (ha.run pos pins s σ H _ I h) ?_) he hp rfl rfl
  rintro us s1 ⟨vs, H1, I1, r1, a, b, xs, ys, ex, m1, m2, q⟩
  subst ex
  obtain ⟨u1, u2, rfl, q1, q2⟩ := vals2 r1
  cases (show u1 = Value.ref a from q1)
  cases (show u2 = Value.ref b from q2)
  have kw : PK X [⟨some "strict", .Constant (.bool true) j cp, kp⟩] (tCons (tC (.bl true)) tNil) := pk_cons pe_bl pk_nil
  refine thn (kw.run pos pins s1 σ H1 (fun zs H2 => zs = [.bl true] ∧ H2 = H1) I1 ⟨rfl, rfl⟩) ?_
  rintro ks s2 ⟨zs, H2, I2, r2, rfl, rfl⟩
  obtain ⟨u3, rfl, q3⟩ := vals1 r2
  cases (show u3 = Value.bool true from q3)
  obtain ⟨its, _, p1, _⟩ := I2.list m1
  obtain ⟨its2, _, p2, _⟩ := I2.list m2
  have la : a < s2.heap.objs.size := p1.lt
  have lb : b < s2.heap.objs.size := p2.lt
  refine call_zs p1.isList p2.isList fun h' hz hTI hTO g1 g2 hk => iter_zs hz ?_
  refine ⟨s2.heap.objs.size + 4, [s2.heap.objs.size + 4, s2.heap.objs.size + 2, s2.heap.objs.size + 3, s2.heap.objs.size, s2.heap.objs.size + 1], _, _, _, rfl, I2.kept (h' := h') (t' := s2.toks) hk,
    turn_zs (PySem.W.ktu_apart s2.heap.objs.size a b la lb), ⟨hz, hTI, ⟨_, _, hTO⟩, g1, g2⟩, fun c hc => ?_, q⟩
  simp only [List.mem_cons, List.not_mem_nil, or_false] at hc
  have le : s2.heap.objs.size ≤ c := by
    rcases hc with e | e | e | e | e <;> rw [e]
    · exact Nat.le_add_right _ _
    · exact Nat.le_add_right _ _
    · exact Nat.le_add_right _ _
    · exact Nat.le_refl _
    · exact Nat.le_add_right _ _
  exact I2.fpOk le (I2.hok.fresh le)
end K17
/-! The mathematics of the law: twos, good orders, their numbers, powers and widths. No program in sight. -/
namespace K17
/-! ### twos -/
def twF : Nat → Nat → Nat
  | 0, _ => 0
  | f + 1, n => if n % 2 = 0 then twF f (n / 2) + 1 else 0
/-- the twos of a whole number that is not 0, below 2 ^ 64 -/
def tw (d : Int) : Int := (twF 64 d.natAbs : Nat)
theorem twF_le : ∀ f n, twF f n ≤ f
  | 0, _ => Nat.le_refl _
  | f + 1, n => by
    unfold twF
    have := twF_le f (n / 2)
    split <;> omega
theorem tw_nonneg (d : Int) : 0 ≤ tw d := Int.natCast_nonneg _
theorem tw_le (d : Int) : tw d ≤ 64 := by
  have := twF_le 64 d.natAbs
  unfold tw
  omega
theorem twF_more : ∀ f n k, n ≠ 0 → n < 2 ^ f → twF (f + k) n = twF f n
  | 0, n, k, h0, h => by
    rw [Nat.pow_zero] at h
    omega
  | f + 1, n, k, h0, h => by
    rw [show f + 1 + k = (f + k) + 1 by omega]
    unfold twF
    by_cases e : n % 2 = 0
    · rw [if_pos e, if_pos e, twF_more f (n / 2) k (by omega) (by rw [Nat.pow_succ] at h; omega)]
    · rw [if_neg e, if_neg e]
/-- one turn of the loop: an even number, halved -/
theorem tw_turn {f n : Nat} (h : n < 2 ^ (f + 1)) (e : n % 2 = 0) : twF (f + 1) n = twF f (n / 2) + 1 ∧ n / 2 < 2 ^ f := by
  constructor
  · show (if n % 2 = 0 then twF f (n / 2) + 1 else 0) = _
    rw [if_pos e]
  · rw [Nat.pow_succ] at h
    omega
theorem tw_stop {f n : Nat} (e : ¬ n % 2 = 0) : twF f n = 0 := by
  cases f with
  | zero => rfl
  | succ f =>
    show (if n % 2 = 0 then twF f (n / 2) + 1 else 0) = _
    rw [if_neg e]
/-! ### costs and the choice -/
def cost (order : List Int) (p : Int) : Int := (order.map fun t => tw (p - t)).sum
def costs (order left : List Int) : List Int := left.map (cost order)
def minL : List Int → Int
  | [] => 0
  | [x] => x
  | x :: y :: r => min x (minL (y :: r))
theorem minL_mem : ∀ {l : List Int}, l ≠ [] → minL l ∈ l
  | [], h => absurd rfl h
  | [x], _ => List.mem_singleton.mpr rfl
  | x :: y :: r, _ => by
    have ih := minL_mem (l := y :: r) (List.cons_ne_nil _ _)
    show min x (minL (y :: r)) ∈ _
    rcases Int.le_total x (minL (y :: r)) with h | h
    · rw [Int.min_eq_left h]; exact List.mem_cons_self
    · rw [Int.min_eq_right h]; exact List.mem_cons_of_mem _ ih
theorem minL_le : ∀ {l : List Int} {x : Int}, x ∈ l → minL l ≤ x
  | [], _, h => absurd h List.not_mem_nil
  | [y], x, h => by
    rw [List.mem_singleton.mp h]
    exact Int.le_refl _
  | y :: z :: r, x, h => by
    show min y (minL (z :: r)) ≤ x
    rcases List.mem_cons.mp h with e | e
    · rw [e]; exact Int.min_le_left _ _
    · exact Int.le_trans (Int.min_le_right _ _) (minL_le e)
theorem minL_unique {l : List Int} {m : Int} (hm : m ∈ l) (hl : ∀ x ∈ l, m ≤ x) : m = minL l := by
  have h1 := minL_le hm
  have h2 := hl _ (minL_mem (List.ne_nil_of_mem hm))
  omega
/-- the place of the first least item -/
def minAt (l : List Int) : Nat := l.idxOf (minL l)
theorem minAt_lt {l : List Int} (h : l ≠ []) : minAt l < l.length := List.idxOf_lt_length_of_mem (minL_mem h)
theorem minAt_get {l : List Int} (h : l ≠ []) : l[minAt l]? = some (minL l) := by
  rw [List.getElem?_eq_getElem (minAt_lt h)]
  have := List.getElem_idxOf (minAt_lt h)
  exact congrArg some this
theorem minAt_first {l : List Int} {j : Nat} {z : Int} (h : j < minAt l) (e : l[j]? = some z) : z ≠ minL l := by
  intro q
  have h1 := List.not_of_lt_findIdx (p := (· == minL l)) (xs := l) (i := j) h
  obtain ⟨hj, e⟩ := List.getElem?_eq_some_iff.mp e
  rw [e, q] at h1
  simp at h1
/-! ### the good order -/
def gGo : Nat → List Int → List Int → List Int → List Int × List Int
  | 0, order, numbers, _ => (order, numbers)
  | n + 1, order, numbers, left =>
    gGo n (order ++ [left.getD (minAt (costs order left)) 0]) (numbers ++ [minL (costs order left)]) (left.eraseIdx (minAt (costs order left)))
def good (ps : List Int) : List Int × List Int := gGo ps.length [] [] ps
def nums (ps : List Int) : List Int := (good ps).2
theorem costs_nil (l : List Int) : costs [] l = List.replicate l.length 0 := by
  unfold costs
  induction l with
  | nil => rfl
  | cons x r ih =>
    rw [List.map_cons, ih]
    rfl
theorem minL_rep : ∀ n, minL (List.replicate (n + 1) 0) = 0
  | 0 => rfl
  | n + 1 => by
    have := minL_rep n
    show min 0 (minL (List.replicate (n + 1) 0)) = 0
    rw [this]
    rfl
theorem minAt_rep (n : Nat) : minAt (List.replicate (n + 1) 0) = 0 := by
  unfold minAt
  rw [minL_rep]
  rfl
theorem good_start (p : Int) (r : List Int) : good (p :: r) = gGo r.length [p] [0] r := by
  have e : good (p :: r) = gGo r.length ([] ++ [(p :: r).getD (minAt (costs [] (p :: r))) 0]) ([] ++ [minL (costs [] (p :: r))]) ((p :: r).eraseIdx (minAt (costs [] (p :: r)))) := rfl
  rw [e, costs_nil]
  show gGo r.length ([] ++ [(p :: r).getD (minAt (List.replicate (r.length + 1) 0)) 0]) ([] ++ [minL (List.replicate (r.length + 1) 0)]) ((p :: r).eraseIdx (minAt (List.replicate (r.length + 1) 0))) = _
  rw [minAt_rep, minL_rep] <;> rfl
theorem costs_ne {order left : List Int} (h : left ≠ []) : costs order left ≠ [] := fun e => h (List.map_eq_nil_iff.mp e)
theorem costs_len (order left : List Int) : (costs order left).length = left.length := List.length_map _
theorem cost_more (order : List Int) (t p : Int) : cost (order ++ [t]) p = cost order p + tw (p - t) := by
  unfold cost
  rw [List.map_append, List.sum_append]
  simp
theorem cost_nonneg (order : List Int) (p : Int) : 0 ≤ cost order p := by
  unfold cost
  induction order with
  | nil => exact Int.le_refl _
  | cons t r ih =>
    rw [List.map_cons, List.sum_cons]
    have := tw_nonneg (p - t)
    omega
theorem cost_le (order : List Int) (p : Int) : cost order p ≤ 64 * (order.length : Int) := by
  unfold cost
  induction order with
  | nil => exact Int.le_refl _
  | cons t r ih =>
    rw [List.map_cons, List.sum_cons, List.length_cons]
    have := tw_le (p - t)
    omega
/-- what the numbers keep from turn to turn -/
structure Inv (order numbers left : List Int) : Prop where
  asc : numbers.Pairwise (· ≤ ·)
  low : ∀ x ∈ numbers, ∀ p ∈ left, x ≤ cost order p
  nn : ∀ x ∈ numbers, 0 ≤ x ∧ x ≤ 64 * (order.length : Int)
  len : numbers.length = order.length
theorem Inv.turn {order numbers left : List Int} (I : Inv order numbers left) (h : left ≠ []) :
    Inv (order ++ [left.getD (minAt (costs order left)) 0]) (numbers ++ [minL (costs order left)]) (left.eraseIdx (minAt (costs order left))) := by
  have hm : minL (costs order left) ∈ costs order left := minL_mem (costs_ne h)
  obtain ⟨q, hq, eq⟩ := List.mem_map.mp hm
  refine ⟨?_, ?_, ?_, ?_⟩
  · rw [List.pairwise_append]
    refine ⟨I.asc, List.pairwise_singleton _ _, fun x hx y hy => ?_⟩
    rw [List.mem_singleton.mp hy, ← eq]
    exact I.low x hx q hq
  · intro x hx p hp
    have hp' : p ∈ left := List.mem_of_mem_eraseIdx hp
    rw [cost_more]
    have h0 := tw_nonneg (p - left.getD (minAt (costs order left)) 0)
    rcases List.mem_append.mp hx with hx | hx
    · have := I.low x hx p hp'
      omega
    · rw [List.mem_singleton.mp hx]
      have h1 : minL (costs order left) ≤ cost order p := minL_le (List.mem_map.mpr ⟨p, hp', rfl⟩)
      omega
  · intro x hx
    rw [List.length_append, List.length_singleton]
    rcases List.mem_append.mp hx with hx | hx
    · have := I.nn x hx
      omega
    · rw [List.mem_singleton.mp hx, ← eq]
      have h1 := cost_nonneg order q
      have h2 := cost_le order q
      omega
  · rw [List.length_append, List.length_append, I.len]
    rfl
theorem gGo_inv : ∀ (n : Nat) (order numbers left : List Int), left.length = n → Inv order numbers left → Inv (gGo n order numbers left).1 (gGo n order numbers left).2 [] ∧ (gGo n order numbers left).1.length = order.length + n
  | 0, order, numbers, left, hl, I => by
    have e : left = [] := List.length_eq_zero_iff.mp hl
    subst e
    exact ⟨I, rfl⟩
  | n + 1, order, numbers, left, hl, I => by
    have h : left ≠ [] := fun e => by
      rw [e] at hl
      cases hl
    have hlt : minAt (costs order left) < left.length := by
      have := minAt_lt (costs_ne (order := order) h)
      rw [costs_len] at this
      exact this
    have q := gGo_inv n _ _ _ (by rw [List.length_eraseIdx_of_lt hlt, hl]; rfl) (I.turn h)
    refine ⟨q.1, q.2.trans ?_⟩
    rw [List.length_append, List.length_singleton]
    omega
theorem good_inv (ps : List Int) : Inv (good ps).1 (good ps).2 [] ∧ (good ps).1.length = ps.length := by
  have := gGo_inv ps.length [] [] ps rfl ⟨.nil, fun x h => absurd h List.not_mem_nil, fun x h => absurd h List.not_mem_nil, rfl⟩
  rw [List.length_nil, Nat.zero_add] at this
  exact this
theorem nums_len (ps : List Int) : (nums ps).length = ps.length := (good_inv ps).1.len.trans (good_inv ps).2
theorem nums_asc (ps : List Int) : (nums ps).Pairwise (· ≤ ·) := (good_inv ps).1.asc
theorem nums_nn {ps : List Int} {x : Int} (h : x ∈ nums ps) : 0 ≤ x ∧ x ≤ 64 * (ps.length : Int) := by
  have := (good_inv ps).1.nn x h
  rw [(good_inv ps).2] at this
  exact this
/-- the sums kept from turn to turn are the costs -/
theorem costs_turn (order left : List Int) (at_ : Nat) (t : Int) :
    List.zipWith (fun h p => h + tw (p - t)) ((costs order left).eraseIdx at_) (left.eraseIdx at_) = costs (order ++ [t]) (left.eraseIdx at_) := by
  unfold costs
  have e : (left.map (cost order)).eraseIdx at_ = (left.eraseIdx at_).map (cost order) := by
    rw [List.eraseIdx_eq_take_drop_succ, List.eraseIdx_eq_take_drop_succ, List.map_append, List.map_take, List.map_drop]
  rw [e]
  generalize left.eraseIdx at_ = l
  induction l with
  | nil => rfl
  | cons x r ih =>
    rw [List.map_cons, List.map_cons, List.zipWith_cons_cons, ih, cost_more]
/-! ### how many, powers -/
def counted (w : Int) (ns : List Int) : Nat := (ns.filter fun n => decide (n < w)).length
/-- the power of 2 at a width, by the numbers that count -/
def pw (w : Int) (ns : List Int) : Int := (ns.map fun n => if 0 > w - n then 0 else w - n).sum
def sizeP (w : Int) (ns : List Int) (c : Nat) : Int := ((ns.take (counted w (ns.take c))).map fun n => w - n).sum
theorem filter_asc {w : Int} : ∀ {ns : List Int}, ns.Pairwise (· ≤ ·) → ns.take (counted w ns) = ns.filter fun n => decide (n < w)
  | [], _ => rfl
  | x :: r, h => by
    obtain ⟨h1, h2⟩ := List.pairwise_cons.mp h
    unfold counted
    by_cases hx : x < w
    · rw [List.filter_cons_of_pos (by simpa using hx), List.length_cons, List.take_succ_cons]
      exact congrArg (x :: ·) (filter_asc h2)
    · have e : (x :: r).filter (fun n => decide (n < w)) = [] := by
        rw [List.filter_eq_nil_iff]
        intro y hy
        rcases List.mem_cons.mp hy with e | e
        · simpa [e] using hx
        · have := h1 y e
          simp only [decide_eq_true_eq]
          omega
      rw [e]
      rfl
theorem sum_filter (w : Int) : ∀ ns : List Int, ((ns.filter fun n => decide (n < w)).map fun n => w - n).sum = pw w ns
  | [] => rfl
  | x :: r => by
    have ih := sum_filter w r
    unfold pw at ih ⊢
    rw [List.map_cons, List.sum_cons]
    by_cases hx : x < w
    · rw [List.filter_cons_of_pos (by simpa using hx), List.map_cons, List.sum_cons, ih, if_neg (by omega)]
    · rw [List.filter_cons_of_neg (by simpa using hx), ih]
      by_cases hz : 0 > w - x
      · rw [if_pos hz]; omega
      · rw [if_neg hz]; omega
theorem counted_le (w : Int) (ns : List Int) : counted w ns ≤ ns.length := List.length_filter_le _ _
theorem sizeP_pw {w : Int} {ns : List Int} {c : Nat} (h : ns.Pairwise (· ≤ ·)) : sizeP w ns c = pw w (ns.take c) := by
  unfold sizeP
  have hc : counted w (ns.take c) ≤ c := Nat.le_trans (counted_le _ _) (List.length_take_le _ _)
  have e : ns.take (counted w (ns.take c)) = (ns.take c).take (counted w (ns.take c)) := by
    rw [List.take_take, Nat.min_eq_left hc]
  rw [e, filter_asc (h.sublist (List.take_sublist _ _)), sum_filter]
theorem pw_nonneg (w : Int) (ns : List Int) : 0 ≤ pw w ns := by
  unfold pw
  induction ns with
  | nil => exact Int.le_refl _
  | cons x r ih =>
    rw [List.map_cons, List.sum_cons]
    split <;> omega
theorem pw_le {w : Int} {ns : List Int} (h0 : 0 ≤ w) (h : ∀ x ∈ ns, 0 ≤ x) : pw w ns ≤ w * (ns.length : Int) := by
  unfold pw
  induction ns with
  | nil => simp
  | cons x r ih =>
    have ih := ih fun y hy => h y (List.mem_cons_of_mem _ hy)
    have hx := h x List.mem_cons_self
    rw [List.map_cons, List.sum_cons, List.length_cons]
    have e : w * ((r.length + 1 : Nat) : Int) = w * (r.length : Int) + w := by
      rw [Int.natCast_add, Int.mul_add]
      simp
    rw [e]
    split <;> omega
theorem pw_succ (w : Int) (ns : List Int) : pw (w + 1) ns = pw w ns + (counted (w + 1) ns : Int) := by
  unfold pw counted
  induction ns with
  | nil => rfl
  | cons x r ih =>
    rw [List.map_cons, List.sum_cons, List.map_cons, List.sum_cons, ih]
    by_cases hx : x < w + 1
    · rw [List.filter_cons_of_pos (by simpa using hx), List.length_cons]
      rw [if_neg (show ¬ 0 > w + 1 - x by omega), if_neg (show ¬ 0 > w - x by omega)]
      omega
    · rw [List.filter_cons_of_neg (by simpa using hx), if_pos (show 0 > w - x by omega)]
      by_cases hz : 0 > w + 1 - x
      · rw [if_pos hz]; omega
      · rw [if_neg hz]; omega
/-- the items told by the law: each number and 1, at most the width -/
theorem counted_due (w : Int) : ∀ ns : List Int, ((ns.map fun n => n + 1).filter fun i => decide (i ≤ w)).length = counted w ns
  | [] => rfl
  | x :: r => by
    have ih := counted_due w r
    unfold counted at ih ⊢
    rw [List.map_cons]
    by_cases hx : x < w
    · rw [List.filter_cons_of_pos (by simp; omega), List.filter_cons_of_pos (by simpa using hx), List.length_cons, List.length_cons, ih]
    · rw [List.filter_cons_of_neg (by simp; omega), List.filter_cons_of_neg (by simpa using hx), ih]
theorem pw_due (w : Int) (ns : List Int) : ((ns.map fun n => n + 1).map fun i => if 0 > w - i + 1 then 0 else w - i + 1).sum = pw w ns := by
  unfold pw
  rw [List.map_map]
  congr 1
  apply List.map_congr_left
  intro x _
  show (if 0 > w - (x + 1) + 1 then (0 : Int) else w - (x + 1) + 1) = _
  rw [show w - (x + 1) + 1 = w - x by omega]
theorem two_succ {w : Int} {ns : List Int} : (2 : Int) ^ (pw (w + 1) ns).toNat = 2 ^ (pw w ns).toNat * 2 ^ (counted (w + 1) ns) := by
  have h := pw_nonneg w ns
  rw [pw_succ, ← Int.pow_add]
  congr 1
  omega
/-! ### the first width -/
/-- the least width of which a greatest place is a word -/
def bitsOf (last : Int) : Nat := if last < 2 then 1 else last.toNat.log2 + 1
theorem bitsOf_pos (l : Int) : 1 ≤ bitsOf l := by
  unfold bitsOf
  split <;> omega
theorem bitsOf_lt {l : Int} {f : Nat} (hf : 1 ≤ f) : (2 : Int) ^ f ≤ l ↔ f < bitsOf l := by
  unfold bitsOf
  have hp : ∀ k : Nat, ((2 : Int) ^ k) = ((2 ^ k : Nat) : Int) := fun k => by rw [Int.natCast_pow]; rfl
  have h2 : 2 ≤ 2 ^ f := by
    have := Nat.pow_le_pow_right (n := 2) (by decide) hf
    exact this
  rw [hp]
  by_cases h : l < 2
  · rw [if_pos h]
    constructor <;> intro q <;> omega
  · rw [if_neg h]
    have hn : l.toNat ≠ 0 := by omega
    have := Nat.le_log2 (n := l.toNat) (k := f) hn
    constructor
    · intro q
      have : f ≤ l.toNat.log2 := this.mpr (by omega)
      omega
    · intro q
      have := this.mp (by omega)
      omega
theorem lt_bitsOf (l : Int) : l < 2 ^ bitsOf l := by
  have h : ¬ (2 : Int) ^ bitsOf l ≤ l := fun q => Nat.lt_irrefl _ ((bitsOf_lt (bitsOf_pos l)).mp q)
  omega
theorem bitsOf_le {l : Int} {w : Nat} (hw : 1 ≤ w) (h : l < 2 ^ w) : bitsOf l ≤ w := by
  have : ¬ w < bitsOf l := fun q => by
    have := (bitsOf_lt (l := l) (f := w) hw).mpr q
    omega
  omega
/-! ### the least width with so many codewords -/
/-- the first of first, first + 1, .., 64 at which the power is reached -/
def wfor (first : Nat) (ns : List Int) (many : Int) : Option Int :=
  ((List.range (65 - first)).map fun i : Nat => (first : Int) + (i : Int)).find? fun w => decide (many ≤ pw w ns)
def powers (first : Nat) (ns : List Int) : List Int := (List.range (65 - first)).map fun i : Nat => pw ((first : Int) + (i : Int)) ns
def reached (first : Nat) (ns : List Int) (many : Int) : List Int :=
  ((List.range (65 - first)).map fun i : Nat => (first : Int) + (i : Int)).filter fun w => decide (many ≤ pw w ns)
theorem reached_head (first : Nat) (ns : List Int) (many : Int) : (reached first ns many).head? = wfor first ns many := List.head?_filter ..
/-- the loop of the program: at turn i none ahead is enough -/
theorem wfor_none {first : Nat} {ns : List Int} {many : Int} (h : ∀ j, j < 65 - first → ¬ many ≤ pw ((first : Int) + (j : Int)) ns) : wfor first ns many = none := by
  unfold wfor
  rw [List.find?_eq_none]
  intro x hx
  obtain ⟨j, hj, rfl⟩ := List.mem_map.mp hx
  have := h j (List.mem_range.mp hj)
  simpa using this
theorem wfor_some {first i : Nat} {ns : List Int} {many : Int} (hi : i < 65 - first) (h : ∀ j, j < i → ¬ many ≤ pw ((first : Int) + (j : Int)) ns) (hh : many ≤ pw ((first : Int) + (i : Int)) ns) : wfor first ns many = some ((first : Int) + (i : Int)) := by
  unfold wfor
  rw [List.find?_eq_some_iff_getElem]
  refine ⟨by simpa using hh, i, by simpa using hi, by simp, fun j hj => ?_⟩
  have := h j hj
  simpa using this
end K17
set_option maxHeartbeats 4000000
/-! The program's smallest defs. -/
namespace K17
open PySem PySem.Spec PyProof.Rows L2 Evl
/-! ### what stands where -/
/-- the def st stands behind the module's name x -/
structure At (K : PySem.W.Frag) (mg : Str → Option Value) (x : Str) (st : Stmt) : Prop where
  ex : ∃ (f : Addr) (fd : FuncData), Fun K x x st f fd ∧ mg x = some (.ref f)
/-- built-in names that the text does not bind -/
structure Free (mg : Str → Option Value) : Prop where
  isinstance : mg "isinstance" = none
  int : mg "int" = none
  bool : mg "bool" = none
  list : mg "list" = none
  len : mg "len" = none
  min : mg "min" = none
  zip : mg "zip" = none
  range : mg "range" = none
  sum : mg "sum" = none
  max : mg "max" = none
  sorted : mg "sorted" = none
  enumerate : mg "enumerate" = none
  repr : mg "repr" = none
/-- a def that keeps its promise, to be called by its name -/
structure Cal (P : Program) (w : World) (K : PySem.W.Frag) (mg : Str → Option Value) (base : Heap) (k : Nat) (x : Str) (ps : List Str) (sp : Sp) : Prop where
  ex : ∃ (f : Addr) (fd : FuncData), FnOk P w K mg base CX0 k f fd ps sp ∧ mg x = some (.ref f) ∧ PySem.W.keepIn K (.ref f) = true ∧ Binds K fd ps []
section
variable {X : Cx} {k j : Nat} {ps : List Str} {sp : Sp} {x : Str} {p pos : Pos} {e : Expr} {es : List Expr} {t : TA}
theorem Cal.call (C : Cal X.prog X.w X.K X.mg X.base k x ps sp) (hr : Room j X.A) (ha : PA X (e :: es) t) (hj : k ≤ j := by decide) (hg : Gl X x := by rfl)
    (hdb : (x == ("__debug__" : Str)) = false := by decide) (he : starEach (e :: es) X.env = (false, eval e X.env) :: starEach es X.env := by rfl) (hpl : (backTo pos (starEach es X.env)).any (·.1) = false := by rfl) :
    PE X (.Call (.Name x p) (e :: es) [] pos) (tCall sp [] E0 t) := by
  obtain ⟨f, fd, F, hm, hk, hb⟩ := C.ex
  exact pe_call F (hr.mono hj) hg hm hk hb .nil pass0 ha hdb he hpl
end
section
variable {P : Program} {w : World} {K : PySem.W.Frag} {mg : Str → Option Value} {base : Heap}
theorem cal_of {x : Str} {st : Stmt} {N ps : List Str} {k : Nat} {sp : Sp} (D : At K mg x st) (S : FnScope N ps (defScope st)) (len : ∀ vs H Q E, sp vs H Q E → vs.length = ps.length)
    (bind : ∀ (kV doc pm : Value) (an : Option Addr) (cdv ct : Value) (us : List Value), us.length = ps.length → bindArgs (PySem.W.fnOf x x (defArgs st) (defBody st) (defScope st) .none kV doc pm an cdv ct) ⟨us, []⟩ = pure (ps.zip us))
    (body : ∀ (f : Addr) (cdv : Value) (A : Around) (outer : List Env) (s : Shared) (H : Hp) (vs : List V) (Q : VK) (E : XK), Room k (A.deeper (envOfC x (defScope st) s.heap.objs.size f cdv)) → sp vs H Q E →
      ∃ t, PSs (cxOf CX0 P w K mg base N x (defScope st) f cdv A outer s H E).nox (defBody st) t ∧ t { nx := fun _ H' => Q .non H', rt := Q } (start N vs) H) : Cal P w K mg base (k + 1) x ps sp := by
  obtain ⟨f, fd, F, hm⟩ := D.ex
  exact ⟨f, fd, F.ok S len (body f), hm, F.kp, F.binds bind⟩
/-! ### is_whole: of an int, True -/
def spWhole : Sp := fun vs H Q _ => ∃ i : Int, vs = [.int i] ∧ RetV (.bl true) H Q
theorem cal_whole (D : At K mg "is_whole" dIsWhole) (m : Free mg) : Cal P w K mg base 1 "is_whole" ["value"] spWhole := by
  refine cal_of D scIsWhole (fun vs H Q E h => ?_) (fun _ _ _ _ _ _ us hl => match us, hl with | [_], _ => rfl) (fun f cdv A outer s H vs Q E hr h => ?_)
  · obtain ⟨i, rfl, _⟩ := h
    rfl
  · obtain ⟨i, rfl, q⟩ := h
    refine ⟨_, pss_one (ps_ret (pe_and (pe_callB call_isi (by rfl) m.isinstance boot_isinstance (pa_cons (pv 0) (pa_cons (pe_bltn (v := .ty "int") (by rfl) m.int boot_int rfl) pa_nil)))
      (pe_one (pe_not (pe_callB call_isi (by rfl) m.isinstance boot_isinstance (pa_cons (pv 0) (pa_cons (pe_bltn (v := .ty "bool") (by rfl) m.bool boot_bool rfl) pa_nil))))))), ?_⟩
    refine ⟨_, rfl, _, _, _, _, true, rfl, .ty _, .base (.int i), kit_ty (by decide +kernel), true, rfl, iteT ?_⟩
    refine ⟨_, rfl, _, _, _, _, false, rfl, .ty _, .base (.int i), kit_ty (by decide +kernel), false, rfl, ?_⟩
    exact q H (Ex.refl H)
/-! ### is_between: of an int within the bounds, True -/
def spBetween : Sp := fun vs H Q _ => ∃ (i l : Int) (hi : V), vs = [.int i, .int l, hi] ∧ l ≤ i ∧ (hi = .non ∨ ∃ h, hi = .int h ∧ i ≤ h) ∧ RetV (.bl true) H Q
theorem cal_between (D : At K mg "is_between" dIsBetween) (C : Cal P w K mg base 1 "is_whole" ["value"] spWhole) : Cal P w K mg base 2 "is_between" ["value", "low", "high"] spBetween := by
  refine cal_of D scIsBetween (fun vs H Q E h => ?_) (fun _ _ _ _ _ _ us hl => match us, hl with | [_, _, _], _ => rfl) (fun f cdv A outer s H vs Q E hr h => ?_)
  · obtain ⟨i, l, hi, rfl, _⟩ := h
    rfl
  · obtain ⟨i, l, hi, rfl, h1, h2, q⟩ := h
    refine ⟨_, pss_cons (ps_if (pt_not (pt_val (C.call hr (pa_cons (pv 0) pa_nil)))) pss_never pss_nil)
      (pss_one (ps_ret (pe_and (pe_or (pe_cmp (pc_isN (pv 1)) rfl) (pe_one (pe_cmp (pc_ge (pv 0) (pv 1)) rfl))) (pe_one (pe_or (pe_cmp (pc_isN (pv 2)) rfl) (pe_one (pe_cmp (pc_le (pv 0) (pv 2)) rfl))))))), ?_⟩
    refine ⟨_, rfl, i, rfl, fun H1 e1 => ⟨true, rfl, iteF ?_⟩⟩
    refine ⟨_, rfl, false, rfl, iteF ⟨_, rfl, _, rfl, _, _, rfl, rfl, true, ?_, iteT ?_⟩⟩
    · show V.bl (decide (l ≤ i)) = _
      rw [decide_eq_true h1]
    · rcases h2 with rfl | ⟨h, rfl, h3⟩
      · exact ⟨_, rfl, true, rfl, iteT (q H1 e1)⟩
      · refine ⟨_, rfl, false, rfl, iteF ⟨_, rfl, _, rfl, _, _, rfl, rfl, ?_⟩⟩
        show Q (.bl (decide (i ≤ h))) H1
        rw [decide_eq_true h3]
        exact q H1 e1
/-! ### check_number: nothing is raised -/
def spCheckNumber : Sp := fun vs H Q _ => ∃ (i l : Int) (hi : V), vs = [.int i, .int l, hi] ∧ l ≤ i ∧ (hi = .non ∨ ∃ h, hi = .int h ∧ i ≤ h) ∧ RetV .non H Q
theorem cal_checkNumber (D : At K mg "check_number" dCheckNumber) (C : Cal P w K mg base 2 "is_between" ["value", "low", "high"] spBetween) : Cal P w K mg base 3 "check_number" ["number", "low", "high"] spCheckNumber := by
  refine cal_of D scCheckNumber (fun vs H Q E h => ?_) (fun _ _ _ _ _ _ us hl => match us, hl with | [_, _, _], _ => rfl) (fun f cdv A outer s H vs Q E hr h => ?_)
  · obtain ⟨i, l, hi, rfl, _⟩ := h
    rfl
  · obtain ⟨i, l, hi, rfl, h1, h2, q⟩ := h
    refine ⟨_, pss_one (ps_if (pt_not (pt_val (C.call hr (pa_cons (pv 0) (pa_cons (pv 1) (pa_cons (pv 2) pa_nil)))))) pss_never pss_nil), ?_⟩
    refine ⟨_, rfl, _, rfl, _, rfl, i, l, hi, rfl, h1, h2, fun H1 e1 => ⟨true, rfl, iteF ?_⟩⟩
    exact q H1 e1
/-! ### power_of_two -/
def spPow : Sp := fun vs H Q _ => ∃ j : Int, vs = [.int j] ∧ 0 ≤ j ∧ j ≤ 1000000 ∧ RetV (.int (2 ^ j.toNat)) H Q
theorem cal_pow (D : At K mg "power_of_two" dPowerOfTwo) : Cal P w K mg base 1 "power_of_two" ["many"] spPow := by
  refine cal_of D scPowerOfTwo (fun vs H Q E h => ?_) (fun _ _ _ _ _ _ us hl => match us, hl with | [_], _ => rfl) (fun f cdv A outer s H vs Q E hr h => ?_)
  · obtain ⟨i, rfl, _⟩ := h
    rfl
  · obtain ⟨j, rfl, h0, h1, q⟩ := h
    refine ⟨_, pss_one (ps_ret (pe_op op_shl pe_int (pv 0))), ?_⟩
    refine ⟨_, rfl, 1, j, rfl, rfl, ⟨h0, h1, by decide⟩, ?_⟩
    show Q (.int (1 * 2 ^ j.toNat)) H
    rw [Int.one_mul]
    exact q H (Ex.refl H)
/-! ### twos -/
def spTwos : Sp := fun vs H Q _ => ∃ d : Int, vs = [.int d] ∧ d ≠ 0 ∧ d.natAbs < 2 ^ 64 ∧ RetV (.int (tw d)) H Q
theorem half_abs {d : Int} (h : d % 2 = 0) : (d / 2).natAbs = d.natAbs / 2 := by omega
theorem cal_twos (D : At K mg "twos" dTwos) : Cal P w K mg base 1 "twos" ["number"] spTwos := by
  refine cal_of D scTwos (fun vs H Q E h => ?_) (fun _ _ _ _ _ _ us hl => match us, hl with | [_], _ => rfl) (fun f cdv A outer s H vs Q E hr h => ?_)
  · obtain ⟨i, rfl, _⟩ := h
    rfl
  · obtain ⟨d, rfl, h0, h1, q⟩ := h
    refine ⟨_, pss_cons (ps_set (i := 1) scTwos.nd rfl (.inl rfl) pe_int)
      (pss_cons (ps_while PassesOwn.never (pt_cmpR op_eq (pe_op op_mod (pv 0) pe_int) pe_int (nomark _))
        (pss_one (ps_par (i := 0) (j := 1) rfl scTwos.nd rfl rfl (by decide) rfl rfl (pa_cons (pe_op op_fdiv (pv 0) pe_int) (pa_cons (pe_op op_add (pv 1) pe_int) pa_nil)) (by rfl))))
      (pss_one (ps_ret (pv 1)))), ?_⟩
    show tWhile _ _ _ _ _
    refine ⟨fun m σ H' => ∃ (n c : Int), σ = [some (.int n), some (.int c)] ∧ H' = H ∧ n ≠ 0 ∧ n.natAbs < 2 ^ m ∧ c + (twF m n.natAbs : Nat) = tw d, ⟨64, d, 0, rfl, rfl, h0, h1, by unfold tw; omega⟩, ?_⟩
    rintro m σ H' ⟨n, c, rfl, hH, n0, n1, e⟩
    subst H'
    refine ⟨_, rfl, n, 2, rfl, rfl, (by show (0 : Int) < 2; decide), rfl, _, rfl, ite2 (fun hd => ?_) (fun hd => ?_)⟩
    · have hz : n % 2 = 0 := V.int.inj (of_decide_eq_true hd)
      cases m with
      | zero =>
        rw [Nat.pow_zero] at n1
        omega
      | succ m =>
        obtain ⟨t1, t2⟩ := tw_turn n1 (show n.natAbs % 2 = 0 by omega)
        refine ⟨fun σ H' => σ = [some (.int (n / 2)), some (.int (c + 1))] ∧ H' = H, fun σ' H1 hN => ?_, ?_⟩
        · obtain ⟨rfl, rfl⟩ := hN
          refine ⟨m, Nat.lt_succ_self _, n / 2, c + 1, rfl, rfl, by omega, by rw [half_abs hz]; exact t2, ?_⟩
          rw [half_abs hz]
          rw [t1] at e
          omega
        · exact ⟨_, rfl, n, 2, rfl, rfl, ⟨by decide, by decide⟩, _, rfl, c, 1, rfl, rfl, _, _, rfl, rfl, rfl⟩
    · have hz : ¬ n % 2 = 0 := fun q => hd (decide_eq_true (congrArg V.int q))
      refine ⟨_, rfl, ?_⟩
      rw [tw_stop (show ¬ n.natAbs % 2 = 0 by omega)] at e
      have ec : c = tw d := by omega
      rw [ec]
      exact q H (Ex.refl H)
end
end K17
set_option maxHeartbeats 4000000
/-! Lists of ints as data, comprehensions by pairs and over ranges. -/
namespace K17
open PySem PySem.Spec PyProof.Rows L2 Evl
/-! ### data -/
theorem lay_all : ∀ ns : List Int, PyData.canLayAll0 (ns.map PyData.int) = true
  | [] => rfl
  | n :: r => by
    rw [List.map_cons]
    simp only [PyData.canLayAll0, PyData.canLay0, lay_all r, Bool.and_self]
theorem depth_all : ∀ ns : List Int, PyData.depthAll (ns.map PyData.int) ≤ 4
  | [] => by decide
  | n :: r => by
    have := depth_all r
    rw [List.map_cons]
    simp only [PyData.depthAll, PyData.depth]
    omega
theorem shaped_ints (ns : List Int) : SeqAt.shaped (dInts ns) = true := by
  unfold SeqAt.shaped dInts
  have := depth_all ns
  rw [Bool.and_eq_true]
  refine ⟨?_, ?_⟩
  · simp only [PyData.canLay0, lay_all]
  · rw [decide_eq_true_eq]
    simp only [PyData.depth]
    omega
theorem eqv_all : ∀ xs ys : List Int, PyData.eqvAll (xs.map PyData.int) (ys.map PyData.int) = decide (xs = ys)
  | [], [] => rfl
  | [], y :: s => rfl
  | x :: r, [] => rfl
  | x :: r, y :: s => by
    rw [List.map_cons, List.map_cons]
    simp only [PyData.eqvAll, PyData.eqv, eqv_all r s]
    by_cases h : x = y
    · subst h
      by_cases h2 : r = s
      · subst h2; simp
      · simp [h2]
    · simp [h]
theorem eqv_ints (xs ys : List Int) : PyData.eqv (dInts xs) (dInts ys) = decide (xs = ys) := by
  unfold dInts
  simp only [PyData.eqv, eqv_all]
section
variable {K : PySem.W.Frag} {σ : L2.St} {H : Hp}
/-- == of two lists of ints -/
theorem rv_eqInts {a b : Addr} {xs ys : List Int} (ha : SqL K H a (xs.map V.int)) (hb : SqL K H b (ys.map V.int)) : RV (rEqD K) (.ref a) (.ref b) H (.bl (decide (xs = ys))) := fun H1 e Q q =>
  ⟨dInts xs, dInts ys, dp_ints (ex_l e ha), dp_ints (ex_l e hb), shaped_ints _, shaped_ints _, by rw [eqv_ints]; exact q H1 (Ex.refl H1)⟩
theorem rv_neInts {a b : Addr} {xs ys : List Int} (ha : SqL K H a (xs.map V.int)) (hb : SqL K H b (ys.map V.int)) : RV (rNeD K) (.ref a) (.ref b) H (.bl (!decide (xs = ys))) := fun H1 e Q q =>
  ⟨dInts xs, dInts ys, dp_ints (ex_l e ha), dp_ints (ex_l e hb), shaped_ints _, shaped_ints _, by rw [eqv_ints]; exact q H1 (Ex.refl H1)⟩
theorem el_nil : EvL (tLst tNil) σ H [] := el_lst ea_nil (Nat.zero_le _)
theorem el_nilI : EvL (tLst tNil) σ H (([] : List Int).map V.int) := el_nil
end
/-! ### a, b = a pair: two plain local names -/
theorem pg_two {X : Cx} {i j : Nat} {x y : Str} {p1 p2 tp : Pos} {k : Nat} (hc : X.calm = true) (hN : X.N.Nodup) (hi : X.N[i]? = some x) (hj : X.N[j]? = some y) (hx : X.env.scope.names.lookup x = some .local) (hy : X.env.scope.names.lookup y = some .local) :
    PG X (.Tuple [.Name x p1, .Name y p2] k tp) (gTup X.K 2 (gCons (gName i) (gCons (gName j) gNil))) :=
  pg_tup hc (pgs_cons (pg_name hN hi (.inl hx) (.inr hx)) (pgs_cons (pg_name hN hj (.inl hy) (.inr hy)) pgs_nil))
/-! ### slices -/
theorem cut_to (xs : List V) (c : Nat) : cutV xs none (some (c : Int)) = xs.take c := by
  unfold cutV
  rw [HT.sIx_none, HT.sIx_nat]
  show List.take (min c xs.length - 0) (List.drop 0 xs) = _
  rw [List.drop_zero, Nat.sub_zero]
  rcases Nat.le_total c xs.length with h | h
  · rw [Nat.min_eq_left h]
  · rw [Nat.min_eq_right h, List.take_of_length_le (Nat.le_refl _), List.take_of_length_le h]
theorem cut_from (xs : List V) (c : Nat) : cutV xs (some (c : Int)) none = xs.drop c := by
  unfold cutV
  rw [HT.sIx_none, HT.sIx_nat]
  rcases Nat.le_total c xs.length with h | h
  · rw [Nat.min_eq_left h, List.take_of_length_le (by rw [List.length_drop]; exact Nat.le_refl _)]
  · rw [Nat.min_eq_right h, List.drop_eq_nil_of_le (Nat.le_refl _), List.drop_eq_nil_of_le h, List.take_nil]
/-! ### comprehensions: what they give -/
theorem given_all (n : Nat) (v : Nat → V) : given n (fun _ => true) v = (List.range n).map v := by
  unfold given
  rw [List.filter_eq_self.mpr (fun _ _ => rfl)]
/-- over a list of ints: kept by p, each turned by g -/
theorem given_ints (ns : List Int) (p : Int → Bool) (g : Int → V) : given ns.length (fun i => p (ns.getD i 0)) (fun i => g (ns.getD i 0)) = (ns.filter p).map g := by
  have e : ns = (List.range ns.length).map fun i => ns.getD i 0 := by
    apply List.ext_getElem
    · simp
    · intro i h1 h2
      simp [h1]
  unfold given
  generalize hf : (fun i => ns.getD i 0) = f at e
  have e1 : (fun i => p (ns.getD i 0)) = p ∘ f := by rw [← hf]; rfl
  have e2 : (fun i => g (ns.getD i 0)) = g ∘ f := by rw [← hf]; rfl
  rw [e1, e2]
  conv => rhs; rw [e, List.filter_map, List.map_map]
theorem int_at {ns : List Int} {i : Nat} {x : V} (h : (ns.map V.int)[i]? = some x) : x = .int (ns.getD i 0) ∧ i < ns.length := by
  rw [List.getElem?_map] at h
  cases e : ns[i]? with
  | none => rw [e] at h; cases h
  | some n =>
    rw [e] at h
    cases h
    obtain ⟨hi, he⟩ := List.getElem?_eq_some_iff.mp e
    rw [List.getD_eq_getElem?_getD, e]
    exact ⟨rfl, hi⟩
theorem int_get {ns : List Int} {i : Nat} (h : i < ns.length) : (ns.map V.int)[i]? = some (.int (ns.getD i 0)) := by
  rw [List.getElem?_map, List.getD_eq_getElem?_getD, List.getElem?_eq_getElem h]
  rfl
section
variable {K : PySem.W.Frag} {σ : L2.St} {H : Hp} {t : TT} {te : TE}
/-- over a range from lo -/
theorem el_lcR2 {ta : TA} {j : Nat} {vs : List Nat} {lo n : Int} (f : Nat → Bool) (v : Nat → V) (h : EvA ta σ H [.int lo, .int n]) (hn : 0 ≤ lo ∧ lo ≤ 10000 ∧ -10000 ≤ n ∧ n ≤ 10000) (hw : ∀ x, wipe ((wipe σ vs).set j (some x)) vs = wipe σ vs)
    (ht : ∀ (i : Nat) H1, Ex H H1 → lo + (i : Int) < n → EvT t ((wipe σ vs).set j (some (.int (lo + (i : Int))))) H1 (f i)) (he : ∀ (i : Nat) H1, Ex H H1 → lo + (i : Int) < n → f i = true → Ev te ((wipe σ vs).set j (some (.int (lo + (i : Int))))) H1 (v i)) :
    EvL (tLc (iRng2 ta) (gName j) t te vs) σ H (given (n - lo).toNat f v) := by
  intro H0 e Q q
  refine h H0 e _ fun H1 e1 => ⟨lo, n, rfl, ⟨by omega, by omega, by omega, by omega⟩, fun Dl hD => ?_⟩
  refine lc_range (lo := lo) (n := (n - lo).toNat) (Cw H1 f v Dl) ⟨hD, Ex.new hD, upd_same⟩ (fun i H' hi p => ⟨hw _, ?_⟩) fun H' p => q Dl H' (fresh_back e1 p.1) (e1.trans p.2.1) p.2.2
  exact cw_turn p (by omega) (ht i H1 (e.trans e1) (by omega)) (fun hf => he i H1 (e.trans e1) (by omega) hf)
theorem et_yes : EvT tYes σ H true := fun H1 _ Q q => q H1 (Ex.refl H1)
/-- over a new list of ints: kept by p, each turned by g -/
theorem el_ints {tl : TE} {ns : List Int} {j : Nat} {vs : List Nat} (p : Int → Bool) (g : Int → V) (h : EvL tl σ H (ns.map V.int)) (hn : ns.length ≤ 40000) (hw : ∀ x, wipe ((wipe σ vs).set j (some x)) vs = wipe σ vs)
    (ht : ∀ n, n ∈ ns → ∀ H1, Ex H H1 → EvT t ((wipe σ vs).set j (some (.int n))) H1 (p n)) (he : ∀ n, n ∈ ns → p n = true → ∀ H1, Ex H H1 → Ev te ((wipe σ vs).set j (some (.int n))) H1 (g n)) :
    EvL (tLc (iList K tl) (gName j) t te vs) σ H ((ns.filter p).map g) := by
  have q := el_lcNL (K := K) (t := t) (te := te) (fun i => p (ns.getD i 0)) (fun i => g (ns.getD i 0)) h (by rw [List.length_map]; exact hn) hw
    (fun i x H1 e1 hx => by
      obtain ⟨rfl, hi⟩ := int_at hx
      exact ht _ (List.getD_eq_getElem?_getD (l := ns) ▸ by rw [List.getElem?_eq_getElem hi]; exact List.getElem_mem hi) H1 e1)
    (fun i x H1 e1 hx hp => by
      obtain ⟨rfl, hi⟩ := int_at hx
      exact he _ (List.getD_eq_getElem?_getD (l := ns) ▸ by rw [List.getElem?_eq_getElem hi]; exact List.getElem_mem hi) hp H1 e1)
  rw [List.length_map, given_ints ns p g] at q
  exact q
/-- over a list of ints that stands -/
theorem el_intsA {tl : TE} {a : Addr} {ns : List Int} {j : Nat} {vs : List Nat} (p : Int → Bool) (g : Int → V) (h : Ev tl σ H (.ref a)) (hx : SqL K H a (ns.map V.int)) (hn : ns.length ≤ 40000) (hw : ∀ x, wipe ((wipe σ vs).set j (some x)) vs = wipe σ vs)
    (ht : ∀ n, n ∈ ns → ∀ H1, Ex H H1 → EvT t ((wipe σ vs).set j (some (.int n))) H1 (p n)) (he : ∀ n, n ∈ ns → p n = true → ∀ H1, Ex H H1 → Ev te ((wipe σ vs).set j (some (.int n))) H1 (g n)) :
    EvL (tLc (iList K tl) (gName j) t te vs) σ H ((ns.filter p).map g) := by
  have q := el_lcL (K := K) (t := t) (te := te) (fun i => p (ns.getD i 0)) (fun i => g (ns.getD i 0)) h hx (by rw [List.length_map]; exact hn) hw
    (fun i x H1 e1 hx => by
      obtain ⟨rfl, hi⟩ := int_at hx
      exact ht _ (List.getD_eq_getElem?_getD (l := ns) ▸ by rw [List.getElem?_eq_getElem hi]; exact List.getElem_mem hi) H1 e1)
    (fun i x H1 e1 hx hp => by
      obtain ⟨rfl, hi⟩ := int_at hx
      exact he _ (List.getD_eq_getElem?_getD (l := ns) ▸ by rw [List.getElem?_eq_getElem hi]; exact List.getElem_mem hi) hp H1 e1)
  rw [List.length_map, given_ints ns p g] at q
  exact q
theorem fil_true (ns : List Int) : ns.filter (fun _ => true) = ns := List.filter_eq_self.mpr fun _ _ => rfl
/-- over pairs -/
theorem lc_pairs {J : It} {n : Nat} {G : Hp → Prop} {fx fy : Nat → Option V} (Wk : Walk J n G (YPair fx fy)) {vs : List Nat} {H1 : Hp} {Dl : Addr} {Qd : Hp → Prop} {j1 j2 : Nat} (f : Nat → Bool) (v : Nat → V) (hD : H1 Dl = none) (hn : n ≤ 40000) (hG : ∀ H', Ex H1 H' → G H')
    (hw : ∀ x y, wipe (((wipe σ vs).set j1 (some x)).set j2 (some y)) vs = wipe σ vs)
    (ht : ∀ i x y H', Ex H1 H' → i < n → fx i = some x → fy i = some y → EvT t (((wipe σ vs).set j1 (some x)).set j2 (some y)) H' (f i))
    (he : ∀ i x y H', Ex H1 H' → i < n → fx i = some x → fy i = some y → f i = true → Ev te (((wipe σ vs).set j1 (some x)).set j2 (some y)) H' (v i))
    (hd : ∀ H2, Ex H1 H2 → H2 Dl = some (.lst (given n f v)) → Qd H2) :
    ∃ W : Nat → Nat → Hp → Prop, (∃ m, W 0 m (upd H1 Dl (.lst []))) ∧ ∀ i m H, W i m H →
      (J.stop i H ∧ Qd H) ∨ (J.go i H ∧ ∃ Nx : Hp → Prop, (∀ H', Nx H' → ∃ m', m' < m ∧ W (i + 1) m' H') ∧ ∀ x H', J.yld i H x H' → gTup K 2 (gCons (gName j1) (gCons (gName j2) gNil)) x (wipe σ vs) H' fun σ2 H2 => wipe σ2 vs = wipe σ vs ∧ t σ2 H2 fun b H3 =>
        if b = true then te σ2 H3 fun y H4 => ∃ acc, H4 Dl = some (.lst acc) ∧ acc.length < sizeLine ∧ Nx (upd H4 Dl (.lst (acc ++ [y]))) else Nx H3) := by
  refine lc_it Wk (Cw H1 f v Dl) ⟨hD, Ex.new hD, upd_same⟩ (fun i H' _ p => hG H' p.2.1) (fun i x H' H'' hi p hy => ?_) fun H' p => hd H' p.2.1 p.2.2
  obtain ⟨T, a, b, rfl, hT, rfl, ha, hb⟩ := hy
  refine ⟨T, [a, b], rfl, st_of upd_same, rfl, a, [b], rfl, b, [], rfl, rfl, hw a b, ?_⟩
  have p2 : Cw H1 f v Dl i (upd H' T (.tup [a, b])) := by
    refine ⟨p.1, p.2.1.trans (Ex.new hT), ?_⟩
    rw [upd_ne (ne_of_none p.2.2 hT)]
    exact p.2.2
  exact cw_turn p2 (by omega) (ht i a b H1 (Ex.refl _) hi ha hb) (fun hf => he i a b H1 (Ex.refl _) hi ha hb hf)
/-- the strict zip is walked -/
theorem walk_zs {a b : Addr} {xs ys : List V} {n : Nat} (hx : xs.length = n) (hy : ys.length = n) : Walk (Izs K a b) n (fun H => SqL K H a xs ∧ SqL K H b ys) (YPair (fun i => xs[i]?) (fun i => ys[i]?)) := by
  refine ⟨fun i H hi g => ?_, fun H g => ⟨xs, ys, g.1, g.2, by omega, by omega⟩, fun i H v H' hi g y => ?_⟩
  · exact ⟨xs, ys, xs[i], ys[i], g.1, g.2, List.getElem?_eq_getElem (by omega), List.getElem?_eq_getElem (by omega)⟩
  · obtain ⟨T, x, y, e1, e2, e3, h1, h2⟩ := y
    exact ⟨T, x, y, e1, e2, e3, h1 xs g.1, h2 ys g.2⟩
end
end K17
set_option maxHeartbeats 4000000
/-! good_row, items_counted. -/
namespace K17
open PySem PySem.Spec PyProof.Rows L2 Evl
/-! ### places -/
/-- places that are words of 64 bits, each once -/
structure Plc (ps : List Int) : Prop where
  nd : ps.Nodup
  lo : ∀ p ∈ ps, 0 ≤ p ∧ p < 2 ^ 64
  few : ps.length ≤ 64
theorem sum_map_cong {l : List Int} {f g : Int → Int} (h : ∀ x ∈ l, f x = g x) : (l.map f).sum = (l.map g).sum := by rw [List.map_congr_left h]
/-- the first least item, as list.index finds it -/
theorem idx_ok {l : List Int} (h : l ≠ []) : (l.map V.int)[minAt l]? = some (.int (minL l)) ∧ eqV (.int (minL l)) (.int (minL l)) = true ∧
    ∀ (m : Nat) (z : V), m < minAt l → (l.map V.int)[m]? = some z → eqV z (.int (minL l)) = false := by
  refine ⟨?_, ?_, fun m z hm hz => ?_⟩
  · rw [List.getElem?_map, minAt_get h]
    rfl
  · show (minL l == minL l) = true
    exact beq_self_eq_true _
  · rw [List.getElem?_map] at hz
    cases e : l[m]? with
    | none => rw [e] at hz; cases hz
    | some x =>
      rw [e] at hz
      cases hz
      have := minAt_first hm e
      show (x == minL l) = false
      exact beq_eq_false_iff_ne.mpr this
theorem flat_ints (l : List Int) : (l.map V.int).all flatV = true := by
  rw [List.all_map]
  exact List.all_eq_true.mpr fun _ _ => rfl
theorem seq_nat {i n : Nat} (h : i < n) : seqIndex? (i : Int) n = some i := by
  unfold seqIndex?
  have h1 : ¬ (i : Int) < 0 := by omega
  have h2 : (i : Int) < (n : Int) := by omega
  have h3 : (0 : Int) ≤ (i : Int) := by omega
  simp [h1, h2, h3]
theorem map_erase (l : List Int) (i : Nat) : (l.map V.int).eraseIdx i = (l.eraseIdx i).map V.int := by
  rw [List.eraseIdx_eq_take_drop_succ, List.eraseIdx_eq_take_drop_succ, List.map_append, List.map_take, List.map_drop]
theorem rep_zero (n : Nat) : (List.replicate n [V.int 0]).flatten = (List.replicate n (0 : Int)).map V.int := by
  induction n with
  | zero => rfl
  | succ n ih => rw [List.replicate_succ, List.replicate_succ, List.flatten_cons, ih]; rfl
theorem getD_mem {l : List Int} {i : Nat} (h : i < l.length) : l.getD i 0 ∈ l := by
  rw [List.getD_eq_getElem?_getD, List.getElem?_eq_getElem h]
  exact List.getElem_mem h
theorem erase_ne {l : List Int} (nd : l.Nodup) {i : Nat} (hi : i < l.length) {p : Int} (hp : p ∈ l.eraseIdx i) : p ≠ l.getD i 0 := by
  rw [List.getD_eq_getElem?_getD, List.getElem?_eq_getElem hi]
  intro e
  obtain ⟨j, hj, ne, e2⟩ := List.mem_eraseIdx_iff_getElem.mp hp
  have := (List.getElem_inj nd).mp (e2.trans e)
  exact ne this
/-- what the loop of good_row keeps of its lists -/
structure Gk (ps order numbers left : List Int) (m : Nat) : Prop where
  len : left.length = m
  olen : order.length + m = ps.length
  nlen : numbers.length = order.length
  nd : left.Nodup
  sub : ∀ p ∈ left, p ∈ ps
  osub : ∀ p ∈ order, p ∈ ps
  ap : ∀ t ∈ order, ∀ p ∈ left, p ≠ t
  fin : gGo m order numbers left = good ps
theorem Gk.next {ps order numbers left : List Int} {m : Nat} (G : Gk ps order numbers left (m + 1)) :
    Gk ps (order ++ [left.getD (minAt (costs order left)) 0]) (numbers ++ [minL (costs order left)]) (left.eraseIdx (minAt (costs order left))) m ∧ minAt (costs order left) < left.length := by
  have h : left ≠ [] := fun e => by
    have := G.len
    rw [e] at this
    cases this
  have hlt : minAt (costs order left) < left.length := by
    have := minAt_lt (costs_ne (order := order) h)
    rw [costs_len] at this
    exact this
  refine ⟨⟨?_, ?_, ?_, ?_, ?_, ?_, ?_, ?_⟩, hlt⟩
  · rw [List.length_eraseIdx_of_lt hlt, G.len]
    rfl
  · have := G.olen
    rw [List.length_append, List.length_singleton]
    omega
  · have := G.nlen
    rw [List.length_append, List.length_singleton, List.length_append, List.length_singleton]
    omega
  · exact G.nd.sublist (List.eraseIdx_sublist _ _)
  · exact fun p hp => G.sub p (List.mem_of_mem_eraseIdx hp)
  · intro p hp
    rcases List.mem_append.mp hp with q | q
    · exact G.osub p q
    · rw [List.mem_singleton.mp q]
      exact G.sub _ (getD_mem hlt)
  · intro t ht p hp
    rcases List.mem_append.mp ht with q | q
    · exact G.ap t q p (List.mem_of_mem_eraseIdx hp)
    · rw [List.mem_singleton.mp q]
      exact erase_ne G.nd hlt hp
  · exact G.fin
theorem dist_ok {a b : Int} (ha : 0 ≤ a ∧ a < 2 ^ 64) (hb : 0 ≤ b ∧ b < 2 ^ 64) (h : a ≠ b) : a - b ≠ 0 ∧ (a - b).natAbs < 2 ^ 64 := by
  have e : (2 : Int) ^ 64 = 18446744073709551616 := by decide
  have e2 : (2 : Nat) ^ 64 = 18446744073709551616 := by decide
  rw [e] at ha hb
  rw [e2]
  omega
theorem zip_given (as bs : List Int) (t : Int) (n : Nat) (ha : as.length = n) (hb : bs.length = n) :
    given n (fun _ => true) (fun i => V.int (as.getD i 0 + tw (bs.getD i 0 - t))) = (List.zipWith (fun h p => h + tw (p - t)) as bs).map V.int := by
  rw [given_all]
  apply List.ext_getElem
  · simp [ha, hb]
  · intro i h1 h2
    have hi : i < n := by simpa using h1
    simp [List.getD_eq_getElem?_getD, ha, hb, hi]
theorem w64 : (2 : Int) ^ 64 = 18446744073709551616 := by decide
theorem few_line {n : Nat} (h : n ≤ 1000) : n < sizeLine := Nat.lt_of_le_of_lt h (by decide)
section
variable {P : Program} {w : World} {K : PySem.W.Frag} {mg : Str → Option Value} {base : Heap}
/-! ### good_row: a new pair of new lists, the good order and its numbers -/
def spGoodRow : Sp := fun vs H Q _ => ∃ (a : Addr) (ps : List Int), vs = [.ref a] ∧ H a = some (.lst (ps.map V.int)) ∧ Plc ps ∧
  ∀ (t o n : Addr) (H2 : Hp), Ex H H2 → H t = none → H o = none → H n = none → H2 t = some (.tup [.ref o, .ref n]) → H2 o = some (.lst ((good ps).1.map V.int)) → H2 n = some (.lst ((nums ps).map V.int)) → Q (.ref t) H2
theorem cal_goodRow (D : At K mg "good_row" dGoodRow) (m : Free mg) (C : Cal P w K mg base 1 "twos" ["number"] spTwos) : Cal P w K mg base 2 "good_row" ["places"] spGoodRow := by
  refine cal_of D scGoodRow (fun vs H Q E h => ?_) (fun _ _ _ _ _ _ us hl => match us, hl with | [_], _ => rfl) (fun f cdv A outer s H vs Q E hr h => ?_)
  · obtain ⟨a, ps, rfl, _⟩ := h
    rfl
  · obtain ⟨a, ps, rfl, ha, Pl, q⟩ := h
    refine ⟨_, pss_cons (ps_asg (pe_tup (pa_cons (pe_lst pa_nil) (pa_cons (pe_lst pa_nil) (pa_cons (pe_callTy call_list_of (by rfl) m.list boot_list (pa_cons (pv 0) pa_nil))
          (pa_cons (pe_op op_rep (pe_lst (pa_cons pe_int pa_nil)) (pe_callB call_len_seq (by rfl) m.len PySem.boot_len (pa_cons (pv 0) pa_nil))) pa_nil)))))
        (pg_tup rfl (pgs_cons (pg_name (i := 1) scGoodRow.nd rfl (.inl rfl)) (pgs_cons (pg_name (i := 2) scGoodRow.nd rfl (.inl rfl)) (pgs_cons (pg_name (i := 3) scGoodRow.nd rfl (.inl rfl)) (pgs_cons (pg_name (i := 4) scGoodRow.nd rfl (.inl rfl)) pgs_nil))))))
      (pss_cons (ps_while PassesOwn.never (pt_cmpR (op_neD hr.units) (pv 3) (pe_lst pa_nil) (nomark _))
        (pss_cons (ps_set (i := 5) scGoodRow.nd rfl (.inl rfl) (pe_bm PySem.F.plainAttrs_list PySem.F.slot_list_index PySem.F.type_list_index mt_index (pv 4) (pa_cons (pe_callB (cr_min rfl) (by rfl) m.min boot_min (pa_cons (pv 4) pa_nil)) pa_nil)))
        (pss_cons (ps_set (i := 6) scGoodRow.nd rfl (.inr rfl) (pe_bm PySem.F.plainAttrs_list PySem.F.slot_list_pop PySem.F.type_list_pop mt_popAt (pv 3) (pa_cons (pv 5) pa_nil)))
        (pss_cons (ps_expr (pe_bm PySem.F.plainAttrs_list PySem.F.slot_list_append PySem.F.type_list_append mt_append (pv 1) (pa_cons (pv 6) pa_nil)))
        (pss_cons (ps_expr (pe_bm PySem.F.plainAttrs_list PySem.F.slot_list_append PySem.F.type_list_append mt_append (pv 2) (pa_cons (pe_bm PySem.F.plainAttrs_list PySem.F.slot_list_pop PySem.F.type_list_pop mt_popAt (pv 4) (pa_cons (pv 5) pa_nil)) pa_nil)))
        (pss_one (ps_setLc (i := 4) (own := [("have", 7), ("place", 8)]) (g := gTup K 2 (gCons (gName 7) (gCons (gName 8) gNil))) (by rfl) scGoodRow.nd rfl rfl (sw_true rfl rfl rfl (by decide +kernel)) (pi_zs (by rfl) m.zip (pa_cons (pv 4) (pa_cons (pv 3) pa_nil)))
          (blkOk_by (own := [("have", 7), ("place", 8)]) (N := ["places", "order", "numbers", "left", "sums", "at", "taken", "have", "place"]) (sc := defScope dGoodRow) (by decide +kernel))
          (fun _ _ _ _ _ => pg_two (i := 7) (j := 8) rfl scGoodRow.nd rfl rfl rfl rfl)
          (fun _ _ _ _ _ => pts_nil)
          (fun _ _ _ _ _ => pe_op op_add (pv 7) (C.call hr (pa_cons (pe_op op_sub (pv 8) (pv 6)) pa_nil))))))))))
      (pss_one (ps_ret (pe_tup (pa_cons (pv 1) (pa_cons (pv 2) pa_nil)))))), ?_⟩
    -- order, numbers, left, sums = [], [], list(places), [0] * len(places)
    refine ⟨Nat.zero_le _, fun o no => ?_⟩
    refine ⟨Nat.zero_le _, fun n nn => ?_⟩
    have x1 : Ex H (upd H o (.lst [])) := Ex.new no
    have x2 : Ex H (upd (upd H o (.lst [])) n (.lst [])) := x1.trans (Ex.new nn)
    refine ⟨_, rfl, a, _, rfl, .inl (sq_of (x2 a _ ha)), fun l nl => ?_⟩
    have x3 := x2.trans (Ex.new (o := HO.lst (ps.map V.int)) nl)
    refine ⟨by show 1 ≤ sizeLine; decide, fun z nz => ?_⟩
    have x4 := x3.trans (Ex.new (o := HO.lst [V.int 0]) nz)
    refine ⟨_, rfl, a, _, rfl, .inl (sq_of (x4 a _ ha)), ?_⟩
    have hlen : ((ps.map V.int).length : Int) = (ps.length : Int) := by rw [List.length_map]
    have few := Pl.few
    refine ⟨z, _, _, rfl, rfl, upd_same, by rw [hlen]; omega, by rw [hlen]; omega, ?_, fun y ny => ?_⟩
    · rw [hlen, Int.toNat_natCast]
      exact Nat.le_trans (by show 1 * ps.length ≤ 64; omega) (show 64 ≤ sizeLine by decide)
    have x5 := x4.trans (Ex.new (o := HO.lst (List.replicate ((ps.map V.int).length : Int).toNat [V.int 0]).flatten) ny)
    refine ⟨by show 4 ≤ sizeLine; decide, fun t nt => ?_⟩
    refine ⟨t, _, rfl, st_of upd_same, rfl, .ref o, _, rfl, .ref n, _, rfl, .ref l, _, rfl, .ref y, _, rfl, rfl, ?_⟩
    -- the loop
    have x6 := x5.trans (Ex.new (o := HO.tup [V.ref o, V.ref n, V.ref l, V.ref y]) nt)
    refine ⟨fun k σ H' => ∃ (y : Addr) (order numbers left : List Int) (v5 v6 : Option V), σ = [some (.ref a), some (.ref o), some (.ref n), some (.ref l), some (.ref y), v5, v6, none, none] ∧
        Ex H H' ∧ H y = none ∧ H' o = some (.lst (order.map V.int)) ∧ H' n = some (.lst (numbers.map V.int)) ∧ H' l = some (.lst (left.map V.int)) ∧ H' y = some (.lst ((costs order left).map V.int)) ∧
        n ≠ o ∧ l ≠ o ∧ l ≠ n ∧ y ≠ o ∧ y ≠ n ∧ y ≠ l ∧ Gk ps order numbers left k, ⟨ps.length, ?_⟩, ?_⟩
    · have y2 := Ex.new (o := HO.lst []) nn
      have y3 := Ex.new (o := HO.lst (ps.map V.int)) nl
      have y4 := Ex.new (o := HO.lst [V.int 0]) nz
      have y5 := Ex.new (o := HO.lst (List.replicate ((ps.map V.int).length : Int).toNat [V.int 0]).flatten) ny
      have y6 := Ex.new (o := HO.tup [V.ref o, V.ref n, V.ref l, V.ref y]) nt
      refine ⟨y, [], [], ps, none, none, rfl, x6, fresh_back x4 ny, (y2.trans (y3.trans (y4.trans (y5.trans y6)))) o _ upd_same, (y3.trans (y4.trans (y5.trans y6))) n _ upd_same,
        (y4.trans (y5.trans y6)) l _ upd_same, ?_, (ne_of_none upd_same nn).symm, (ne_of_none (y2 o _ upd_same) nl).symm, (ne_of_none upd_same nl).symm, ?_, ?_, ?_, ?_⟩
      · have := y6 y _ upd_same
        rw [hlen, Int.toNat_natCast, rep_zero, ← costs_nil] at this
        rw [hlen, Int.toNat_natCast, rep_zero, ← costs_nil]
        exact this
      · exact (ne_of_none ((y2.trans (y3.trans y4)) o _ upd_same) ny).symm
      · exact (ne_of_none ((y3.trans y4) n _ upd_same) ny).symm
      · exact (ne_of_none (y4 l _ upd_same) ny).symm
      · exact ⟨rfl, Nat.zero_add _, rfl, Pl.nd, fun p h => h, fun p h => absurd h List.not_mem_nil, fun p h => absurd h List.not_mem_nil, rfl⟩
    · rintro k σ H' ⟨y, order, numbers, left, v5, v6, rfl, ex, hy, eo, en, el, es, d1, d2, d3, d4, d5, d6, G⟩
      have fo : H o = none := no
      -- left != []
      refine ⟨_, rfl, Nat.zero_le _, fun e ne => ?_⟩
      refine rv_neInts (ys := []) (sq_of ((Ex.new ne) l _ el)) (sq_of upd_same) _ (Ex.refl _) _ fun H2 e2 => ⟨_, rfl, ?_⟩
      have x2 : Ex H' H2 := (Ex.new ne).trans e2
      have eo2 := x2 o _ eo
      have en2 := x2 n _ en
      have el2 := x2 l _ el
      have es2 := x2 y _ es
      by_cases hz : left = []
      · -- the end
        rw [decide_eq_true hz]
        refine iteF ?_
        subst hz
        have hk : k = 0 := G.len.symm
        subst hk
        have hf : (order, numbers) = good ps := G.fin
        refine ⟨_, rfl, _, rfl, by show 2 ≤ sizeLine; decide, fun t2 nt2 => ?_⟩
        have y2 := Ex.new (o := HO.tup [V.ref o, V.ref n]) nt2
        refine q t2 o n _ ((ex.trans x2).trans y2) (fresh_back (ex.trans x2) nt2) no (fresh_back x1 nn) upd_same ?_ ?_
        · rw [← hf]
          exact y2 o _ eo2
        · unfold nums
          rw [← hf]
          exact y2 n _ en2
      · -- a turn
        rw [decide_eq_false hz]
        refine iteT ?_
        cases k with
        | zero => exact absurd (List.length_eq_zero_iff.mp G.len) hz
        | succ k =>
          obtain ⟨G2, hat⟩ := G.next
          have few2 : order.length < 1000 := by have := G.olen; omega
          have few3 : numbers.length < 1000 := by have := G.nlen; omega
          have hcz : costs order left ≠ [] := costs_ne hz
          have hcl := costs_len order left
          refine ⟨_, fun σ' H1 hN => ⟨k, Nat.lt_succ_self _, hN⟩, ?_⟩
          -- at = sums.index(min(sums))
          refine ⟨_, rfl, .inl ⟨rfl, _, sq_of es2⟩, _, rfl, y, _, rfl, sq_of es2, List.length_pos_iff.mpr hcz, fun mm h1 h2 => ?_⟩
          obtain rfl : mm = minL (costs order left) := minL_unique h1 h2
          obtain ⟨i1, i2, i3⟩ := idx_ok hcz
          refine ⟨y, _, _, _, _, rfl, rfl, sq_of es2, rfl, flat_ints _, i1, i2, i3, ?_⟩
          -- taken = left.pop(at)
          refine ⟨_, rfl, .inl ⟨rfl, _, sq_of el2⟩, _, rfl, l, _, _, _, _, rfl, rfl, el2, by omega, by have := G.len; have := G.olen; omega, seq_nat (by rw [List.length_map]; exact hat), int_get hat, ?_⟩
          rw [map_erase]
          -- order.append(taken)
          have u1 : (upd H2 l (.lst ((left.eraseIdx (minAt (costs order left))).map V.int))) o = some (.lst (order.map V.int)) := by rw [upd_ne d2.symm]; exact eo2
          refine ⟨_, rfl, .inl ⟨rfl, _, sq_of u1⟩, _, rfl, o, _, _, rfl, rfl, u1, few_line (by rw [List.length_map]; omega), ?_⟩
          -- numbers.append(sums.pop(at))
          rw [show (order.map V.int ++ [V.int (left.getD (minAt (costs order left)) 0)]) = (order ++ [left.getD (minAt (costs order left)) 0]).map V.int by rw [List.map_append]; rfl]
          have v1 : (upd (upd H2 l (.lst ((left.eraseIdx (minAt (costs order left))).map V.int))) o (.lst ((order ++ [left.getD (minAt (costs order left)) 0]).map V.int))) n = some (.lst (numbers.map V.int)) := by
            rw [upd_ne d1, upd_ne d3.symm]; exact en2
          have v2 : (upd (upd H2 l (.lst ((left.eraseIdx (minAt (costs order left))).map V.int))) o (.lst ((order ++ [left.getD (minAt (costs order left)) 0]).map V.int))) y = some (.lst ((costs order left).map V.int)) := by
            rw [upd_ne d4, upd_ne d6]; exact es2
          have v3 : (upd (upd H2 l (.lst ((left.eraseIdx (minAt (costs order left))).map V.int))) o (.lst ((order ++ [left.getD (minAt (costs order left)) 0]).map V.int))) l = some (.lst ((left.eraseIdx (minAt (costs order left))).map V.int)) := by
            rw [upd_ne d2]; exact upd_same
          have v4 : (upd (upd H2 l (.lst ((left.eraseIdx (minAt (costs order left))).map V.int))) o (.lst ((order ++ [left.getD (minAt (costs order left)) 0]).map V.int))) o = some (.lst ((order ++ [left.getD (minAt (costs order left)) 0]).map V.int)) := upd_same
          have xb : Ex H (upd (upd H2 l (.lst ((left.eraseIdx (minAt (costs order left))).map V.int))) o (.lst ((order ++ [left.getD (minAt (costs order left)) 0]).map V.int))) := Ex.mut (Ex.mut (ex.trans x2) (fresh_back (x1.trans (Ex.new nn)) nl)) no
          generalize (upd (upd H2 l (.lst ((left.eraseIdx (minAt (costs order left))).map V.int))) o (.lst ((order ++ [left.getD (minAt (costs order left)) 0]).map V.int))) = Hb at v1 v2 v3 v4 xb
          refine ⟨_, rfl, .inl ⟨rfl, _, sq_of v1⟩, _, rfl, .inl ⟨rfl, _, sq_of v2⟩, _, rfl, y, _, _, _, _, rfl, rfl, v2, by omega, by have := G.len; have := G.olen; omega, seq_nat (by rw [List.length_map, hcl]; exact hat), i1, ?_⟩
          rw [map_erase]
          refine ⟨n, _, _, rfl, rfl, by rw [upd_ne d5.symm]; exact v1, few_line (by rw [List.length_map]; omega), ?_⟩
          rw [show (numbers.map V.int ++ [V.int (minL (costs order left))]) = (numbers ++ [minL (costs order left)]).map V.int by rw [List.map_append]; rfl]
          have w1 : (upd (upd Hb y (.lst (((costs order left).eraseIdx (minAt (costs order left))).map V.int))) n (.lst ((numbers ++ [minL (costs order left)]).map V.int))) y = some (.lst (((costs order left).eraseIdx (minAt (costs order left))).map V.int)) := by
            rw [upd_ne d5]; exact upd_same
          have w2 : (upd (upd Hb y (.lst (((costs order left).eraseIdx (minAt (costs order left))).map V.int))) n (.lst ((numbers ++ [minL (costs order left)]).map V.int))) l = some (.lst ((left.eraseIdx (minAt (costs order left))).map V.int)) := by
            rw [upd_ne d3, upd_ne d6.symm]; exact v3
          have w3 : (upd (upd Hb y (.lst (((costs order left).eraseIdx (minAt (costs order left))).map V.int))) n (.lst ((numbers ++ [minL (costs order left)]).map V.int))) o = some (.lst ((order ++ [left.getD (minAt (costs order left)) 0]).map V.int)) := by
            rw [upd_ne d1.symm, upd_ne d4.symm]; exact v4
          have w4 : (upd (upd Hb y (.lst (((costs order left).eraseIdx (minAt (costs order left))).map V.int))) n (.lst ((numbers ++ [minL (costs order left)]).map V.int))) n = some (.lst ((numbers ++ [minL (costs order left)]).map V.int)) := upd_same
          have xc : Ex H (upd (upd Hb y (.lst (((costs order left).eraseIdx (minAt (costs order left))).map V.int))) n (.lst ((numbers ++ [minL (costs order left)]).map V.int))) := Ex.mut (Ex.mut xb hy) (fresh_back x1 nn)
          generalize (upd (upd Hb y (.lst (((costs order left).eraseIdx (minAt (costs order left))).map V.int))) n (.lst ((numbers ++ [minL (costs order left)]).map V.int))) = Hc at w1 w2 w3 w4 xc
          -- sums = [..]
          refine ⟨_, rfl, _, rfl, y, l, _, _, rfl, sq_of w1, sq_of w2, fun dl nd => ?_⟩
          have hl2 : (left.eraseIdx (minAt (costs order left))).length = k := G2.len
          have hc2 : ((costs order left).eraseIdx (minAt (costs order left))).length = k := by rw [List.length_eraseIdx_of_lt (by rw [hcl]; exact hat), hcl, G.len]; rfl
          refine lc_pairs (n := k) (walk_zs (by rw [List.length_map, hc2]) (by rw [List.length_map, hl2])) (fun _ => true)
            (fun i => V.int (((costs order left).eraseIdx (minAt (costs order left))).getD i 0 + tw ((left.eraseIdx (minAt (costs order left))).getD i 0 - left.getD (minAt (costs order left)) 0))) nd (by have := G.olen; omega)
            (fun H' e' => ⟨ex_l e' (sq_of w1), ex_l e' (sq_of w2)⟩) (fun _ _ => rfl) (fun _ _ _ H' _ _ _ _ => fun H1 _ Q q => q H1 (Ex.refl H1)) (fun i x1 x2 H' e' hi hx1 hx2 _ => ?_) (fun H3 e3 h3 => ?_)
          · obtain ⟨g1, _⟩ := int_at hx1
            obtain ⟨g2, hi2⟩ := int_at hx2
            subst g1
            subst g2
            have hp := G2.sub _ (getD_mem hi2)
            have ht := G.sub _ (getD_mem hat)
            have hne := erase_ne G.nd hat (getD_mem hi2)
            obtain ⟨z1, z2⟩ := dist_ok (Pl.lo _ hp) (Pl.lo _ ht) hne
            exact ev_op (ev_var rfl) (ev_call (ea_cons (ev_op (ev_var rfl) (ev_var rfl) rv_I0) ea_nil) (fun H1 _ Q q _ => ⟨_, rfl, z1, z2, q⟩)) rv_I0
          · rw [zip_given _ _ _ _ hc2 hl2, costs_turn] at h3
            refine ⟨dl, _, _, _, _, _, rfl, xc.trans e3, fresh_back xc nd, e3 o _ w3, e3 n _ w4, e3 l _ w2, h3, d1, d2, d3, (ne_of_none w3 nd).symm, (ne_of_none w4 nd).symm, (ne_of_none w2 nd).symm, G2⟩
/-- good_row(..)[1], the numbers; good_row(..)[0], the order -/
theorem el_nums {σ : L2.St} {H : Hp} {ta : TA} {a : Addr} {ps : List Int} (h : EvA ta σ H [.ref a]) (ha : H a = some (.lst (ps.map V.int))) (Pl : Plc ps) :
    EvL (tOp (rIxT K) (tCall spGoodRow [] E0 ta) (tC (.int 1))) σ H ((nums ps).map V.int) := fun H1 e Q q => h H1 e _ fun H2 e2 =>
  ⟨a, ps, rfl, (e.trans e2) a _ ha, Pl, fun t o n H3 e3 _ _ nn ht ho hn => ⟨t, _, 1, .ref n, rfl, rfl, st_of ht, atI_nat (j := 1) rfl, q n H3 (fresh_back e2 nn) (e2.trans e3) hn⟩⟩
end
end K17
set_option maxHeartbeats 4000000
/-! Widths and places looked at; how many items. -/
namespace K17
open PySem PySem.Spec PyProof.Rows L2 Evl
/-- places of a width -/
structure Pls (w : Nat) (ps : List Int) : Prop where
  ne : ps ≠ []
  asc : ps.Pairwise (· < ·)
  lo : ∀ p ∈ ps, 0 ≤ p ∧ p < 2 ^ w
  few : ps.length ≤ 64
theorem pow_le {a b : Nat} (h : a ≤ b) : (2 : Int) ^ a ≤ 2 ^ b := by
  have := Nat.pow_le_pow_right (n := 2) (by decide) h
  have e : ∀ k : Nat, ((2 : Int) ^ k) = ((2 ^ k : Nat) : Int) := fun k => by rw [Int.natCast_pow]; rfl
  rw [e, e]
  omega
theorem Pls.mono {v w : Nat} {ps : List Int} (h : Pls v ps) (l : v ≤ w) : Pls w ps := ⟨h.ne, h.asc, fun p hp => ⟨(h.lo p hp).1, Int.lt_of_lt_of_le (h.lo p hp).2 (pow_le l)⟩, h.few⟩
theorem Pls.plc {w : Nat} {ps : List Int} (h : Pls w ps) (hw : w ≤ 64) : Plc ps :=
  ⟨h.asc.imp fun h => Int.ne_of_lt h, (h.mono hw).lo, h.few⟩
section
variable {P : Program} {w : World} {K : PySem.W.Frag} {mg : Str → Option Value} {base : Heap}
theorem spv {sp : Sp} {vs : List V} {H : Hp} {z : V} (h : ∀ H1, Ex H H1 → ∀ Q : VK, RetV z H1 Q → ∀ E : XK, sp vs H1 Q E) : SpV sp vs H z := h
/-! ### items_counted -/
def spCounted : Sp := fun vs H Q _ => ∃ (a : Addr) (ns : List Int) (v : Int) (c : Nat), vs = [.int v, .ref a, .int (c : Int)] ∧ H a = some (.lst (ns.map V.int)) ∧ ns.length ≤ 1000 ∧ RetV (.int (counted v (ns.take c))) H Q
theorem cal_counted (D : At K mg "items_counted" dItemsCounted) (m : Free mg) : Cal P w K mg base 1 "items_counted" ["width", "numbers", "count"] spCounted := by
  refine cal_of D scItemsCounted (fun vs H Q E h => ?_) (fun _ _ _ _ _ _ us hl => match us, hl with | [_, _, _], _ => rfl) (fun f cdv A outer s H vs Q E hr h => ?_)
  · obtain ⟨a, ns, v, c, rfl, _⟩ := h
    rfl
  · obtain ⟨a, ns, v, c, rfl, ha, few, q⟩ := h
    refine ⟨_, pss_one (ps_ret (pe_callB call_len_seq (by rfl) m.len PySem.boot_len (pa_cons (pe_lc (own := [("number", 3)]) (g := gName 3) rfl scItemsCounted.nd (pi_list (pe_slice sl_list (pv 1) po_none (po_some (pv 2))))
      (blkOk_by (own := [("number", 3)]) (N := ["width", "numbers", "count", "number"]) (sc := defScope dItemsCounted) (by decide +kernel))
      (fun _ _ _ _ _ => pg_name (i := 3) scItemsCounted.nd rfl (.inl rfl) (.inr rfl)) (fun _ _ _ _ _ => pts_one (pt_cmpR op_lt (pv 3) (pv 0) (nomark _))) (fun _ _ _ _ _ => pv 3)) pa_nil))), ?_⟩
    have hs := el_sl (K := K) (H := H) (σ := [some (.int v), some (.ref a), some (.int (c : Int)), none]) (ev_var (i := 1) rfl) eo_none (eo_some (ev_var (i := 2) rfl)) (sq_of ha)
    rw [cut_to, ← List.map_take] at hs
    have hl : (ns.take c).length ≤ 1000 := Nat.le_trans (List.length_take_le' _ _) few
    have hc := el_ints (K := K) (te := tVar 3) (t := tTest (tOp (rI0 fun i j => .bl (decide (i < j))) (tVar 3) (tVar 0))) (j := 3) (vs := [3]) (fun n => decide (n < v)) V.int hs (by omega) (fun _ => rfl)
      (fun n _ H1 _ => et_test (ev_op (ev_var rfl) (ev_var rfl) rv_I0)) (fun n _ _ H1 _ => ev_var rfl)
    have h2 := ev_lenN (K := K) hc
    rw [List.length_map] at h2
    exact s_ret h2 fun H1 e1 => q H1 e1
/-! ### widths -/
/-- the module's MOST_WIDTH -/
def Most (mg : Str → Option Value) : Prop := ∃ t, mg "MOST_WIDTH" = some (.int 64 t)
def spIsWidth : Sp := fun vs H Q _ => ∃ v : Int, vs = [.int v] ∧ 1 ≤ v ∧ v ≤ 64 ∧ RetV (.bl true) H Q
theorem cal_isWidth (D : At K mg "is_width" dIsWidth) (mm : Most mg) (C : Cal P w K mg base 2 "is_between" ["value", "low", "high"] spBetween) : Cal P w K mg base 3 "is_width" ["value"] spIsWidth := by
  refine cal_of D scIsWidth (fun vs H Q E h => ?_) (fun _ _ _ _ _ _ us hl => match us, hl with | [_], _ => rfl) (fun f cdv A outer s H vs Q E hr h => ?_)
  · obtain ⟨i, rfl, _⟩ := h
    rfl
  · obtain ⟨v, rfl, h1, h2, q⟩ := h
    obtain ⟨t, mm⟩ := mm
    refine ⟨_, pss_one (ps_ret (C.call hr (pa_cons (pv 0) (pa_cons pe_int (pa_cons (pe_glob (v := .int 64) (by rfl) mm ⟨t, rfl⟩) pa_nil))))), ?_⟩
    exact ⟨_, rfl, v, 1, _, rfl, h1, .inr ⟨_, rfl, h2⟩, q⟩
def spCheckWidth : Sp := fun vs H Q _ => ∃ v : Int, vs = [.int v] ∧ 1 ≤ v ∧ v ≤ 64 ∧ RetV .non H Q
theorem cal_checkWidth (D : At K mg "check_width" dCheckWidth) (C : Cal P w K mg base 3 "is_width" ["value"] spIsWidth) : Cal P w K mg base 4 "check_width" ["width"] spCheckWidth := by
  refine cal_of D scCheckWidth (fun vs H Q E h => ?_) (fun _ _ _ _ _ _ us hl => match us, hl with | [_], _ => rfl) (fun f cdv A outer s H vs Q E hr h => ?_)
  · obtain ⟨i, rfl, _⟩ := h
    rfl
  · obtain ⟨v, rfl, h1, h2, q⟩ := h
    refine ⟨_, pss_one (ps_if (pt_not (pt_val (C.call hr (pa_cons (pv 0) pa_nil)))) pss_never pss_nil), ?_⟩
    exact ⟨_, rfl, v, rfl, h1, h2, fun H1 e1 => ⟨true, rfl, iteF (q H1 e1)⟩⟩
def spIsOfWidth : Sp := fun vs H Q _ => ∃ (v : Nat) (x : Int), vs = [.int (v : Int), .int x] ∧ v ≤ 64 ∧ 0 ≤ x ∧ x < 2 ^ v ∧ RetV (.bl true) H Q
theorem cal_isOfWidth (D : At K mg "is_of_width" dIsOfWidth) (C : Cal P w K mg base 2 "is_between" ["value", "low", "high"] spBetween) (C2 : Cal P w K mg base 1 "power_of_two" ["many"] spPow) : Cal P w K mg base 3 "is_of_width" ["width", "value"] spIsOfWidth := by
  refine cal_of D scIsOfWidth (fun vs H Q E h => ?_) (fun _ _ _ _ _ _ us hl => match us, hl with | [_, _], _ => rfl) (fun f cdv A outer s H vs Q E hr h => ?_)
  · obtain ⟨v, x, rfl, _⟩ := h
    rfl
  · obtain ⟨v, x, rfl, hv, h1, h2, q⟩ := h
    refine ⟨_, pss_one (ps_ret (C.call hr (pa_cons (pv 1) (pa_cons pe_int (pa_cons (pe_op op_sub (C2.call hr (pa_cons (pv 0) pa_nil)) pe_int) pa_nil))))), ?_⟩
    refine ⟨_, rfl, _, rfl, _, rfl, by omega, by omega, fun H1 e1 => ⟨_, _, rfl, rfl, x, 0, _, rfl, h1, .inr ⟨_, rfl, ?_⟩, fun H2 e2 => q H2 (e1.trans e2)⟩⟩
    rw [Int.toNat_natCast]
    omega
/-! ### places -/
def spRises : Sp := fun vs H Q _ => ∃ (a : Addr) (ps : List Int), vs = [.ref a] ∧ H a = some (.lst (ps.map V.int)) ∧ ps.length ≤ 1000 ∧ ps.Pairwise (· < ·) ∧ RetV (.bl true) H Q
theorem asc_get {ps : List Int} (h : ps.Pairwise (· < ·)) {i : Nat} (hi : i + 1 < ps.length) : ps.getD i 0 < ps.getD (i + 1) 0 := by
  rw [List.getD_eq_getElem?_getD, List.getD_eq_getElem?_getD, List.getElem?_eq_getElem hi, List.getElem?_eq_getElem (show i < ps.length by omega)]
  exact List.pairwise_iff_getElem.mp h i (i + 1) _ _ (Nat.lt_succ_self i)
theorem at_int {ns : List Int} {i : Nat} {z : Int} (h : i < ns.length) (e : z = (i : Int)) : atI (ns.map V.int) z = some (.int (ns.getD i 0)) := by
  rw [e]
  exact atI_nat (int_get h)
theorem given_none (n : Nat) (v : Nat → V) : given n (fun _ => false) v = [] := by
  unfold given
  rw [List.filter_eq_nil_iff.mpr (fun _ _ => by simp)]
  rfl
theorem cal_rises (D : At K mg "rises" dRises) (m : Free mg) : Cal P w K mg base 1 "rises" ["numbers"] spRises := by
  refine cal_of D scRises (fun vs H Q E h => ?_) (fun _ _ _ _ _ _ us hl => match us, hl with | [_], _ => rfl) (fun f cdv A outer s H vs Q E hr h => ?_)
  · obtain ⟨a, ps, rfl, _⟩ := h
    rfl
  · obtain ⟨a, ps, rfl, ha, few, asc, q⟩ := h
    refine ⟨_, pss_one (ps_ret (pe_cmpR (op_eqD hr.units) (pe_lc (own := [("at", 1)]) (g := gName 1) (tt := tTest (tOp (rI0 fun i j => .bl (decide (j ≤ i))) (tOp (rIxL K) (tVar 0) (tOp (rI0 fun i j => .int (i - j)) (tVar 1) (tC (.int 1)))) (tOp (rIxL K) (tVar 0) (tVar 1)))) rfl scRises.nd
      (pi_range2 (by rfl) m.range (pa_cons pe_int (pa_cons (pe_callB call_len_seq (by rfl) m.len PySem.boot_len (pa_cons (pv 0) pa_nil)) pa_nil)))
      (blkOk_by (own := [("at", 1)]) (N := ["numbers", "at"]) (sc := defScope dRises) (by decide +kernel))
      (fun _ _ _ _ _ => pg_name (i := 1) scRises.nd rfl (.inl rfl) (.inr rfl)) (fun _ _ _ _ _ => pts_one (pt_cmpR op_ge (pe_ix ix_list (pv 0) (pe_op op_sub (pv 1) pe_int) (fun _ _ => rfl)) (pe_ix ix_list (pv 0) (pv 1) (fun _ _ => rfl)) (nomark _))) (fun _ _ _ _ _ => pv 1)) (pe_lst pa_nil) (nomark _))), ?_⟩
    have hl := ev_len (K := K) (ta := tVar 0) (σ := [some (.ref a), none]) (ev_var rfl) (sq_of ha)
    rw [List.length_map] at hl
    have hc := el_lcR2 (te := tVar 1) (t := tTest (tOp (rI0 fun i j => .bl (decide (j ≤ i))) (tOp (rIxL K) (tVar 0) (tOp (rI0 fun i j => .int (i - j)) (tVar 1) (tC (.int 1)))) (tOp (rIxL K) (tVar 0) (tVar 1)))) (j := 1) (vs := [1])
      (fun _ => false) (fun i => V.int (1 + (i : Int))) (ea_cons (ev_c (v := .int 1)) (ea_cons hl ea_nil)) (by omega) (fun _ => rfl)
      (fun i H1 e1 hi => by
        have g1 := ev_op (ta := tVar 0) (tb := tOp (rI0 fun i j => .int (i - j)) (tVar 1) (tC (.int 1))) (σ := [some (.ref a), some (.int (1 + (i : Int)))]) (ev_var rfl) (ev_op (ev_var rfl) ev_c rv_I0) (rv_ixL (K := K) (sq_of (e1 a _ ha)) (at_int (i := i) (by omega) (by omega)))
        have g2 := ev_op (ta := tVar 0) (tb := tVar 1) (σ := [some (.ref a), some (.int (1 + (i : Int)))]) (ev_var rfl) (ev_var rfl) (rv_ixL (K := K) (sq_of (e1 a _ ha)) (at_int (i := i + 1) (by omega) (by omega)))
        have lt := asc_get asc (i := i) (by omega)
        refine et_is (et_test (ev_op g1 g2 rv_I0)) ?_
        rw [decide_eq_false_iff_not]
        omega)
      (fun i H1 e1 hi hf => by cases hf)
    rw [given_none] at hc
    refine s_ret (v := .bl true) ?_ fun H1 e1 => q H1 e1
    exact ev_is (ev_opLL (xs := ([] : List Int).map V.int) (ys := ([] : List Int).map V.int) hc el_nil fun p1 p2 H1 h1 h2 _ => rv_eqInts (xs := []) (ys := []) (sq_of h1) (sq_of h2)) (by rfl)
end
end K17
set_option maxHeartbeats 4000000
/-! Places, sizes: the program's own answers. -/
namespace K17
open PySem PySem.Spec PyProof.Rows L2 Evl
section
variable {P : Program} {w : World} {K : PySem.W.Frag} {mg : Str → Option Value} {base : Heap}
theorem nx_of {D : Ends} {σ : L2.St} {H : Hp} (h : D.nx σ H) : tNext D σ H := h
theorem nil_ref {σ : L2.St} {H : Hp} {ta tb : TE} {a : Addr} {ns : List Int} (ha : Ev ta σ H (.ref a)) (hs : SqL K H a (ns.map V.int)) : Ev (tOp (rEqD K) ta (tLst tNil)) σ H (.bl (decide (ns = []))) :=
  ev_opL (xs := ([] : List Int).map V.int) ha el_nil fun p H1 h1 e1 => rv_eqInts (ys := []) (ex_l e1 hs) (sq_of h1)
theorem el_slN {σ : L2.St} {H : Hp} {te : TE} {th : TO} {xs : List V} {hi : Option Int} (h : EvL te σ H xs) (h2 : EvO th σ H hi) : EvL (tSl (rSlL K) te tNoPart th) σ H (cutV xs none hi) := fun H1 e Q q =>
  h H1 e _ fun a H2 _ e2 ha => h2 H2 (e.trans e2) _ fun H4 e4 => ⟨a, xs, rfl, sq_of (e4 a _ ha), fun p hp => q p _ (fresh_back (e2.trans e4) hp) ((e2.trans e4).trans (Ex.new hp)) upd_same⟩
theorem ev_sumN {σ : L2.St} {H : Hp} {ta : TE} {ns : List Int} (ha : EvL ta σ H (ns.map V.int)) : Ev (tCB (rSum K) (tCons ta tNil)) σ H (.int ns.sum) := fun H1 e Q q =>
  ha H1 e _ fun p H2 _ e2 h2 => ⟨p, ns, rfl, sq_of h2, q H2 e2⟩
/-! ### are_places -/
def spArePlaces : Sp := fun vs H Q _ => ∃ (v : Nat) (a : Addr) (ps : List Int), vs = [.int (v : Int), .ref a] ∧ H a = some (.lst (ps.map V.int)) ∧ v ≤ 64 ∧ Pls v ps ∧ RetV (.bl true) H Q
theorem cal_arePlaces (D : At K mg "are_places" dArePlaces) (m : Free mg) (C : Cal P w K mg base 3 "is_of_width" ["width", "value"] spIsOfWidth) (C2 : Cal P w K mg base 1 "rises" ["numbers"] spRises) :
    Cal P w K mg base 4 "are_places" ["width", "value"] spArePlaces := by
  refine cal_of D scArePlaces (fun vs H Q E h => ?_) (fun _ _ _ _ _ _ us hl => match us, hl with | [_, _], _ => rfl) (fun f cdv A outer s H vs Q E hr h => ?_)
  · obtain ⟨v, a, ps, rfl, _⟩ := h
    rfl
  · obtain ⟨v, a, ps, rfl, ha, hv, Pl, q⟩ := h
    refine ⟨_, pss_cons (ps_if (PW.pt (pw_or (pt_not (pt_val (pe_callB call_isi (by rfl) m.isinstance boot_isinstance (pa_cons (pv 1) (pa_cons (pe_bltn (v := .ty "list") (by rfl) m.list boot_list rfl) pa_nil))))) (pw_or1 (pt_cmpR (op_eqD hr.units) (pv 1) (pe_lst pa_nil) (nomark _)))))
        pss_never pss_nil)
      (pss_one (ps_ret (pe_and (pe_cmpR (op_eqD hr.units) (pe_lc (own := [("item", 2)]) (g := gName 2) rfl scArePlaces.nd (pi_list (pv 1))
          (blkOk_by (own := [("item", 2)]) (N := ["width", "value", "item"]) (sc := defScope dArePlaces) (by decide +kernel))
          (fun _ _ _ _ _ => pg_name (i := 2) scArePlaces.nd rfl (.inl rfl) (.inr rfl)) (fun _ _ _ _ _ => pts_one (pt_not (pt_val (C.call hr (pa_cons (pv 0) (pa_cons (pv 2) pa_nil)))))) (fun _ _ _ _ _ => pv 2)) (pe_lst pa_nil) (nomark _))
        (pe_one (C2.call hr (pa_cons (pv 1) pa_nil)))))), ?_⟩
    -- no list, or none
    refine ⟨_, rfl, _, _, _, _, true, rfl, .ty _, .base (.lst ha), kit_ty (by decide +kernel), true, rfl, iteF ?_⟩
    refine nil_ref (K := K) (ns := ps) (tb := tVar 0) (σ := [some (.int (v : Int)), some (.ref a), none]) (ev_var rfl) (sq_of ha) H (Ex.refl H) _ fun H1 e1 => ⟨_, rfl, ?_⟩
    rw [decide_eq_false Pl.ne]
    refine iteF ?_
    -- each a word, rising
    have few := Pl.few
    have hc := el_intsA (K := K) (H := H) (σ := [some (.int (v : Int)), some (.ref a), none]) (t := tNot (tB (tCall spIsOfWidth [] E0 (tCons (tVar 0) (tCons (tVar 2) tNil))))) (te := tVar 2) (j := 2) (vs := [2]) (fun _ => false) V.int (ev_var (i := 1) rfl) (sq_of ha) (by omega) (fun _ => rfl)
      (fun n hn H1 _ => et_is (et_not (et_B (ev_call (ea_cons (ev_var rfl) (ea_cons (ev_var rfl) ea_nil)) (fun H2 _ Q q _ => ⟨v, n, rfl, hv, (Pl.lo n hn).1, (Pl.lo n hn).2, q⟩)))) rfl) (fun n hn hf H1 _ => by cases hf)
    rw [List.filter_eq_nil_iff.mpr (fun _ _ => by simp)] at hc
    refine nx_of ?_
    dsimp only
    have z : Ev (tAndV (tOp (rEqD K) (tLc (iList K (tVar 1)) (gName 2) (tNot (tB (tCall spIsOfWidth [] E0 (tCons (tVar 0) (tCons (tVar 2) tNil))))) (tVar 2) [2]) (tLst tNil)) (tCall spRises [] E0 (tCons (tVar 1) tNil))) [some (.int (v : Int)), some (.ref a), none] H (.bl true) := ?_
    · exact s_ret (D := { nx := fun _ H' => Q .non H', rt := Q }) (Ev.mono e1 z) fun H2 e2 => q H2 (e1.trans e2)
    refine ev_andV (a := true) (b := true) (ev_is (ev_opLL (xs := ([] : List Int).map V.int) (ys := ([] : List Int).map V.int) hc el_nil fun p1 p2 H1 h1 h2 _ => rv_eqInts (xs := []) (ys := []) (sq_of h1) (sq_of h2)) (by rfl)) fun _ => ?_
    exact ev_call (ea_cons (ev_var rfl) ea_nil) (fun H2 e2 Q q _ => ⟨a, ps, rfl, e2 a _ ha, by omega, Pl.asc, q⟩)
/-! ### check_places, check_code -/
def spCheckPlaces : Sp := fun vs H Q _ => ∃ (v : Nat) (a : Addr) (ps : List Int), vs = [.int (v : Int), .ref a] ∧ H a = some (.lst (ps.map V.int)) ∧ 1 ≤ v ∧ v ≤ 64 ∧ Pls v ps ∧ RetV .non H Q
theorem cal_checkPlaces (D : At K mg "check_places" dCheckPlaces) (C : Cal P w K mg base 4 "check_width" ["width"] spCheckWidth) (C2 : Cal P w K mg base 4 "are_places" ["width", "value"] spArePlaces) :
    Cal P w K mg base 5 "check_places" ["width", "places"] spCheckPlaces := by
  refine cal_of D scCheckPlaces (fun vs H Q E h => ?_) (fun _ _ _ _ _ _ us hl => match us, hl with | [_, _], _ => rfl) (fun f cdv A outer s H vs Q E hr h => ?_)
  · obtain ⟨v, a, ps, rfl, _⟩ := h
    rfl
  · obtain ⟨v, a, ps, rfl, ha, h1, h2, Pl, q⟩ := h
    refine ⟨_, pss_cons (ps_expr (C.call hr (pa_cons (pv 0) pa_nil))) (pss_one (ps_if (pt_not (pt_val (C2.call hr (pa_cons (pv 0) (pa_cons (pv 1) pa_nil))))) pss_never pss_nil)), ?_⟩
    refine ⟨_, rfl, (v : Int), rfl, by omega, by omega, fun H1 e1 => ?_⟩
    exact ⟨_, rfl, _, rfl, v, a, ps, rfl, e1 a _ ha, h2, Pl, fun H2 e2 => ⟨true, rfl, iteF (q H2 (e1.trans e2))⟩⟩
def spCheckCode : Sp := fun vs H Q _ => ∃ (v : Nat) (a : Addr) (ps : List Int) (c : Nat), vs = [.int (v : Int), .ref a, .int (c : Int)] ∧ H a = some (.lst (ps.map V.int)) ∧ 1 ≤ v ∧ v ≤ 64 ∧ Pls v ps ∧ RetV .non H Q
theorem cal_checkCode (D : At K mg "check_code" dCheckCode) (C : Cal P w K mg base 5 "check_places" ["width", "places"] spCheckPlaces) (C2 : Cal P w K mg base 3 "check_number" ["number", "low", "high"] spCheckNumber) :
    Cal P w K mg base 6 "check_code" ["width", "places", "count"] spCheckCode := by
  refine cal_of D scCheckCode (fun vs H Q E h => ?_) (fun _ _ _ _ _ _ us hl => match us, hl with | [_, _, _], _ => rfl) (fun f cdv A outer s H vs Q E hr h => ?_)
  · obtain ⟨v, a, ps, c, rfl, _⟩ := h
    rfl
  · obtain ⟨v, a, ps, c, rfl, ha, h1, h2, Pl, q⟩ := h
    refine ⟨_, pss_cons (ps_expr (C.call hr (pa_cons (pv 0) (pa_cons (pv 1) pa_nil)))) (pss_one (ps_expr (C2.call hr (pa_cons (pv 2) (pa_cons pe_int (pa_cons pe_non pa_nil)))))), ?_⟩
    refine ⟨_, rfl, _, rfl, v, a, ps, rfl, ha, h1, h2, Pl, fun H1 e1 => ?_⟩
    exact ⟨_, rfl, (c : Int), 0, _, rfl, by omega, .inl rfl, fun H2 e2 => q H2 (e1.trans e2)⟩
/-! ### size_power -/
def spSizePower : Sp := fun vs H Q _ => ∃ (v : Int) (a : Addr) (ns : List Int) (c : Nat), vs = [.int v, .ref a, .int (c : Int)] ∧ H a = some (.lst (ns.map V.int)) ∧ ns.length ≤ 1000 ∧ RetV (.int (sizeP v ns c)) H Q
theorem cal_sizePower (D : At K mg "size_power" dSizePower) (m : Free mg) (C : Cal P w K mg base 1 "items_counted" ["width", "numbers", "count"] spCounted) :
    Cal P w K mg base 2 "size_power" ["width", "numbers", "count"] spSizePower := by
  refine cal_of D scSizePower (fun vs H Q E h => ?_) (fun _ _ _ _ _ _ us hl => match us, hl with | [_, _, _], _ => rfl) (fun f cdv A outer s H vs Q E hr h => ?_)
  · obtain ⟨v, a, ns, c, rfl, _⟩ := h
    rfl
  · obtain ⟨v, a, ns, c, rfl, ha, few, q⟩ := h
    refine ⟨_, pss_one (ps_ret (pe_callB (cr_sum rfl) (by rfl) m.sum boot_sum (pa_cons (pe_lc (own := [("number", 3)]) (g := gName 3) rfl scSizePower.nd
        (pi_list (pe_slice sl_list (pv 1) po_none (po_some (C.call hr (pa_cons (pv 0) (pa_cons (pv 1) (pa_cons (pv 2) pa_nil)))))))
        (blkOk_by (own := [("number", 3)]) (N := ["width", "numbers", "count", "number"]) (sc := defScope dSizePower) (by decide +kernel))
        (fun _ _ _ _ _ => pg_name (i := 3) scSizePower.nd rfl (.inl rfl) (.inr rfl)) (fun _ _ _ _ _ => pts_nil) (fun _ _ _ _ _ => pe_op op_sub (pv 0) (pv 3))) pa_nil))), ?_⟩
    have hs := el_sl (K := K) (H := H) (σ := [some (.int v), some (.ref a), some (.int (c : Int)), none]) (ev_var (i := 1) rfl) eo_none
      (eo_some (ev_call (sp := spCounted) (dvs := []) (E := E0) (z := .int (counted v (ns.take c))) (ea_cons (ev_var (i := 0) rfl) (ea_cons (ev_var (i := 1) rfl) (ea_cons (ev_var (i := 2) rfl) ea_nil))) (fun H2 e2 Q q _ => ⟨a, ns, v, c, rfl, e2 a _ ha, few, q⟩))) (sq_of ha)
    rw [cut_to, ← List.map_take] at hs
    have hc := el_ints (K := K) (t := tYes) (te := tOp (rI0 fun i j => .int (i - j)) (tVar 0) (tVar 3)) (j := 3) (vs := [3]) (fun _ => true) (fun n => V.int (v - n)) hs (Nat.le_trans (List.length_take_le' _ _) (by omega)) (fun _ => rfl)
      (fun n _ H1 _ => et_yes) (fun n _ _ H1 _ => ev_op (ev_var rfl) (ev_var rfl) rv_I0)
    rw [fil_true, show (ns.take (counted v (ns.take c))).map (fun n => V.int (v - n)) = ((ns.take (counted v (ns.take c))).map fun n => v - n).map V.int by rw [List.map_map]; rfl] at hc
    exact s_ret (ev_sumN (K := K) hc) fun H1 e1 => q H1 e1
/-! ### item_count, how_many_codewords -/
def spItemCount : Sp := fun vs H Q _ => ∃ (v : Nat) (a : Addr) (ps : List Int) (c : Nat), vs = [.int (v : Int), .ref a, .int (c : Int)] ∧ H a = some (.lst (ps.map V.int)) ∧ 1 ≤ v ∧ v ≤ 64 ∧ Pls v ps ∧ RetV (.int (counted (v : Int) ((nums ps).take c))) H Q
theorem cal_itemCount (D : At K mg "item_count" dItemCount) (C : Cal P w K mg base 6 "check_code" ["width", "places", "count"] spCheckCode) (C2 : Cal P w K mg base 1 "items_counted" ["width", "numbers", "count"] spCounted) (C3 : Cal P w K mg base 2 "good_row" ["places"] spGoodRow) :
    Cal P w K mg base 7 "item_count" ["width", "places", "count"] spItemCount := by
  refine cal_of D scItemCount (fun vs H Q E h => ?_) (fun _ _ _ _ _ _ us hl => match us, hl with | [_, _, _], _ => rfl) (fun f cdv A outer s H vs Q E hr h => ?_)
  · obtain ⟨v, a, ps, c, rfl, _⟩ := h
    rfl
  · obtain ⟨v, a, ps, c, rfl, ha, h1, h2, Pl, q⟩ := h
    refine ⟨_, pss_cons (ps_expr (C.call hr (pa_cons (pv 0) (pa_cons (pv 1) (pa_cons (pv 2) pa_nil)))))
      (pss_one (ps_ret (C2.call hr (pa_cons (pv 0) (pa_cons (pe_ix ix_tup (C3.call hr (pa_cons (pv 1) pa_nil)) pe_int (fun _ _ => rfl)) (pa_cons (pv 2) pa_nil)))))), ?_⟩
    refine ⟨_, rfl, _, rfl, _, rfl, v, a, ps, c, rfl, ha, h1, h2, Pl, fun H1 e1 => ?_⟩
    have few := Pl.few
    have hn := el_nums (K := K) (H := H1) (σ := [some (.int (v : Int)), some (.ref a), some (.int (c : Int))]) (ta := tCons (tVar 1) tNil) (ea_cons (ev_var rfl) ea_nil) (e1 a _ ha) (Pl.plc h2)
    refine ⟨_, rfl, hn H1 (Ex.refl _) _ fun n H2 _ e2 hn2 => ?_⟩
    exact ⟨_, rfl, n, nums ps, (v : Int), c, rfl, hn2, by rw [nums_len]; omega, fun H3 e3 => q H3 ((e1.trans e2).trans e3)⟩
def spHowMany : Sp := fun vs H Q _ => ∃ (v : Nat) (a : Addr) (ps : List Int) (c : Nat), vs = [.int (v : Int), .ref a, .int (c : Int)] ∧ H a = some (.lst (ps.map V.int)) ∧ 1 ≤ v ∧ v ≤ 64 ∧ Pls v ps ∧ RetV (.int (2 ^ (pw (v : Int) ((nums ps).take c)).toNat)) H Q
theorem pw_small {v : Nat} {ps : List Int} {c : Nat} (h : v ≤ 64) (few : ps.length ≤ 64) : pw (v : Int) ((nums ps).take c) ≤ 4096 := by
  have h1 := pw_le (w := (v : Int)) (ns := (nums ps).take c) (by omega) (fun x hx => (nums_nn (List.mem_of_mem_take hx)).1)
  have h2 : ((nums ps).take c).length ≤ 64 := Nat.le_trans (List.length_take_le' _ _) (by rw [nums_len]; exact few)
  have h3 : (v : Int) * (((nums ps).take c).length : Int) ≤ 64 * 64 := Int.mul_le_mul (by omega) (by omega) (by omega) (by omega)
  omega
theorem cal_howMany (D : At K mg "how_many_codewords" dHowManyCodewords) (C : Cal P w K mg base 6 "check_code" ["width", "places", "count"] spCheckCode) (C2 : Cal P w K mg base 2 "size_power" ["width", "numbers", "count"] spSizePower) (C3 : Cal P w K mg base 2 "good_row" ["places"] spGoodRow)
    (C4 : Cal P w K mg base 1 "power_of_two" ["many"] spPow) : Cal P w K mg base 7 "how_many_codewords" ["width", "places", "count"] spHowMany := by
  refine cal_of D scHowManyCodewords (fun vs H Q E h => ?_) (fun _ _ _ _ _ _ us hl => match us, hl with | [_, _, _], _ => rfl) (fun f cdv A outer s H vs Q E hr h => ?_)
  · obtain ⟨v, a, ps, c, rfl, _⟩ := h
    rfl
  · obtain ⟨v, a, ps, c, rfl, ha, h1, h2, Pl, q⟩ := h
    refine ⟨_, pss_cons (ps_expr (C.call hr (pa_cons (pv 0) (pa_cons (pv 1) (pa_cons (pv 2) pa_nil)))))
      (pss_one (ps_ret (C4.call hr (pa_cons (C2.call hr (pa_cons (pv 0) (pa_cons (pe_ix ix_tup (C3.call hr (pa_cons (pv 1) pa_nil)) pe_int (fun _ _ => rfl)) (pa_cons (pv 2) pa_nil)))) pa_nil)))), ?_⟩
    refine ⟨_, rfl, _, rfl, _, rfl, v, a, ps, c, rfl, ha, h1, h2, Pl, fun H1 e1 => ?_⟩
    have few := Pl.few
    have hn := el_nums (K := K) (H := H1) (σ := [some (.int (v : Int)), some (.ref a), some (.int (c : Int))]) (ta := tCons (tVar 1) tNil) (ea_cons (ev_var rfl) ea_nil) (e1 a _ ha) (Pl.plc h2)
    refine ⟨_, rfl, hn H1 (Ex.refl _) _ fun n H2 _ e2 hn2 => ?_⟩
    refine ⟨_, rfl, (v : Int), n, nums ps, c, rfl, hn2, by rw [nums_len]; omega, fun H3 e3 => ?_⟩
    have hp := sizeP_pw (w := (v : Int)) (c := c) (nums_asc ps)
    have l1 := pw_nonneg (v : Int) ((nums ps).take c)
    have l2 := pw_small (v := v) (ps := ps) (c := c) h2 few
    refine ⟨_, rfl, by omega, by omega, fun H4 e4 => ?_⟩
    rw [hp]
    exact q H4 (((e1.trans e2).trans e3).trans e4)
/-! ### check_any_places, item_widths -/
def spCheckAny : Sp := fun vs H Q _ => ∃ (a : Addr) (ps : List Int) (c : Nat), vs = [.ref a, .int (c : Int)] ∧ H a = some (.lst (ps.map V.int)) ∧ Pls 64 ps ∧ RetV .non H Q
theorem cal_checkAny (D : At K mg "check_any_places" dCheckAnyPlaces) (mm : Most mg) (C : Cal P w K mg base 4 "are_places" ["width", "value"] spArePlaces) (C2 : Cal P w K mg base 3 "check_number" ["number", "low", "high"] spCheckNumber) :
    Cal P w K mg base 5 "check_any_places" ["places", "count"] spCheckAny := by
  refine cal_of D scCheckAnyPlaces (fun vs H Q E h => ?_) (fun _ _ _ _ _ _ us hl => match us, hl with | [_, _], _ => rfl) (fun f cdv A outer s H vs Q E hr h => ?_)
  · obtain ⟨a, ps, c, rfl, _⟩ := h
    rfl
  · obtain ⟨a, ps, c, rfl, ha, Pl, q⟩ := h
    obtain ⟨t, mm⟩ := mm
    refine ⟨_, pss_cons (ps_if (pt_not (pt_val (C.call hr (pa_cons (pe_glob (v := .int 64) (by rfl) mm ⟨t, rfl⟩) (pa_cons (pv 0) pa_nil))))) pss_never pss_nil)
      (pss_one (ps_expr (C2.call hr (pa_cons (pv 1) (pa_cons pe_int (pa_cons pe_non pa_nil)))))), ?_⟩
    refine ⟨_, rfl, 64, a, ps, rfl, ha, by omega, Pl, fun H1 e1 => ⟨true, rfl, iteF ?_⟩⟩
    exact ⟨_, rfl, (c : Int), 0, _, rfl, by omega, .inl rfl, fun H2 e2 => q H2 (e1.trans e2)⟩
def spItemWidths : Sp := fun vs H Q _ => ∃ (a : Addr) (ps : List Int) (c : Nat), vs = [.ref a, .int (c : Int)] ∧ H a = some (.lst (ps.map V.int)) ∧ Pls 64 ps ∧ RetL ((((nums ps).take c).map fun n => n + 1).map V.int) H Q
theorem cal_itemWidths (D : At K mg "item_widths" dItemWidths) (C : Cal P w K mg base 5 "check_any_places" ["places", "count"] spCheckAny) (C2 : Cal P w K mg base 2 "good_row" ["places"] spGoodRow) :
    Cal P w K mg base 6 "item_widths" ["places", "count"] spItemWidths := by
  refine cal_of D scItemWidths (fun vs H Q E h => ?_) (fun _ _ _ _ _ _ us hl => match us, hl with | [_, _], _ => rfl) (fun f cdv A outer s H vs Q E hr h => ?_)
  · obtain ⟨a, ps, c, rfl, _⟩ := h
    rfl
  · obtain ⟨a, ps, c, rfl, ha, Pl, q⟩ := h
    refine ⟨_, pss_cons (ps_expr (C.call hr (pa_cons (pv 0) (pa_cons (pv 1) pa_nil))))
      (pss_one (ps_ret (pe_lc (own := [("number", 2)]) (g := gName 2) rfl scItemWidths.nd (pi_list (pe_slice sl_list (pe_ix ix_tup (C2.call hr (pa_cons (pv 0) pa_nil)) pe_int (fun _ _ => rfl)) po_none (po_some (pv 1))))
        (blkOk_by (own := [("number", 2)]) (N := ["places", "count", "number"]) (sc := defScope dItemWidths) (by decide +kernel))
        (fun _ _ _ _ _ => pg_name (i := 2) scItemWidths.nd rfl (.inl rfl) (.inr rfl)) (fun _ _ _ _ _ => pts_nil) (fun _ _ _ _ _ => pe_op op_add (pv 2) pe_int)))), ?_⟩
    refine ⟨_, rfl, _, rfl, a, ps, c, rfl, ha, Pl, fun H1 e1 => ?_⟩
    have few := Pl.few
    have hn := el_nums (K := K) (H := H1) (σ := [some (.ref a), some (.int (c : Int)), none]) (ta := tCons (tVar 0) tNil) (ea_cons (ev_var rfl) ea_nil) (e1 a _ ha) (Pl.plc (Nat.le_refl _))
    have hs := el_slN (K := K) hn (eo_some (ev_var (v := .int (c : Int)) (i := 1) rfl))
    rw [cut_to, ← List.map_take] at hs
    have hl : ((nums ps).take c).length ≤ 64 := Nat.le_trans (List.length_take_le' _ _) (by rw [nums_len]; exact few)
    have hc := el_ints (K := K) (t := tYes) (te := tOp (rI0 fun i j => .int (i + j)) (tVar 2) (tC (.int 1))) (j := 2) (vs := [2]) (fun _ => true) (fun n => V.int (n + 1)) hs (by omega) (fun _ => rfl)
      (fun n _ H1 _ => et_yes) (fun n _ _ H1 _ => ev_op (ev_var rfl) ev_c rv_I0)
    rw [fil_true, show ((nums ps).take c).map (fun n => V.int (n + 1)) = (((nums ps).take c).map fun n => n + 1).map V.int by rw [List.map_map]; rfl] at hc
    exact s_retL (D := { nx := fun _ H' => Q .non H', rt := Q }) hc fun p H2 np e2 hp => q p H2 (fresh_back e1 np) (e1.trans e2) hp
end
end K17
set_option maxHeartbeats 4000000
/-! width_for. -/
namespace K17
open PySem PySem.Spec PyProof.Rows L2 Evl
def lastOf (ps : List Int) : Int := ps.getD (ps.length - 1) 0
theorem last_mem {ps : List Int} (h : ps ≠ []) : lastOf ps ∈ ps := getD_mem (by have := List.length_pos_iff.mpr h; omega)
theorem at_end {ns : List Int} (h : ns ≠ []) : atI (ns.map V.int) (-1) = some (.int (lastOf ns)) := by
  have hl := List.length_pos_iff.mpr h
  unfold atI ixN
  rw [if_neg (by decide), if_pos (by rw [List.length_map]; omega)]
  have e : (-1 + ((ns.map V.int).length : Int)).toNat = ns.length - 1 := by rw [List.length_map]; omega
  rw [e]
  exact int_get (by omega)
theorem bits_max {l : Int} (h : 0 ≤ l) : (if (1 : Int) > ((Builtin.Int.intBits l : Nat) : Int) then (1 : Int) else ((Builtin.Int.intBits l : Nat) : Int)) = (bitsOf l : Int) := by
  unfold Builtin.Int.intBits bitsOf
  have e : l.toNat = l.natAbs := by omega
  rw [e]
  by_cases h0 : l = 0
  · subst h0; rfl
  · rw [if_neg (show ¬ (l == 0) = true by simpa using h0)]
    by_cases h1 : l < 2
    · have : l = 1 := by omega
      subst this; rfl
    · rw [if_neg h1, if_neg (by omega)]
def optV : Option Int → V
  | none => .non
  | some x => .int x
section
variable {P : Program} {w : World} {K : PySem.W.Frag} {mg : Str → Option Value} {base : Heap}
def spWidthFor : Sp := fun vs H Q _ => ∃ (a : Addr) (ps : List Int) (c : Nat) (m : Int), vs = [.ref a, .int (c : Int), .int m] ∧ H a = some (.lst (ps.map V.int)) ∧ Pls 64 ps ∧ 0 ≤ m ∧ RetV (optV (wfor (bitsOf (lastOf ps)) ((nums ps).take c) m)) H Q
theorem cal_widthFor (D : At K mg "width_for" dWidthFor) (m : Free mg) (mm : Most mg) (C : Cal P w K mg base 5 "check_any_places" ["places", "count"] spCheckAny) (C2 : Cal P w K mg base 2 "good_row" ["places"] spGoodRow)
    (C3 : Cal P w K mg base 2 "size_power" ["width", "numbers", "count"] spSizePower) (C4 : Cal P w K mg base 3 "check_number" ["number", "low", "high"] spCheckNumber) :
    Cal P w K mg base 6 "width_for" ["places", "count", "many"] spWidthFor := by
  refine cal_of D scWidthFor (fun vs H Q E h => ?_) (fun _ _ _ _ _ _ us hl => match us, hl with | [_, _, _], _ => rfl) (fun f cdv A outer s H vs Q E hr h => ?_)
  · obtain ⟨a, ps, c, m, rfl, _⟩ := h
    rfl
  · obtain ⟨a, ps, c, mn, rfl, ha, Pl, hm, q⟩ := h
    obtain ⟨t, mm⟩ := mm
    refine ⟨_, pss_cons (ps_expr (C.call hr (pa_cons (pv 0) (pa_cons (pv 1) pa_nil))))
      (pss_cons (ps_expr (C4.call hr (pa_cons (pv 2) (pa_cons pe_int (pa_cons pe_non pa_nil)))))
      (pss_cons (ps_set (i := 3) scWidthFor.nd rfl (.inl rfl) (pe_ix ix_tup (C2.call hr (pa_cons (pv 0) pa_nil)) pe_int (fun _ _ => rfl)))
      (pss_cons (ps_for PassesOwn.never rfl (pi_range2 (by rfl) m.range (pa_cons (pe_callB (call_max2 rfl) (by rfl) m.max boot_max (pa_cons (pe_bits (pe_ix ix_list (pv 0) (pe_un un_neg pe_int) (fun _ _ => rfl))) (pa_cons pe_int pa_nil))) (pa_cons (pe_op op_add (pe_glob (v := .int 64) (by rfl) mm ⟨t, rfl⟩) pe_int) pa_nil)))
        (pg_name (i := 4) scWidthFor.nd rfl (.inl rfl))
        (pss_one (ps_if (pt_cmpR op_ge (C3.call hr (pa_cons (pv 4) (pa_cons (pv 3) (pa_cons (pv 1) pa_nil)))) (pv 2) (nomark _)) (pss_one (ps_ret (pv 4))) pss_nil)))
      (pss_one (ps_ret pe_non))))), ?_⟩
    have few := Pl.few
    have hlast := Pl.lo _ (last_mem Pl.ne)
    have hb1 := bitsOf_pos (lastOf ps)
    have hb2 := bitsOf_le (w := 64) (by decide) hlast.2
    refine ⟨_, rfl, _, rfl, a, ps, c, rfl, ha, Pl, fun H1 e1 => ?_⟩
    refine ⟨_, rfl, mn, 0, _, rfl, hm, .inl rfl, fun H2 e2 => ?_⟩
    have x2 := e1.trans e2
    have hn := el_nums (K := K) (H := H2) (σ := [some (.ref a), some (.int (c : Int)), some (.int mn), none, none]) (ta := tCons (tVar 0) tNil) (ea_cons (ev_var rfl) ea_nil) (x2 a _ ha) (Pl.plc (Nat.le_refl _))
    refine hn H2 (Ex.refl _) _ fun n H3 _ e3 hn3 => ?_
    have x3 := x2.trans e3
    -- the range
    refine ⟨_, rfl, _, rfl, a, _, -1, _, rfl, rfl, sq_of (x3 a _ ha), at_end Pl.ne, ?_⟩
    refine ⟨_, rfl, _, _, rfl, ?_⟩
    rw [bits_max hlast.1]
    refine ⟨64, 1, rfl, rfl, _, _, rfl, ⟨by omega, by omega, by decide, by decide⟩, ?_⟩
    have ecnt : ((64 : Int) + 1 - (bitsOf (lastOf ps) : Int)).toNat = 65 - bitsOf (lastOf ps) := by omega
    rw [ecnt]
    refine for_range (fun i σ H' => (∃ v4, σ = [some (.ref a), some (.int (c : Int)), some (.int mn), some (.ref n), v4]) ∧ Ex H3 H' ∧ ∀ j, j < i → ¬ mn ≤ pw ((bitsOf (lastOf ps) : Int) + (j : Int)) ((nums ps).take c))
      ⟨⟨none, rfl⟩, Ex.refl _, fun j hj => absurd hj (Nat.not_lt_zero _)⟩ (fun i σ H' hi hp => ?_) (fun σ H' hp => ?_)
    · obtain ⟨⟨v4, rfl⟩, x4, hno⟩ := hp
      refine ⟨_, rfl, _, rfl, _, rfl, _, n, nums ps, c, rfl, x4 n _ hn3, by rw [nums_len]; omega, fun H4 e4 => ?_⟩
      rw [sizeP_pw (nums_asc ps)]
      refine ⟨_, rfl, _, _, rfl, rfl, _, rfl, ite2 (fun hd => ?_) (fun hd => ?_)⟩
      · have hd' : mn ≤ pw ((bitsOf (lastOf ps) : Int) + (i : Int)) ((nums ps).take c) := of_decide_eq_true hd
        refine ⟨_, rfl, ?_⟩
        have q2 := q H4 ((x3.trans x4).trans e4)
        rw [wfor_some hi hno hd'] at q2
        exact q2
      · have hd' : ¬ mn ≤ pw ((bitsOf (lastOf ps) : Int) + (i : Int)) ((nums ps).take c) := fun z => hd (decide_eq_true z)
        refine ⟨⟨_, rfl⟩, x4.trans e4, fun j hj => ?_⟩
        by_cases e : j = i
        · rw [e]; exact hd'
        · exact hno j (by omega)
    · obtain ⟨_, x4, hno⟩ := hp
      have q2 := q H' (x3.trans x4)
      rw [wfor_none hno] at q2
      exact q2
end
end K17
set_option maxHeartbeats 4000000
/-! The law's own draws. -/
namespace K17
open PySem PySem.Spec PyProof.Rows L2 Evl
/-- all but the object at g is kept -/
def ExB (g : Addr) (H H' : Hp) : Prop := ∀ a o, a ≠ g → H a = some o → H' a = some o
theorem ExB.of {g : Addr} {H H' : Hp} (e : Ex H H') : ExB g H H' := fun a o _ h => e a o h
theorem ExB.trans {g : Addr} {H H1 H2 : Hp} (a : ExB g H H1) (b : ExB g H1 H2) : ExB g H H2 := fun x o n h => b x o n (a x o n h)
theorem ExB.put {g : Addr} {H H' : Hp} {o : HO} (e : ExB g H H') : ExB g H (upd H' g o) := fun a u n h => by
  rw [upd_ne n]
  exact e a u n h
/-- a fresh address stays another one -/
theorem ExB.ext {g : Addr} {H H' H2 : Hp} (e : ExB g H H') (f : Ex H' H2) : ExB g H H2 := fun a o n h => f a o (e a o n h)
theorem ex_b {g : Addr} {H H' : Hp} {o u : HO} (e : ExB g H H') (hn : H g = none) : Ex H H' := fun a x h => e a x (fun z => by rw [z, hn] at h; cases h) h
/-- the generator at g: what is left to be drawn, the seed, the count -/
abbrev genO (x y z : Int) : HO := .lst [.int x, .int y, .int z]
structure Gen (H : Hp) (g : Addr) (x y z : Int) : Prop where
  at_ : H g = some (genO x y z)
  x0 : 0 ≤ x
  y0 : 0 ≤ y
  z0 : 0 ≤ z
section
variable {P : Program} {w : World} {K : PySem.W.Frag} {mg : Str → Option Value} {base : Heap}
/-! ### _law_hash: some number below 2147483647 -/
def spHash : Sp := fun vs H Q _ => ∃ s i : Int, vs = [.int s, .int i] ∧ 0 ≤ i ∧ i < 2 ^ 60 ∧ ∀ h : Int, 0 ≤ h → h < 2147483647 → RetV (.int h) H Q
theorem cal_hash (D : At K mg "_law_hash" dLHash) (m : Free mg) : Cal P w K mg base 1 "_law_hash" ["_law_seed", "_law_index"] spHash := by
  refine cal_of D scLHash (fun vs H Q E h => ?_) (fun _ _ _ _ _ _ us hl => match us, hl with | [_, _], _ => rfl) (fun f cdv A outer s H vs Q E hr h => ?_)
  · obtain ⟨s, i, rfl, _⟩ := h
    rfl
  · obtain ⟨sd, i, rfl, i0, i1, q⟩ := h
    refine ⟨_, pss_cons (ps_set (i := 2) scLHash.nd rfl (.inl rfl) (pe_op op_mod (pe_callTy call_int1 (by rfl) m.int boot_int (pa_cons (pe_op op_add (pe_op op_add (pe_op op_add (pe_op op_mul (pv 0) pe_int) (pe_op op_mul (pe_op op_mul pe_int (pv 1)) (pv 1))) (pe_op op_mul pe_int (pv 1))) pe_int) pa_nil)) pe_int))
      (pss_cons (ps_set (i := 2) scLHash.nd rfl (.inl rfl) (pe_op op_mod (pe_callTy call_int1 (by rfl) m.int boot_int (pa_cons (pe_op op_add (pe_op op_add (pe_op op_mul (pv 2) (pv 2)) (pe_op op_mul pe_int (pv 1))) pe_int) pa_nil)) pe_int))
      (pss_one (ps_ret (pe_op op_mod (pe_callTy call_int1 (by rfl) m.int boot_int (pa_cons (pe_op op_mul (pv 2) pe_int) pa_nil)) pe_int)))), ?_⟩
    have e64 : (2 : Int) ^ 64 = 18446744073709551616 := by decide
    have e60 : (2 : Int) ^ 60 = 1152921504606846976 := by decide
    rw [e60] at i1
    refine ⟨_, rfl, _, _, rfl, rfl, .inr ⟨by decide, by decide⟩, ?_⟩
    refine ⟨_, rfl, _, _, rfl, rfl, .inl ⟨by decide, by decide⟩, _, rfl, _, _, rfl, rfl, .inr ⟨by rw [e64]; omega, by rw [e64]; omega⟩, ?_⟩
    refine ⟨_, _, rfl, rfl, _, rfl, _, _, rfl, rfl, .inl ⟨by decide, by decide⟩, _, _, rfl, rfl, _, _, rfl, rfl, .inl ⟨_, rfl, ?_⟩⟩
    refine ⟨_, _, rfl, rfl, (by show (0 : Int) < 2147483629; decide), ?_⟩
    generalize hx : (sd * 1140671 + 27644437 * i * i + 131 * i + 19) % 2147483629 = x
    have x0 : 0 ≤ x := by rw [← hx]; exact Int.emod_nonneg _ (by decide)
    have x1 : x < 2147483629 := by rw [← hx]; exact Int.emod_lt_of_pos _ (by decide)
    refine ⟨_, rfl, _, rfl, _, _, rfl, rfl, .inl ⟨by rw [e64]; omega, by rw [e64]; omega⟩, _, rfl, _, _, rfl, rfl, .inl ⟨by decide, by decide⟩, _, _, rfl, rfl, _, _, rfl, rfl, .inl ⟨_, rfl, ?_⟩⟩
    refine ⟨_, _, rfl, rfl, (by show (0 : Int) < 2147483587; decide), ?_⟩
    generalize hy : (x * x + 62089 * i + 32416187) % 2147483587 = y
    refine ⟨_, rfl, _, _, rfl, rfl, .inr ⟨by decide, by decide⟩, .inl ⟨_, rfl, ?_⟩⟩
    refine ⟨_, _, rfl, rfl, (by show (0 : Int) < 2147483647; decide), ?_⟩
    exact q _ (Int.emod_nonneg _ (by decide)) (Int.emod_lt_of_pos _ (by decide)) H (Ex.refl H)
/-! ### _law_two -/
theorem cal_two (D : At K mg "_law_two" dLTwo) (m : Free mg) : Cal P w K mg base 1 "_law_two" ["_law_many"] spPow := by
  refine cal_of D scLTwo (fun vs H Q E h => ?_) (fun _ _ _ _ _ _ us hl => match us, hl with | [_], _ => rfl) (fun f cdv A outer s H vs Q E hr h => ?_)
  · obtain ⟨i, rfl, _⟩ := h
    rfl
  · obtain ⟨j, rfl, h0, h1, q⟩ := h
    refine ⟨_, pss_one (ps_ret (pe_op op_shl pe_int (pe_callTy call_int1 (by rfl) m.int boot_int (pa_cons (pv 0) pa_nil)))), ?_⟩
    refine ⟨_, rfl, .inl ⟨_, rfl, 1, j, rfl, rfl, ⟨h0, h1, by decide⟩, ?_⟩⟩
    show Q (.int (1 * 2 ^ j.toNat)) H
    rw [Int.one_mul]
    exact q H (Ex.refl H)
/-! ### _law_random -/
def spRandom : Sp := fun vs H Q _ => ∃ (g : Addr) (x y z b : Int), vs = [.ref g, .int b] ∧ Gen H g x y z ∧ z ≤ 1000000 ∧ 1 ≤ b ∧ b ≤ 2 ^ 64 ∧
  ∀ (r x' z' : Int) (H2 : Hp), 0 ≤ r → r < b → z' ≤ z + 10 → ExB g H H2 → Gen H2 g x' y z' → Q (.int r) H2
theorem bits_65 {b : Int} (h0 : 1 ≤ b) (h : b ≤ 2 ^ 64) : Builtin.Int.intBits b ≤ 65 := PyProof.Rows.intBits_le (show b.natAbs < 2 ^ 65 by
  have e : (2 : Int) ^ 64 = 18446744073709551616 := by decide
  have e2 : (2 : Nat) ^ 65 = 36893488147419103232 := by decide
  rw [e] at h
  rw [e2]
  omega)
theorem cal_random (D : At K mg "_law_random" dLRandom) (m : Free mg) (C : Cal P w K mg base 1 "_law_hash" ["_law_seed", "_law_index"] spHash) : Cal P w K mg base 2 "_law_random" ["_law_generator_here", "_law_bound"] spRandom := by
  refine cal_of D scLRandom (fun vs H Q E h => ?_) (fun _ _ _ _ _ _ us hl => match us, hl with | [_, _], _ => rfl) (fun f cdv A outer s H vs Q E hr h => ?_)
  · obtain ⟨g, x, y, z, b, rfl, _⟩ := h
    rfl
  · obtain ⟨g, x, y, z, b, rfl, G, hz, b0, b1, q⟩ := h
    refine ⟨_, pss_cons (ps_if (pt_cmpR op_gt (pe_ix ix_list (pv 0) pe_int (fun _ _ => rfl)) pe_int (nomark _))
        (pss_cons (ps_set (i := 2) scLRandom.nd rfl (.inl rfl) (pe_op op_mod (pe_callTy call_int1 (by rfl) m.int boot_int (pa_cons (pe_ix ix_list (pv 0) pe_int (fun _ _ => rfl)) pa_nil)) (pv 1)))
        (pss_cons (ps_asg (pe_op op_fdivW (pe_ix ix_list (pv 0) pe_int (fun _ _ => rfl)) (pv 1)) (pg_sub (pv 0) pe_int set_list))
        (pss_one (ps_ret (pv 2))))) pss_nil)
      (pss_cons (ps_set (i := 2) scLRandom.nd rfl (.inl rfl) pe_int)
      (pss_cons (ps_for PassesOwn.never rfl (pi_range1 (by rfl) m.range (pa_cons (pe_op op_add pe_int (pe_op op_fdiv (pe_bits (pv 1)) pe_int)) pa_nil)) (pg_name (i := 3) scLRandom.nd rfl (.inl rfl))
        (pss_cons (ps_asg (pe_op op_add (pe_ix ix_list (pv 0) pe_int (fun _ _ => rfl)) pe_int) (pg_sub (pv 0) pe_int set_list))
        (pss_one (ps_set (i := 2) scLRandom.nd rfl (.inl rfl) (pe_op op_add (pe_op op_mul (pv 2) pe_int) (C.call hr (pa_cons (pe_ix ix_list (pv 0) pe_int (fun _ _ => rfl)) (pa_cons (pe_ix ix_list (pv 0) pe_int (fun _ _ => rfl)) pa_nil))))))))
      (pss_one (ps_ret (pe_op op_mod (pe_callTy call_int1 (by rfl) m.int boot_int (pa_cons (pv 2) pa_nil)) (pv 1)))))), ?_⟩
    have hg := G.at_
    refine ⟨_, rfl, g, _, 0, .int x, rfl, rfl, sq_of hg, rfl, _, _, rfl, rfl, _, rfl, ite2 (fun hd => ?_) (fun hd => ?_)⟩
    · -- what is left is used
      have b2 : b.natAbs < 2 ^ 65 := by
        have e : (2 : Int) ^ 64 = 18446744073709551616 := by decide
        have e2 : (2 : Nat) ^ 65 = 36893488147419103232 := by decide
        rw [e] at b1
        rw [e2]
        omega
      refine ⟨_, rfl, g, _, 0, .int x, rfl, rfl, sq_of hg, rfl, .inl ⟨_, rfl, _, rfl, _, _, rfl, rfl, (by show 0 < b; omega), ?_⟩⟩
      refine ⟨_, rfl, g, _, 0, .int x, rfl, rfl, sq_of hg, rfl, _, rfl, _, _, rfl, rfl, wide_div (by omega) b2 (by decide) (by decide), ?_⟩
      refine ⟨_, rfl, g, _, 0, 0, rfl, rfl, hg, rfl, ?_⟩
      refine ⟨_, rfl, ?_⟩
      exact q _ (x / b) z _ (Int.emod_nonneg _ (by omega)) (Int.emod_lt_of_pos _ (by omega)) (by omega) (ExB.put (ExB.of (Ex.refl H))) ⟨upd_same, Int.ediv_nonneg G.x0 (by omega), G.y0, G.z0⟩
    · -- a hash
      have hb := bits_65 b0 b1
      refine ⟨_, rfl, _, rfl, _, _, rfl, rfl, ⟨by decide, by decide⟩, _, _, rfl, rfl, _, rfl, by omega, by omega, ?_⟩
      have hn : (1 + ((Builtin.Int.intBits b : Nat) : Int) / 30).toNat ≤ 3 := by omega
      refine for_range (lo := 0) (fun i σ H' => (∃ (d : Int) (v3 : Option V), σ = [some (.ref g), some (.int b), some (.int d), v3]) ∧ ExB g H H' ∧ ∃ z', z' ≤ z + (i : Int) ∧ Gen H' g x y z') ⟨⟨0, none, rfl⟩, ExB.of (Ex.refl H), z, by omega, G⟩ (fun i σ H' hi hp => ?_) (fun σ H' hp => ?_)
      · obtain ⟨⟨d, v3, rfl⟩, e1, z', hz', G'⟩ := hp
        have hg' := G'.at_
        refine ⟨_, rfl, g, _, 2, .int z', rfl, rfl, sq_of hg', rfl, _, _, rfl, rfl, _, rfl, g, _, 2, 2, rfl, rfl, hg', rfl, ?_⟩
        have hg2 : (upd H' g (genO x y (z' + 1))) g = some (genO x y (z' + 1)) := upd_same
        have z0' := G'.z0
        refine ⟨_, rfl, _, _, rfl, rfl, .inr ⟨by decide, by decide⟩, ?_⟩
        refine ⟨_, rfl, g, _, 1, .int y, rfl, rfl, sq_of hg2, rfl, _, rfl, g, _, 2, .int (z' + 1), rfl, rfl, sq_of hg2, rfl, ?_⟩
        refine ⟨y, z' + 1, rfl, by omega, by have e60 : (2 : Int) ^ 60 = 1152921504606846976 := by decide
                                             rw [e60]; omega, fun hh h0 h1 H4 e4 => ?_⟩
        refine ⟨_, _, rfl, rfl, ⟨_, _, rfl⟩, (ExB.put e1).ext e4, z' + 1, by omega, e4 g _ hg2, G'.x0, G'.y0, by omega⟩
      · obtain ⟨⟨d, v3, rfl⟩, e1, z', hz', G'⟩ := hp
        refine ⟨_, rfl, .inl ⟨_, rfl, _, rfl, _, _, rfl, rfl, (by show 0 < b; omega), ?_⟩⟩
        exact q _ x z' _ (Int.emod_nonneg _ (by omega)) (Int.emod_lt_of_pos _ (by omega)) (by omega) e1 G'
end
end K17
set_option maxHeartbeats 4000000
/-! The law's cells, generators, places. -/
namespace K17
open PySem PySem.Spec PyProof.Rows L2 Evl
section
variable {P : Program} {w : World} {K : PySem.W.Frag} {mg : Str → Option Value} {base : Heap}
/-! ### _law_cell: some number -/
def spCell (K : PySem.W.Frag) : Sp := fun vs H Q _ => ∃ (a : Addr) (ns : List Int) (i : Nat), vs = [.ref a, .int (i : Int)] ∧ SqL K H a (ns.map V.int) ∧ ∀ v : Int, RetV (.int v) H Q
theorem cal_cell (D : At K mg "_law_cell" dLCell) (m : Free mg) : Cal P w K mg base 1 "_law_cell" ["_law_script", "_law_index"] (spCell K) := by
  refine cal_of D scLCell (fun vs H Q E h => ?_) (fun _ _ _ _ _ _ us hl => match us, hl with | [_, _], _ => rfl) (fun f cdv A outer s H vs Q E hr h => ?_)
  · obtain ⟨a, ns, i, rfl, _⟩ := h
    rfl
  · obtain ⟨a, ns, i, rfl, hs, q⟩ := h
    refine ⟨_, pss_cons (ps_if (pt_cmpR op_lt (pv 1) (pe_callB call_len_seq (by rfl) m.len PySem.boot_len (pa_cons (pv 0) pa_nil)) (nomark _)) (pss_one (ps_ret (pe_ix ix_list (pv 0) (pv 1) (fun _ _ => rfl)))) pss_nil)
      (pss_one (ps_ret (pe_op op_mod (pe_callB (cr_sum rfl) (by rfl) m.sum boot_sum (pa_cons (pe_slice sl_list (pv 0) po_none (po_some pe_int)) pa_nil)) pe_int))), ?_⟩
    refine ⟨_, rfl, _, rfl, a, _, rfl, .inl hs, _, _, rfl, rfl, _, rfl, ite2 (fun hd => ?_) (fun hd => ?_)⟩
    · have hd' : (i : Int) < ((ns.map V.int).length : Int) := of_decide_eq_true hd
      rw [List.length_map] at hd'
      refine ⟨_, rfl, _, rfl, a, _, _, _, rfl, rfl, hs, at_int (i := i) (by omega) rfl, ?_⟩
      exact q _ H (Ex.refl H)
    · refine ⟨_, rfl, 1, rfl, a, _, rfl, hs, fun p np => ?_⟩
      have e : cutV (ns.map V.int) none (some 1) = (ns.take 1).map V.int := by rw [List.map_take]; exact cut_to _ 1
      rw [e]
      refine ⟨p, ns.take 1, rfl, sq_of upd_same, _, _, rfl, rfl, (by show (0 : Int) < 1000003; decide), ?_⟩
      exact q _ _ (Ex.new np)
/-! ### _law_generator -/
def spGen (K : PySem.W.Frag) : Sp := fun vs H Q _ => ∃ (a : Addr) (ns : List Int) (i : Nat), vs = [.ref a, .int (i : Int)] ∧ i ≤ 10 ∧ SqL K H a (ns.map V.int) ∧
  ∀ (g : Addr) (x y : Int) (H2 : Hp), H g = none → Ex H H2 → Gen H2 g x y (1000 * (i : Int)) → Q (.ref g) H2
theorem cal_gen (D : At K mg "_law_generator" dLGenerator) (m : Free mg) (C : Cal P w K mg base 1 "_law_cell" ["_law_script", "_law_index"] (spCell K)) : Cal P w K mg base 2 "_law_generator" ["_law_script", "_law_index"] (spGen K) := by
  refine cal_of D scLGenerator (fun vs H Q E h => ?_) (fun _ _ _ _ _ _ us hl => match us, hl with | [_, _], _ => rfl) (fun f cdv A outer s H vs Q E hr h => ?_)
  · obtain ⟨a, ns, i, rfl, _⟩ := h
    rfl
  · obtain ⟨a, ns, i, rfl, hi, hs, q⟩ := h
    refine ⟨_, pss_cons (ps_set (i := 2) scLGenerator.nd rfl (.inl rfl) (C.call hr (pa_cons (pv 0) (pa_cons (pv 1) pa_nil))))
      (pss_one (ps_ret (pe_lst (pa_cons (pe_op op_mod (pe_callTy call_int1 (by rfl) m.int boot_int (pa_cons (pe_callB (call_max2 rfl) (by rfl) m.max boot_max (pa_cons (pe_op op_sub (pv 2) (pe_op op_pow pe_int pe_int)) (pa_cons pe_int pa_nil))) pa_nil)) (pe_op op_pw (pe_op op_pow pe_int pe_int) pe_int))
        (pa_cons (pe_op op_mod (pe_callTy call_int1 (by rfl) m.int boot_int (pa_cons (pv 2) pa_nil)) pe_int) (pa_cons (pe_op op_mul pe_int (pv 1)) pa_nil)))))), ?_⟩
    refine ⟨_, rfl, _, rfl, a, ns, i, rfl, hs, fun v H1 e1 => ?_⟩
    have big : (0 : Int) < ((10 : Int) ^ (60 : Int).toNat) ^ (10 : Int).toNat := Int.pow_pos (Int.pow_pos (by decide))
    refine ⟨_, rfl, 10, 18, rfl, rfl, ⟨by decide, by decide, by decide⟩, _, _, rfl, rfl, _, _, rfl, .inl ⟨_, rfl, ?_⟩⟩
    refine ⟨10, 60, rfl, rfl, ⟨by decide, by decide, by decide⟩, _, 10, rfl, rfl, ⟨by decide, ?_⟩, _, _, rfl, rfl, big, ?_⟩
    · have h1 : Builtin.Int.intBits ((10 : Int) ^ (60 : Int).toNat) ≤ 200 := PyProof.Rows.intBits_le (by decide +kernel)
      have e27 : (2 : Int) ^ 27 = 134217728 := by decide
      rw [e27]
      omega
    refine ⟨_, rfl, .inl ⟨_, rfl, _, _, rfl, rfl, (by show (0 : Int) < 2147483647; decide), ?_⟩⟩
    refine ⟨_, rfl, _, _, rfl, rfl, .inl ⟨by decide, by decide⟩, by show 3 ≤ sizeLine; decide, fun g ng => ?_⟩
    exact q g _ _ _ (fresh_back e1 ng) (e1.trans (Ex.new ng)) ⟨upd_same, Int.emod_nonneg _ (Int.ne_of_gt big), Int.emod_nonneg _ (by decide), by omega⟩
end
end K17
set_option maxHeartbeats 4000000
/-! The law's places, twos, bits. -/
namespace K17
open PySem PySem.Spec PyProof.Rows L2 Evl
theorem in_ints (p : Int) (fs : List Int) : inV (.int p) (fs.map V.int) = decide (p ∈ fs) := by
  unfold inV
  rw [List.any_map]
  induction fs with
  | nil => rfl
  | cons x r ih =>
    rw [List.any_cons, ih]
    show (x == p || decide (p ∈ r)) = _
    by_cases h : x = p
    · subst h; simp
    · have h2 : ¬ p = x := fun e => h e.symm
      simp [h, h2]
theorem strict_of {l : List Int} (h : l.Pairwise (· ≤ ·)) (nd : l.Nodup) : l.Pairwise (· < ·) :=
  (List.Pairwise.and h nd).imp fun {a b} q => by
    have h1 : a ≤ b := q.1
    have h2 : a ≠ b := q.2
    omega
section
variable {P : Program} {w : World} {K : PySem.W.Frag} {mg : Str → Option Value} {base : Heap}
def spPlaces : Sp := fun vs H Q _ => ∃ (g : Addr) (x y z : Int) (v : Nat), vs = [.ref g, .int (v : Int), .int 7] ∧ Gen H g x y z ∧ z ≤ 100000 ∧ v ≤ 60 ∧
  ∀ (a : Addr) (ps : List Int) (x' z' : Int) (H2 : Hp), Pls v ps → ps.length ≤ 7 → z' ≤ z + 100 → H a = none → ExB g H H2 → H2 a = some (.lst (ps.map V.int)) → Gen H2 g x' y z' → Q (.ref a) H2
theorem cal_places (D : At K mg "_law_places" dLPlaces) (m : Free mg) (C : Cal P w K mg base 2 "_law_random" ["_law_generator_here", "_law_bound"] spRandom) (C2 : Cal P w K mg base 1 "_law_two" ["_law_many"] spPow) :
    Cal P w K mg base 3 "_law_places" ["_law_generator_here", "_law_width_there", "_law_most"] spPlaces := by
  refine cal_of D scLPlaces (fun vs H Q E h => ?_) (fun _ _ _ _ _ _ us hl => match us, hl with | [_, _, _], _ => rfl) (fun f cdv A outer s H vs Q E hr h => ?_)
  · obtain ⟨g, x, y, z, v, rfl, _⟩ := h
    rfl
  · obtain ⟨g, x, y, z, v, rfl, G, hz, hv, q⟩ := h
    refine ⟨_, pss_cons (ps_set (i := 3) scLPlaces.nd rfl (.inl rfl) (pe_lst pa_nil))
      (pss_cons (ps_for PassesOwn.never rfl (pi_range1 (by rfl) m.range (pa_cons (pe_op op_add pe_int (C.call hr (pa_cons (pv 0) (pa_cons (pv 2) pa_nil)))) pa_nil)) (pg_name (i := 4) scLPlaces.nd rfl (.inl rfl))
        (pss_cons (ps_set (i := 5) scLPlaces.nd rfl (.inl rfl) (C.call hr (pa_cons (pv 0) (pa_cons (C2.call hr (pa_cons (pv 1) pa_nil)) pa_nil))))
        (pss_one (ps_if (pt_cmpR op_notIn_seq (pv 5) (pv 3) (by rfl)) (pss_one (ps_expr (pe_bm PySem.F.plainAttrs_list PySem.F.slot_list_append PySem.F.type_list_append mt_append (pv 3) (pa_cons (pv 5) pa_nil)))) pss_nil))))
      (pss_one (ps_ret (pe_callB cr_sorted (by rfl) m.sorted boot_sorted (pa_cons (pv 3) pa_nil))))), ?_⟩
    refine ⟨Nat.zero_le _, fun l nl => ?_⟩
    have hgl : g ≠ l := ne_of_none G.at_ nl
    have hg1 : Gen (upd H l (.lst [])) g x y z := ⟨(Ex.new nl) g _ G.at_, G.x0, G.y0, G.z0⟩
    have e64 : (2 : Int) ^ 64 = 18446744073709551616 := by decide
    refine ⟨_, rfl, _, rfl, g, x, y, z, 7, rfl, hg1, by omega, by decide, by decide, fun r x1 z1 H1 r0 r1 hz1 b1 G1 => ?_⟩
    refine ⟨_, _, rfl, rfl, _, rfl, by omega, by omega, ?_⟩
    have hf1 : H1 l = some (.lst (([] : List Int).map V.int)) := b1 l _ hgl.symm upd_same
    refine for_range (lo := 0) (fun i σ H' => ∃ (fs : List Int) (v4 v5 : Option V) (x' z' : Int), σ = [some (.ref g), some (.int (v : Int)), some (.int 7), some (.ref l), v4, v5] ∧ ExB g H H' ∧ H' l = some (.lst (fs.map V.int)) ∧
        fs.Nodup ∧ (∀ p ∈ fs, 0 ≤ p ∧ p < 2 ^ v) ∧ fs.length ≤ i ∧ (0 < i → fs ≠ []) ∧ z' ≤ z + 10 + 10 * (i : Int) ∧ Gen H' g x' y z')
      ⟨[], none, none, x1, z1, rfl, (ExB.of (Ex.new nl)).trans b1, hf1, .nil, fun p hp => absurd hp List.not_mem_nil, Nat.zero_le _, fun h => absurd h (Nat.lt_irrefl _), by omega, G1⟩ (fun i σ H' hi hp => ?_) (fun σ H' hp => ?_)
    · obtain ⟨fs, v4, v5, x', z', rfl, b2, hf, nd, lo, few, some1, hz2, G2⟩ := hp
      have pv1 := pow_le (a := v) (b := 64) (by omega)
      have pv2 : (1 : Int) ≤ 2 ^ v := by
        have := pow_le (a := 0) (b := v) (Nat.zero_le _)
        exact this
      refine ⟨_, rfl, _, rfl, (v : Int), rfl, by omega, by omega, fun H3 e3 => ?_⟩
      rw [Int.toNat_natCast]
      refine ⟨g, x', y, z', 2 ^ v, rfl, ⟨e3 g _ G2.at_, G2.x0, G2.y0, G2.z0⟩, by omega, pv2, pv1, fun p x3 z3 H4 p0 p1 hz4 b4 G4 => ?_⟩
      have hf4 := b4 l _ hgl.symm (e3 l _ hf)
      have b5 := (b2.ext e3).trans b4
      refine ⟨_, rfl, _, rfl, l, _, rfl, .inl (sq_of hf4), rfl, flat_ints _, _, rfl, ?_⟩
      rw [in_ints]
      show if (!decide (p ∈ fs)) = true then _ else _
      by_cases hin : p ∈ fs
      · rw [decide_eq_true hin]
        refine iteF ?_
        refine ⟨fs, _, _, x3, z3, rfl, b5, hf4, nd, lo, by omega, fun _ => List.ne_nil_of_mem hin, by omega, G4⟩
      · rw [decide_eq_false hin]
        refine iteT ?_
        refine ⟨_, rfl, .inl ⟨rfl, _, sq_of hf4⟩, _, rfl, l, _, _, rfl, rfl, hf4, few_line (by rw [List.length_map]; omega), ?_⟩
        refine ⟨fs ++ [p], _, _, x3, z3, rfl, fun a o na ha => ?_, ?_, ?_, ?_, ?_, ?_, by omega, ?_⟩
        · rw [upd_ne (ne_of_none ha (fresh_back (Ex.refl H) nl))]
          exact b5 a o na ha
        · rw [List.map_append]; exact upd_same
        · rw [List.nodup_append]
          exact ⟨nd, by simp, fun a ha b hb => by rw [List.mem_singleton.mp hb]; exact fun e => hin (e ▸ ha)⟩
        · intro u hu
          rcases List.mem_append.mp hu with k | k
          · exact lo u k
          · rw [List.mem_singleton.mp k]; exact ⟨p0, p1⟩
        · rw [List.length_append, List.length_singleton]; omega
        · exact fun _ => by simp
        · exact ⟨by rw [upd_ne hgl]; exact G4.at_, G4.x0, G4.y0, G4.z0⟩
    · obtain ⟨fs, v4, v5, x', z', rfl, b2, hf, nd, lo, few, some1, hz2, G2⟩ := hp
      refine ⟨_, rfl, l, fs, rfl, sq_of hf, by omega, fun ps p perm asc np => ?_⟩
      have hpg : g ≠ p := ne_of_none G2.at_ np
      have hl := perm.length_eq
      refine q p ps x' z' _ ⟨?_, strict_of asc ((perm.nodup_iff).mpr nd), fun u hu => lo u (perm.mem_iff.mp hu), by omega⟩ (by omega) (by omega) ?_ (b2.ext (Ex.new np)) upd_same ⟨by rw [upd_ne hpg]; exact G2.at_, G2.x0, G2.y0, G2.z0⟩
      · intro e
        rw [e] at hl
        exact some1 (by omega) (List.length_eq_zero_iff.mp hl.symm)
      · cases e : H p with
        | none => rfl
        | some o =>
          have := b2 p o hpg.symm e
          rw [np] at this
          cases this
end
end K17
set_option maxHeartbeats 4000000
/-! The law's twos, bits, good order. -/
namespace K17
open PySem PySem.Spec PyProof.Rows L2 Evl
section
variable {P : Program} {w : World} {K : PySem.W.Frag} {mg : Str → Option Value} {base : Heap}
theorem cal_twosL (D : At K mg "_law_twos" dLTwos) (m : Free mg) : Cal P w K mg base 1 "_law_twos" ["_law_number"] spTwos := by
  refine cal_of D scLTwos (fun vs H Q E h => ?_) (fun _ _ _ _ _ _ us hl => match us, hl with | [_], _ => rfl) (fun f cdv A outer s H vs Q E hr h => ?_)
  · obtain ⟨i, rfl, _⟩ := h
    rfl
  · obtain ⟨d, rfl, h0, h1, q⟩ := h
    refine ⟨_, pss_cons (ps_set (i := 1) scLTwos.nd rfl (.inl rfl) pe_int)
      (pss_cons (ps_while PassesOwn.never (pt_cmpR op_eq (pe_op op_mod (pe_callTy call_int1 (by rfl) m.int boot_int (pa_cons (pv 0) pa_nil)) pe_int) pe_int (nomark _))
        (pss_one (ps_par (i := 0) (j := 1) rfl scLTwos.nd rfl rfl (by decide) rfl rfl (pa_cons (pe_op op_fdiv (pv 0) pe_int) (pa_cons (pe_op op_add (pv 1) pe_int) pa_nil)) (by rfl))))
      (pss_one (ps_ret (pv 1)))), ?_⟩
    refine ⟨fun m σ H' => ∃ (n c : Int), σ = [some (.int n), some (.int c)] ∧ H' = H ∧ n ≠ 0 ∧ n.natAbs < 2 ^ m ∧ c + (twF m n.natAbs : Nat) = tw d, ⟨64, d, 0, rfl, rfl, h0, h1, by unfold tw; omega⟩, ?_⟩
    rintro m σ H' ⟨n, c, rfl, hH, n0, n1, e⟩
    subst H'
    refine ⟨_, rfl, .inl ⟨_, rfl, n, 2, rfl, rfl, (by show (0 : Int) < 2; decide), rfl, _, rfl, ite2 (fun hd => ?_) (fun hd => ?_)⟩⟩
    · have hz : n % 2 = 0 := V.int.inj (of_decide_eq_true hd)
      cases m with
      | zero =>
        rw [Nat.pow_zero] at n1
        omega
      | succ m =>
        obtain ⟨t1, t2⟩ := tw_turn n1 (show n.natAbs % 2 = 0 by omega)
        refine ⟨fun σ H' => σ = [some (.int (n / 2)), some (.int (c + 1))] ∧ H' = H, fun σ' H1 hN => ?_, ?_⟩
        · obtain ⟨rfl, rfl⟩ := hN
          refine ⟨m, Nat.lt_succ_self _, n / 2, c + 1, rfl, rfl, by omega, by rw [half_abs hz]; exact t2, ?_⟩
          rw [half_abs hz]
          rw [t1] at e
          omega
        · exact ⟨_, rfl, n, 2, rfl, rfl, ⟨by decide, by decide⟩, _, rfl, c, 1, rfl, rfl, _, _, rfl, rfl, rfl⟩
    · have hz : ¬ n % 2 = 0 := fun q => hd (decide_eq_true (congrArg V.int q))
      refine ⟨_, rfl, ?_⟩
      rw [tw_stop (show ¬ n.natAbs % 2 = 0 by omega)] at e
      have ec : c = tw d := by omega
      rw [ec]
      exact q H (Ex.refl H)
/-! ### _law_bits -/
def spBits : Sp := fun vs H Q _ => ∃ (a : Addr) (ps : List Int), vs = [.ref a] ∧ H a = some (.lst (ps.map V.int)) ∧ Pls 64 ps ∧ RetV (.int (bitsOf (lastOf ps))) H Q
theorem cal_bits (D : At K mg "_law_bits" dLBits) (m : Free mg) (C : Cal P w K mg base 1 "_law_two" ["_law_many"] spPow) : Cal P w K mg base 2 "_law_bits" ["_law_spots"] spBits := by
  refine cal_of D scLBits (fun vs H Q E h => ?_) (fun _ _ _ _ _ _ us hl => match us, hl with | [_], _ => rfl) (fun f cdv A outer s H vs Q E hr h => ?_)
  · obtain ⟨i, ps, rfl, _⟩ := h
    rfl
  · obtain ⟨a, ps, rfl, ha, Pl, q⟩ := h
    refine ⟨_, pss_cons (ps_set (i := 1) scLBits.nd rfl (.inl rfl) pe_int)
      (pss_cons (ps_while PassesOwn.never (pt_cmpR op_ge (pe_ix ix_list (pv 0) (pe_op op_sub (pe_callB call_len_seq (by rfl) m.len PySem.boot_len (pa_cons (pv 0) pa_nil)) pe_int) (fun _ _ => rfl)) (C.call hr (pa_cons (pv 1) pa_nil)) (nomark _))
        (pss_one (ps_set (i := 1) scLBits.nd rfl (.inl rfl) (pe_op op_add (pv 1) pe_int))))
      (pss_one (ps_ret (pv 1)))), ?_⟩
    have few := Pl.few
    have hlen := List.length_pos_iff.mpr Pl.ne
    have hb2 := bitsOf_le (w := 64) (by decide) (Pl.lo _ (last_mem Pl.ne)).2
    refine ⟨fun m σ H' => ∃ (c : Nat), σ = [some (.ref a), some (.int (c : Int))] ∧ Ex H H' ∧ 1 ≤ c ∧ c + m = bitsOf (lastOf ps), ⟨bitsOf (lastOf ps) - 1, 1, rfl, Ex.refl H, Nat.le_refl _, by have := bitsOf_pos (lastOf ps); omega⟩, ?_⟩
    rintro m σ H' ⟨c, rfl, e1, c1, ec⟩
    have ha1 := e1 a _ ha
    refine ⟨_, rfl, _, rfl, a, _, rfl, .inl (sq_of ha1), _, _, rfl, rfl, a, _, _, .int (lastOf ps), rfl, rfl, sq_of ha1, at_int (i := ps.length - 1) (by omega) (by rw [List.length_map]; omega), ?_⟩
    refine ⟨_, rfl, (c : Int), rfl, by omega, by omega, fun H2 e2 => ?_⟩
    rw [Int.toNat_natCast]
    refine ⟨_, _, rfl, rfl, _, rfl, ite2 (fun hd => ?_) (fun hd => ?_)⟩
    · have hd' : c < bitsOf (lastOf ps) := (bitsOf_lt c1).mp (of_decide_eq_true hd)
      refine ⟨fun σ H' => σ = [some (.ref a), some (.int ((c + 1 : Nat) : Int))] ∧ H' = H2, fun σ' H3 hN => ?_, ?_⟩
      · obtain ⟨rfl, rfl⟩ := hN
        exact ⟨m - 1, by omega, c + 1, rfl, e1.trans e2, by omega, by omega⟩
      · exact ⟨_, rfl, (c : Int), 1, rfl, rfl, rfl, rfl⟩
    · have hd' : ¬ c < bitsOf (lastOf ps) := fun z => hd (decide_eq_true ((bitsOf_lt c1).mpr z))
      have e : c = bitsOf (lastOf ps) := by omega
      refine ⟨_, rfl, ?_⟩
      rw [e]
      exact q H2 (e1.trans e2)
end
end K17
set_option maxHeartbeats 4000000
/-! The law's good order. -/
namespace K17
open PySem PySem.Spec PyProof.Rows L2 Evl
section
variable {P : Program} {w : World} {K : PySem.W.Frag} {mg : Str → Option Value} {base : Heap}
/-- the costs' element: sum([_law_twos(place - taken) for taken in order]) -/
abbrev tCost (K : PySem.W.Frag) : TE := tCB (rSum K) (tCons (tLc (iList K (tVar 1)) (gName 6) tYes (tCall spTwos [] E0 (tCons (tOp (rI0 fun i j => .int (i - j)) (tVar 7) (tVar 6)) tNil)) [6]) tNil)
def spGood : Sp := fun vs H Q _ => ∃ (a : Addr) (ps : List Int), vs = [.ref a] ∧ H a = some (.lst (ps.map V.int)) ∧ ps ≠ [] ∧ Plc ps ∧
  ∀ (t o n : Addr) (H2 : Hp), Ex H H2 → H t = none → H n = none → H2 t = some (.tup [.ref o, .ref n]) → H2 o = some (.lst ((good ps).1.map V.int)) → H2 n = some (.lst ((nums ps).map V.int)) → Q (.ref t) H2
theorem cal_good (D : At K mg "_law_good" dLGood) (m : Free mg) (C : Cal P w K mg base 1 "_law_twos" ["_law_number"] spTwos) : Cal P w K mg base 2 "_law_good" ["_law_spots"] spGood := by
  refine cal_of D scLGood (fun vs H Q E h => ?_) (fun _ _ _ _ _ _ us hl => match us, hl with | [_], _ => rfl) (fun f cdv A outer s H vs Q E hr h => ?_)
  · obtain ⟨a, ps, rfl, _⟩ := h
    rfl
  · obtain ⟨a, ps, rfl, ha, ne, Pl, q⟩ := h
    refine ⟨_, pss_cons (ps_asg (pe_tup (pa_cons (pe_slice sl_list (pv 0) po_none (po_some pe_int)) (pa_cons (pe_lst (pa_cons pe_int pa_nil)) (pa_cons (pe_slice sl_list (pv 0) (po_some pe_int) po_none) pa_nil))))
        (pg_tup rfl (pgs_cons (pg_name (i := 1) scLGood.nd rfl (.inr rfl)) (pgs_cons (pg_name (i := 2) scLGood.nd rfl (.inl rfl)) (pgs_cons (pg_name (i := 3) scLGood.nd rfl (.inl rfl)) pgs_nil)))))
      (pss_cons (ps_while PassesOwn.never (pt_cmpR (op_neD hr.units) (pv 3) (pe_lst pa_nil) (nomark _))
        (pss_cons (ps_setLc (i := 4) (own := [("_law_place", 7)]) (g := gName 7) (te := tCost K) (by rfl) scLGood.nd rfl rfl (sw_true rfl rfl rfl (by decide +kernel)) (pi_list (pv 3))
          (blkOk_by (own := [("_law_place", 7)]) (N := ["_law_spots", "_law_order", "_law_numbers", "_law_left", "_law_costs", "_law_at", "_law_taken", "_law_place"]) (sc := defScope dLGood) (by decide +kernel))
          (fun _ _ _ _ _ => pg_name (i := 7) scLGood.nd rfl (.inr rfl) (.inl rfl)) (fun _ _ _ _ _ => pts_nil)
          (fun _ _ _ _ _ => pe_callB (cr_sum rfl) (by rfl) m.sum boot_sum (pa_cons (pe_lc (own := [("_law_taken", 6)]) (g := gName 6) rfl scLGood.nd (pi_list (pv 1)) (blkOk_by (by rfl)) (fun _ _ _ _ _ => pg_name (i := 6) scLGood.nd rfl (.inl rfl) (.inr rfl)) (fun _ _ _ _ _ => pts_nil)
            (fun _ _ _ _ _ => C.call hr (pa_cons (pe_op op_sub (pv 7) (pv 6)) pa_nil))) pa_nil)))
        (pss_cons (ps_set (i := 5) scLGood.nd rfl (.inl rfl) (pe_bm PySem.F.plainAttrs_list PySem.F.slot_list_index PySem.F.type_list_index mt_index (pv 4) (pa_cons (pe_callB (cr_min rfl) (by rfl) m.min boot_min (pa_cons (pv 4) pa_nil)) pa_nil)))
        (pss_one (ps_asg (pe_tup (pa_cons (pe_op op_cat (pv 1) (pe_lst (pa_cons (pe_ix ix_list (pv 3) (pv 5) (fun _ _ => rfl)) pa_nil)))
            (pa_cons (pe_op op_cat (pv 2) (pe_lst (pa_cons (pe_ix ix_list (pv 4) (pv 5) (fun _ _ => rfl)) pa_nil)))
            (pa_cons (pe_op op_cat (pe_slice sl_list (pv 3) po_none (po_some (pv 5))) (pe_slice sl_list (pv 3) (po_some (pe_op op_add (pv 5) pe_int)) po_none)) pa_nil))))
          (pg_tup rfl (pgs_cons (pg_name (i := 1) scLGood.nd rfl (.inr rfl)) (pgs_cons (pg_name (i := 2) scLGood.nd rfl (.inl rfl)) (pgs_cons (pg_name (i := 3) scLGood.nd rfl (.inl rfl)) pgs_nil)))))))))
      (pss_one (ps_ret (pe_tup (pa_cons (pv 1) (pa_cons (pv 2) pa_nil)))))), ?_⟩
    cases ps with
    | nil => exact absurd rfl ne
    | cons p0 r =>
    -- order, numbers, left = spots[:1], [0], spots[1:]
    have c1 : cutV ((p0 :: r).map V.int) none (some 1) = [p0].map V.int := cut_to _ 1
    have c2 : cutV ((p0 :: r).map V.int) (some 1) none = r.map V.int := cut_from _ 1
    refine ⟨_, rfl, 1, rfl, a, _, rfl, sq_of ha, fun o no => ?_⟩
    rw [c1]
    have f1 : Ex H (upd H o (.lst ([p0].map V.int))) := Ex.new no
    have h1 : (upd H o (.lst ([p0].map V.int))) o = some (.lst ([p0].map V.int)) := upd_same
    generalize upd H o (.lst ([p0].map V.int)) = H1 at f1 h1
    refine ⟨by show 1 ≤ sizeLine; decide, fun n nn => ?_⟩
    have f2 : Ex H1 (upd H1 n (.lst ([0].map V.int))) := Ex.new nn
    have h2 : (upd H1 n (.lst ([0].map V.int))) n = some (.lst ([0].map V.int)) := upd_same
    show tSl _ _ _ _ _ (upd H1 n (.lst ([0].map V.int))) _
    generalize upd H1 n (.lst ([0].map V.int)) = H2 at f2 h2
    refine ⟨_, rfl, 1, rfl, a, _, rfl, sq_of (f2 a _ (f1 a _ ha)), fun l nl => ?_⟩
    rw [c2]
    have f3 : Ex H2 (upd H2 l (.lst (r.map V.int))) := Ex.new nl
    have h3 : (upd H2 l (.lst (r.map V.int))) l = some (.lst (r.map V.int)) := upd_same
    generalize upd H2 l (.lst (r.map V.int)) = H3 at f3 h3
    refine ⟨by show 3 ≤ sizeLine; decide, fun t nt => ?_⟩
    have f4 := Ex.new (o := HO.tup [V.ref o, V.ref n, V.ref l]) nt
    refine ⟨t, _, rfl, st_of upd_same, rfl, .ref o, _, rfl, .ref n, _, rfl, .ref l, _, rfl, rfl, ?_⟩
    have few := Pl.few
    refine ⟨fun k σ H' => ∃ (o n l : Addr) (order numbers left : List Int) (v4 v5 : Option V), σ = [some (.ref a), some (.ref o), some (.ref n), some (.ref l), v4, v5, none, none] ∧ Ex H H' ∧ H n = none ∧
        H' o = some (.lst (order.map V.int)) ∧ H' n = some (.lst (numbers.map V.int)) ∧ H' l = some (.lst (left.map V.int)) ∧ Gk (p0 :: r) order numbers left k,
      ⟨r.length, o, n, l, [p0], [0], r, none, none, rfl, f1.trans (f2.trans (f3.trans f4)), fresh_back f1 nn, f4 o _ (f3 o _ (f2 o _ h1)), f4 n _ (f3 n _ h2), f4 l _ h3, ?_⟩, ?_⟩
    · have nd := List.nodup_cons.mp Pl.nd
      refine ⟨rfl, Nat.add_comm _ _, rfl, nd.2, fun p hp => List.mem_cons_of_mem _ hp, fun p hp => ?_, fun t ht p hp e => ?_, (good_start p0 r).symm⟩
      · rw [List.mem_singleton.mp hp]
        exact List.mem_cons_self
      · rw [List.mem_singleton.mp ht] at e
        exact nd.1 (e ▸ hp)
    · clear h1 h2 h3 f1 f2 f3 f4 no nn nl nt
      rintro k σ H' ⟨o, n, l, order, numbers, left, v4, v5, rfl, ex, fn, eo, en, el, G⟩
      refine ⟨_, rfl, Nat.zero_le _, fun e ne => ?_⟩
      refine rv_neInts (ys := []) (sq_of ((Ex.new ne) l _ el)) (sq_of upd_same) _ (Ex.refl _) _ fun H2 e2 => ⟨_, rfl, ?_⟩
      have x2 : Ex H' H2 := (Ex.new ne).trans e2
      have eo2 := x2 o _ eo
      have en2 := x2 n _ en
      have el2 := x2 l _ el
      have ex2 := ex.trans x2
      clear x2 e2 eo en el ex ne
      by_cases hz : left = []
      · rw [decide_eq_true hz]
        refine iteF ?_
        subst hz
        have hk : k = 0 := G.len.symm
        subst hk
        have hf : (order, numbers) = good (p0 :: r) := G.fin
        refine ⟨_, rfl, _, rfl, by show 2 ≤ sizeLine; decide, fun t2 nt2 => ?_⟩
        have y2 := Ex.new (o := HO.tup [V.ref o, V.ref n]) nt2
        refine q t2 o n _ (ex2.trans y2) (fresh_back ex2 nt2) fn upd_same ?_ ?_
        · rw [← hf]
          exact y2 o _ eo2
        · unfold nums
          rw [← hf]
          exact y2 n _ en2
      · rw [decide_eq_false hz]
        refine iteT ?_
        cases k with
        | zero => exact absurd (List.length_eq_zero_iff.mp G.len) hz
        | succ k =>
          obtain ⟨G2, hat⟩ := G.next
          have hcz : costs order left ≠ [] := costs_ne hz
          have hcl := costs_len order left
          have hol := G.olen
          have hll := G.len
          have hnl := G.nlen
          refine ⟨_, fun σ' H1 hN => ⟨k, Nat.lt_succ_self _, hN⟩, ?_⟩
          -- costs
          have hc := el_intsA (K := K) (H := H2) (σ := [some (.ref a), some (.ref o), some (.ref n), some (.ref l), v4, v5, none, none]) (t := tYes) (te := tCost K) (j := 7) (vs := [7]) (fun _ => true) (fun p => V.int (cost order p)) (ev_var (i := 3) rfl) (sq_of el2) (by omega) (fun _ => rfl)
            (fun p _ H1 _ => et_yes) (fun p hp _ H1 e1 => by
              have hi := el_intsA (K := K) (H := H1) (σ := [some (.ref a), some (.ref o), some (.ref n), some (.ref l), v4, v5, none, some (.int p)]) (t := tYes) (te := tCall spTwos [] E0 (tCons (tOp (rI0 fun i j => .int (i - j)) (tVar 7) (tVar 6)) tNil)) (j := 6) (vs := [6]) (fun _ => true) (fun t => V.int (tw (p - t))) (ev_var (i := 1) rfl) (sq_of (e1 o _ eo2)) (by omega) (fun _ => rfl)
                (fun t _ H3 _ => et_yes) (fun t ht _ H3 e3 => by
                  obtain ⟨z1, z2⟩ := dist_ok (Pl.lo _ (G.sub p hp)) (Pl.lo _ (G.osub t ht)) (G.ap t ht p hp)
                  exact ev_call (ea_cons (ev_op (ev_var rfl) (ev_var rfl) rv_I0) ea_nil) (fun H4 _ Q q _ => ⟨_, rfl, z1, z2, q⟩))
              rw [fil_true, show order.map (fun t => V.int (tw (p - t))) = (order.map fun t => tw (p - t)).map V.int by rw [List.map_map]; rfl] at hi
              exact ev_sumN hi)
          rw [fil_true, show left.map (fun p => V.int (cost order p)) = (costs order left).map V.int by unfold costs; rw [List.map_map]; rfl] at hc
          refine q_asgL hc fun c H3 nc e3 hc3 => ?_
          have eo3 := e3 o _ eo2
          have en3 := e3 n _ en2
          have el3 := e3 l _ el2
          have ex3 := ex2.trans e3
          clear hc
          -- at = costs.index(min(costs))
          refine ⟨_, rfl, .inl ⟨rfl, _, sq_of hc3⟩, _, rfl, c, _, rfl, sq_of hc3, List.length_pos_iff.mpr hcz, fun mm h1 h2 => ?_⟩
          obtain rfl : mm = minL (costs order left) := minL_unique h1 h2
          obtain ⟨i1, i2, i3⟩ := idx_ok hcz
          refine ⟨c, _, _, _, _, rfl, rfl, sq_of hc3, rfl, flat_ints _, i1, i2, i3, ?_⟩
          -- order, numbers, left = order + [left[at]], numbers + [costs[at]], left[:at] + left[at + 1:]
          refine ⟨_, rfl, _, rfl, _, rfl, l, _, _, _, rfl, rfl, sq_of el3, at_int hat rfl, by show 1 ≤ sizeLine; decide, fun u1 nu1 => ?_⟩
          have g1 : Ex H3 (upd H3 u1 (.lst [.int (left.getD (minAt (costs order left)) 0)])) := Ex.new nu1
          have k1 : (upd H3 u1 (.lst [.int (left.getD (minAt (costs order left)) 0)])) u1 = some (.lst [.int (left.getD (minAt (costs order left)) 0)]) := upd_same
          generalize (upd H3 u1 (.lst [.int (left.getD (minAt (costs order left)) 0)])) = J1 at g1 k1
          refine ⟨o, u1, _, _, rfl, rfl, g1 o _ eo3, k1, Nat.le_of_lt (few_line (by rw [List.length_map, List.length_singleton]; omega)), fun o2 no2 => ?_⟩
          rw [show (order.map V.int ++ [V.int (left.getD (minAt (costs order left)) 0)]) = (order ++ [left.getD (minAt (costs order left)) 0]).map V.int by rw [List.map_append]; rfl]
          have g2 : Ex J1 (upd J1 o2 (.lst ((order ++ [left.getD (minAt (costs order left)) 0]).map V.int))) := Ex.new no2
          have k2 : (upd J1 o2 (.lst ((order ++ [left.getD (minAt (costs order left)) 0]).map V.int))) o2 = some (.lst ((order ++ [left.getD (minAt (costs order left)) 0]).map V.int)) := upd_same
          generalize (upd J1 o2 (.lst ((order ++ [left.getD (minAt (costs order left)) 0]).map V.int))) = J2 at g2 k2
          have y2 := g1.trans g2
          refine ⟨_, rfl, _, rfl, _, rfl, c, _, _, _, rfl, rfl, sq_of (y2 c _ hc3), atI_nat i1, by show 1 ≤ sizeLine; decide, fun u2 nu2 => ?_⟩
          have g3 : Ex J2 (upd J2 u2 (.lst [.int (minL (costs order left))])) := Ex.new nu2
          have k3 : (upd J2 u2 (.lst [.int (minL (costs order left))])) u2 = some (.lst [.int (minL (costs order left))]) := upd_same
          generalize (upd J2 u2 (.lst [.int (minL (costs order left))])) = J3 at g3 k3
          have y3 := y2.trans g3
          refine ⟨n, u2, _, _, rfl, rfl, y3 n _ en3, k3, Nat.le_of_lt (few_line (by rw [List.length_map, List.length_singleton]; omega)), fun n2 nn2 => ?_⟩
          rw [show (numbers.map V.int ++ [V.int (minL (costs order left))]) = (numbers ++ [minL (costs order left)]).map V.int by rw [List.map_append]; rfl]
          have g4 : Ex J3 (upd J3 n2 (.lst ((numbers ++ [minL (costs order left)]).map V.int))) := Ex.new nn2
          have k4 : (upd J3 n2 (.lst ((numbers ++ [minL (costs order left)]).map V.int))) n2 = some (.lst ((numbers ++ [minL (costs order left)]).map V.int)) := upd_same
          generalize (upd J3 n2 (.lst ((numbers ++ [minL (costs order left)]).map V.int))) = J4 at g4 k4
          have y4 := y3.trans g4
          refine ⟨_, rfl, _, rfl, _, rfl, l, _, rfl, sq_of (y4 l _ el3), fun s1 ns1 => ?_⟩
          rw [cut_to]
          have g5 : Ex J4 (upd J4 s1 (.lst ((left.map V.int).take (minAt (costs order left))))) := Ex.new ns1
          have k5 : (upd J4 s1 (.lst ((left.map V.int).take (minAt (costs order left))))) s1 = some (.lst ((left.map V.int).take (minAt (costs order left)))) := upd_same
          generalize (upd J4 s1 (.lst ((left.map V.int).take (minAt (costs order left))))) = J5 at g5 k5
          have y5 := y4.trans g5
          refine ⟨_, rfl, _, rfl, _, _, rfl, rfl, _, rfl, l, _, rfl, sq_of (y5 l _ el3), fun s2 ns2 => ?_⟩
          have c3 : cutV (left.map V.int) (some ((minAt (costs order left) : Nat) + 1 : Int)) none = (left.map V.int).drop (minAt (costs order left) + 1) := cut_from _ (minAt (costs order left) + 1)
          rw [c3]
          have g6 : Ex J5 (upd J5 s2 (.lst ((left.map V.int).drop (minAt (costs order left) + 1)))) := Ex.new ns2
          have k6 : (upd J5 s2 (.lst ((left.map V.int).drop (minAt (costs order left) + 1)))) s2 = some (.lst ((left.map V.int).drop (minAt (costs order left) + 1))) := upd_same
          generalize (upd J5 s2 (.lst ((left.map V.int).drop (minAt (costs order left) + 1)))) = J6 at g6 k6
          have y6 := y5.trans g6
          refine ⟨s1, s2, _, _, rfl, rfl, g6 s1 _ k5, k6, Nat.le_of_lt (few_line (by rw [List.length_take, List.length_drop, List.length_map]; omega)), fun l2 nl2 => ?_⟩
          rw [← List.eraseIdx_eq_take_drop_succ, map_erase]
          have g7 : Ex J6 (upd J6 l2 (.lst ((left.eraseIdx (minAt (costs order left))).map V.int))) := Ex.new nl2
          have k7 : (upd J6 l2 (.lst ((left.eraseIdx (minAt (costs order left))).map V.int))) l2 = some (.lst ((left.eraseIdx (minAt (costs order left))).map V.int)) := upd_same
          generalize (upd J6 l2 (.lst ((left.eraseIdx (minAt (costs order left))).map V.int))) = J7 at g7 k7
          have y7 := y6.trans g7
          refine ⟨by show 3 ≤ sizeLine; decide, fun t2 nt2 => ?_⟩
          have g8 := Ex.new (o := HO.tup [V.ref o2, V.ref n2, V.ref l2]) nt2
          refine ⟨t2, _, rfl, st_of upd_same, rfl, .ref o2, _, rfl, .ref n2, _, rfl, .ref l2, _, rfl, rfl, ?_⟩
          exact ⟨o2, n2, l2, _, _, _, _, _, rfl, (ex3.trans y7).trans g8, fresh_back (ex3.trans y3) nn2, (g3.trans (g4.trans (g5.trans (g6.trans (g7.trans g8))))) o2 _ k2, (g5.trans (g6.trans (g7.trans g8))) n2 _ k4, g8 l2 _ k7, G2⟩
end
end K17
set_option maxHeartbeats 4000000
/-! What the body's parts evaluate to. -/
namespace K17
open PySem PySem.Spec PyProof.Rows L2 Evl
theorem Gen.ext {H H' : Hp} {g : Addr} {x y z : Int} (G : Gen H g x y z) (e : Ex H H') : Gen H' g x y z := ⟨e g _ G.at_, G.x0, G.y0, G.z0⟩
/-! ### plain facts -/
theorem le_last {ps : List Int} (h : ps.Pairwise (· < ·)) {p : Int} (hp : p ∈ ps) : p ≤ lastOf ps := by
  obtain ⟨i, hi, rfl⟩ := List.getElem_of_mem hp
  unfold lastOf
  rw [List.getD_eq_getElem?_getD, List.getElem?_eq_getElem (show ps.length - 1 < ps.length by omega)]
  show ps[i] ≤ ps[ps.length - 1]
  by_cases e : i = ps.length - 1
  · subst e; exact Int.le_refl _
  · exact Int.le_of_lt (List.pairwise_iff_getElem.mp h i (ps.length - 1) hi (by omega) (by omega))
theorem Pls.bits {v : Nat} {ps : List Int} (h : Pls v ps) : Pls (bitsOf (lastOf ps)) ps :=
  ⟨h.ne, h.asc, fun p hp => ⟨(h.lo p hp).1, Int.lt_of_le_of_lt (le_last h.asc hp) (lt_bitsOf _)⟩, h.few⟩
theorem reached_given (first : Nat) (ns : List Int) (many : Int) :
    given (65 - first) (fun i => decide (many ≤ pw ((first : Int) + (i : Int)) ns)) (fun i => V.int ((first : Int) + (i : Int))) = (reached first ns many).map V.int := by
  unfold given reached
  rw [List.filter_map, List.map_map]
  rfl
theorem powers_given (first : Nat) (ns : List Int) : given (65 - first) (fun _ => true) (fun i => V.int (pw ((first : Int) + (i : Int)) ns)) = (powers first ns).map V.int := by
  rw [given_all]
  unfold powers
  rw [List.map_map]
  rfl
theorem powers_len (first : Nat) (ns : List Int) : (powers first ns).length = 65 - first := by
  unfold powers
  rw [List.length_map, List.length_range]
theorem powers_get {first i : Nat} {ns : List Int} (h : i < 65 - first) : (powers first ns).getD i 0 = pw ((first : Int) + (i : Int)) ns := by
  rw [List.getD_eq_getElem?_getD]
  unfold powers
  simp [h]
theorem due_few {ps : List Int} {c : Nat} (few : ps.length ≤ 64) : ∀ n ∈ ((nums ps).take c).map (fun n => n + 1), n.natAbs < 2 ^ 64 := by
  intro n hn
  obtain ⟨k, hk, rfl⟩ := List.mem_map.mp hn
  have := nums_nn (List.mem_of_mem_take hk)
  have e2 : (2 : Nat) ^ 64 = 18446744073709551616 := by decide
  rw [e2]
  omega
/-- what the width is shown as -/
def dOpt : Option Int → PyData
  | none => .none
  | some x => .int x
theorem shw_opt {o : Option Int} (h : ∀ x, o = some x → x.natAbs < 2 ^ 64) : Shw (dOpt o) := by
  cases o with
  | none => exact shw_non
  | some x => exact shw_int (h x rfl)
theorem wfor_few {first : Nat} {ns : List Int} {many x : Int} (h : wfor first ns many = some x) : x.natAbs < 2 ^ 64 := by
  unfold wfor at h
  have hm := List.mem_of_find?_eq_some h
  obtain ⟨i, hi, rfl⟩ := List.mem_map.mp hm
  have := List.mem_range.mp hi
  have e2 : (2 : Nat) ^ 64 = 18446744073709551616 := by decide
  rw [e2]
  omega
section
variable {K : PySem.W.Frag} {σ : L2.St} {H : Hp} {ta tb tc te : TE} {t : TT} {D : Ends} {tz : TS}
theorem dp_opt {o : Option Int} : Dp K H (optV o) (dOpt o) := by
  cases o with
  | none => exact .non
  | some x => exact .int x
/-! ### good's numbers -/
theorem el_numsG {tr : TA} {a : Addr} {ps : List Int} (h : EvA tr σ H [.ref a]) (ha : H a = some (.lst (ps.map V.int))) (ne : ps ≠ []) (Pl : Plc ps) :
    EvL (tOp (rIxT K) (tCall spGood [] E0 tr) (tC (.int 1))) σ H ((nums ps).map V.int) := fun H1 e Q q => h H1 e _ fun H2 e2 =>
  ⟨a, ps, rfl, (e.trans e2) a _ ha, ne, Pl, fun t o n H3 e3 _ nn ht ho hn => ⟨t, _, 1, .ref n, rfl, rfl, st_of ht, atI_nat (j := 1) rfl, q n H3 (fresh_back e2 nn) (e2.trans e3) hn⟩⟩
/-! ### tests -/
theorem ev_isList {a : Addr} {xs : List V} (ha : Ev ta σ H (.ref a)) (h : H a = some (.lst xs)) : Ev (tCB (rIsi K) (tCons ta (tCons (tC (.ty "list")) tNil))) σ H (.bl true) := fun H1 e Q q =>
  ha H1 e _ fun H2 e2 => ⟨_, _, _, _, true, rfl, .ty _, .base (.lst ((e.trans e2) a _ h)), kit_ty (by decide +kernel), q H2 e2⟩
theorem ev_shown {v : V} {d : PyData} (ha : Ev ta σ H v) (h : ∀ H1, Ex H H1 → Dp K H1 v d) (s : Shw d) : Ev (tCB (rRepr K) (tCons ta tNil)) σ H (.str d.shown) := fun H1 e Q q =>
  ha H1 e _ fun H2 e2 => ⟨v, d, rfl, h H2 (e.trans e2), s, q H2 e2⟩
theorem ev_shownL {ns : List Int} (ha : EvL ta σ H (ns.map V.int)) (s : Shw (dInts ns)) : Ev (tCB (rRepr K) (tCons ta tNil)) σ H (.str (dInts ns).shown) := fun H1 e Q q =>
  ha H1 e _ fun p H2 _ e2 hp => ⟨.ref p, _, rfl, dp_ints (sq_of hp), s, q H2 e2⟩
theorem ev_chain {x y z : Int} {p1 p2 : Int → Int → Bool} (ha : Ev ta σ H (.int x)) (hb : Ev tb σ H (.int y)) (hc : Ev tc σ H (.int z)) :
    Ev (tChain (rI0 fun i j => .bl (p1 i j)) (rI0 fun i j => .bl (p2 i j)) ta tb tc) σ H (.bl (p1 x y && p2 y z)) := fun H1 e Q q =>
  ha H1 e _ fun H2 e2 => hb H2 (e.trans e2) _ fun H3 e3 => ⟨x, y, rfl, rfl, p1 x y, rfl, by
    cases hk : p1 x y with
    | true =>
      rw [hk] at q
      refine iteT (hc H3 ((e.trans e2).trans e3) _ fun H4 e4 => ⟨y, z, rfl, rfl, ?_⟩)
      exact q H4 ((e2.trans e3).trans e4)
    | false =>
      rw [hk] at q
      exact iteF (q H3 (e2.trans e3))⟩
/-- x != y, both ints, or both texts: the same -/
theorem et_neSame {v : V} (ha : Ev ta σ H v) (hb : Ev tb σ H v) (hs : scal v v = true) : EvT (tTest (tOp rNe ta tb)) σ H false := by
  have h := ev_op ha hb (rv_ne (H := H) hs)
  exact et_test (ev_is h (by rw [decide_eq_true rfl]; rfl))
theorem et_neInts {a b : Addr} {ns : List Int} (ha : Ev ta σ H (.ref a)) (hb : Ev tb σ H (.ref b)) (h1 : SqL K H a (ns.map V.int)) (h2 : SqL K H b (ns.map V.int)) : EvT (tTest (tOp (rNeD K) ta tb)) σ H false :=
  et_test (ev_is (ev_op ha hb (rv_neInts h1 h2)) (by rw [decide_eq_true rfl]; rfl))
/-- ns[0] if ns != [] else None -/
theorem ev_first {a : Addr} {ns : List Int} (ha : Ev ta σ H (.ref a)) (hs : SqL K H a (ns.map V.int)) : Ev (tIf (tTest (tOp (rNeD K) ta (tLst tNil))) (tOp (rIxL K) ta (tC (.int 0))) (tC .non)) σ H (optV ns.head?) := by
  have h := ev_opL (z := .bl (!decide (ns = []))) (xs := ([] : List Int).map V.int) ha el_nil fun p H1 h1 e1 => rv_neInts (K := K) (ys := []) (ex_l e1 hs) (sq_of h1)
  refine ev_if (et_test h) (fun hb => ?_) (fun hb => ?_)
  · cases ns with
    | nil => simp at hb
    | cons n r => exact ev_op ha ev_c (rv_ixL (K := K) hs (atI_nat (j := 0) rfl))
  · cases ns with
    | nil => exact ev_c
    | cons n r => simp at hb
/-! ### statements -/
theorem q_two {i j : Nat} {xs ys : List V} (h1 : EvL ta σ H xs) (h2 : EvL tb σ H ys)
    (k : ∀ p1 p2 H1, H p1 = none → H p2 = none → p1 ≠ p2 → Ex H H1 → H1 p1 = some (.lst xs) → H1 p2 = some (.lst ys) → tz D ((σ.set i (some (.ref p1))).set j (some (.ref p2))) H1) :
    tSeq (tAsg (tTup (tCons ta (tCons tb tNil))) (gTup K 2 (gCons (gName i) (gCons (gName j) gNil)))) tz D σ H :=
  h1 H (Ex.refl H) _ fun p1 H1 n1 e1 q1 => h2 H1 e1 _ fun p2 H2 n2 e2 q2 => ⟨by show 2 ≤ sizeLine; decide, fun t nt => by
    have e3 := Ex.new (o := HO.tup [V.ref p1, V.ref p2]) nt
    refine ⟨t, _, rfl, st_of upd_same, rfl, .ref p1, _, rfl, .ref p2, _, rfl, rfl, ?_⟩
    exact k p1 p2 _ n1 (fresh_back e1 n2) (ne_of_none q1 n2) ((e1.trans e2).trans e3) (e3 p1 _ (e2 p1 _ q1)) (e3 p2 _ q2)⟩
/-- a refusal that does not happen -/
theorem q_pass (h : EvT t σ H false) (k : ∀ H1, Ex H H1 → tz D σ H1) : tSeq (tIfS t tNever tNext) tz D σ H := q_when h (fun hb => by cases hb) (fun _ => k)
theorem s_pass (h : EvT t σ H false) (k : ∀ H1, Ex H H1 → D.nx σ H1) : tIfS t tNever tNext D σ H := s_when h (fun hb => by cases hb) (fun _ => k)
theorem q_whenN {u : TT} {b : Bool} (h : EvT t σ H b) (h1 : b = true → ∀ H1, Ex H H1 → EvT u σ H1 false) (k : ∀ H1, Ex H H1 → tz D σ H1) : tSeq (tIfS t (tIfS u tNever tNext) tNext) tz D σ H :=
  q_when h (fun hb H1 e1 => s_pass (h1 hb H1 e1) fun H2 e2 => k H2 (e1.trans e2)) (fun _ => k)
theorem s_whenN {u : TT} {te : TE} {b : Bool} {v : V} {i : Nat} (h : EvT t σ H b) (h1 : b = true → Ev te σ H v) (h2 : b = true → ∀ H1, Ex H H1 → EvT u (σ.set i (some v)) H1 false) (k1 : ∀ H1, Ex H H1 → D.nx (σ.set i (some v)) H1) (k2 : ∀ H1, Ex H H1 → D.nx σ H1) :
    tIfS t (tSeq (tAsg te (gName i)) (tIfS u tNever tNext)) tNext D σ H :=
  s_when h (fun hb H1 e1 => q_asg ((h1 hb).mono e1) fun H2 e2 => s_pass (h2 hb H2 (e1.trans e2)) fun H3 e3 => k1 H3 ((e1.trans e2).trans e3)) (fun _ => k2)
theorem two_abs (k : Nat) : ((2 : Int) ^ k).natAbs = 2 ^ k := by
  rw [Int.natAbs_pow]; rfl
theorem two_wide {j k : Nat} (hj : j ≤ 5000) (hk : k ≤ 5000) : CMulW ((2 : Int) ^ j) ((2 : Int) ^ k) :=
  wide_mul (a := j + 1) (b := k + 1) (by rw [two_abs]; exact Nat.pow_lt_pow_right (by decide) (Nat.lt_succ_self _)) (by rw [two_abs]; exact Nat.pow_lt_pow_right (by decide) (Nat.lt_succ_self _)) (Nat.succ_pos _) (Nat.succ_pos _) (by omega)
/-- how many items the law counts: due items within a width -/
theorem ev_within {a : Addr} {ns : List Int} {wd : Int} {tl te : TE} (h : Ev tl σ H (.ref a)) (ha : SqL K H a ((ns.map fun n => n + 1).map V.int)) (few : ns.length ≤ 1000) (hw : ∀ x, wipe ((wipe σ [13]).set 13 (some x)) [13] = wipe σ [13])
    (h1 : ∀ (n : Int) H1, Ex H H1 → Ev te ((wipe σ [13]).set 13 (some (.int n))) H1 (.int wd)) (h2 : ∀ n : Int, ((wipe σ [13]).set 13 (some (.int n)))[13]? = some (some (.int n))) :
    Ev (tCB (rLenS K) (tCons (tLc (iList K tl) (gName 13) (tTest (tOp (rI0 fun i j => .bl (decide (i ≤ j))) (tVar 13) te)) (tVar 13) [13]) tNil)) σ H (.int (counted wd ns)) := by
  have hc := el_intsA (K := K) (t := tTest (tOp (rI0 fun i j => .bl (decide (i ≤ j))) (tVar 13) te)) (te := tVar 13) (j := 13) (vs := [13]) (fun n => decide (n ≤ wd)) V.int h ha (by rw [List.length_map]; omega) hw
    (fun n _ H1 e1 => et_test (ev_op (ev_var (h2 n)) (h1 n H1 e1) rv_I0)) (fun n _ _ H1 _ => ev_var (h2 n))
  have := ev_lenN (K := K) hc
  rw [List.length_map, counted_due] at this
  exact this
/-- the powers -/
theorem el_powers {ta : TA} {te : TE} {first : Nat} {ns : List Int} (hf : first ≤ 64) (h : EvA ta σ H [.int (first : Int), .int 65]) (hw : ∀ x, wipe ((wipe σ [7]).set 7 (some x)) [7] = wipe σ [7])
    (he : ∀ (i : Nat) H1, Ex H H1 → i < 65 - first → Ev te ((wipe σ [7]).set 7 (some (.int ((first : Int) + (i : Int))))) H1 (.int (pw ((first : Int) + (i : Int)) ns))) :
    EvL (tLc (iRng2 ta) (gName 7) tYes te [7]) σ H ((powers first ns).map V.int) := by
  have q := el_lcR2 (t := tYes) (te := te) (j := 7) (vs := [7]) (fun _ => true) (fun i => V.int (pw ((first : Int) + (i : Int)) ns)) h (by omega) hw (fun i H1 _ _ => et_yes) (fun i H1 e hi _ => he i H1 e (by omega))
  rw [show ((65 : Int) - (first : Int)).toNat = 65 - first by omega, powers_given] at q
  exact q
/-- [first + at for at, have in enumerate(powers) if have >= power] -/
theorem el_reached {te : TE} {t : TT} {tl : TA} {a : Addr} {first : Nat} {ns : List Int} {power : Int} (h : EvA tl σ H [.ref a]) (ha : SqL K H a ((powers first ns).map V.int)) (hw : ∀ x y, wipe (((wipe σ [14, 15]).set 14 (some x)).set 15 (some y)) [14, 15] = wipe σ [14, 15])
    (ht : ∀ (i : Nat) H1, Ex H H1 → i < 65 - first → EvT t (((wipe σ [14, 15]).set 14 (some (.int (i : Int)))).set 15 (some (.int (pw ((first : Int) + (i : Int)) ns)))) H1 (decide (power ≤ pw ((first : Int) + (i : Int)) ns)))
    (he : ∀ (i : Nat) H1, Ex H H1 → i < 65 - first → Ev te (((wipe σ [14, 15]).set 14 (some (.int (i : Int)))).set 15 (some (.int (pw ((first : Int) + (i : Int)) ns)))) H1 (.int ((first : Int) + (i : Int)))) :
    EvL (tLc (iEnum K tl) (gTup K 2 (gCons (gName 14) (gCons (gName 15) gNil))) t te [14, 15]) σ H ((reached first ns power).map V.int) := by
  intro H0 e Q q
  refine h H0 e _ fun H1 e1 => ⟨a, _, rfl, ex_l (e.trans e1) ha, fun Dl hD => ?_⟩
  have hn : ((powers first ns).map V.int).length = 65 - first := by rw [List.length_map, powers_len]
  have hsq : SqL K H1 a ((powers first ns).map V.int) := ex_l (e.trans e1) ha
  have fact : ∀ i (x y : V), some (V.int ((i : Nat) : Int)) = some x → ((powers first ns).map V.int)[i]? = some y → x = .int (i : Int) ∧ y = .int (pw ((first : Int) + (i : Int)) ns) ∧ i < 65 - first := fun i x y hx hy => by
    obtain ⟨g1, g2⟩ := int_at hy
    rw [powers_len] at g2
    refine ⟨(Option.some.inj hx).symm, ?_, g2⟩
    rw [g1, powers_get g2]
  refine lc_pairs (K := K) (n := ((powers first ns).map V.int).length) (walk_enum (K := K) (a := a) (xs := (powers first ns).map V.int)) (fun i => decide (power ≤ pw ((first : Int) + (i : Int)) ns)) (fun i => V.int ((first : Int) + (i : Int))) hD (by rw [hn]; omega)
    (fun H' e' => ex_l e' hsq) hw (fun i x y H' e' hi hx hy => ?_) (fun i x y H' e' hi hx hy hf => ?_) (fun H2 e2 h2 => ?_)
  · obtain ⟨rfl, rfl, lt⟩ := fact i x y hx hy
    exact ht i H' ((e.trans e1).trans e') lt
  · obtain ⟨rfl, rfl, lt⟩ := fact i x y hx hy
    exact he i H' ((e.trans e1).trans e') lt
  · rw [hn, reached_given] at h2
    exact q Dl H2 (fresh_back e1 hD) (e1.trans e2) h2
end
end K17
set_option maxHeartbeats 4000000
/-! The law's body for one seed. -/
namespace K17
open PySem PySem.Spec PyProof.Rows L2 Evl
/-- the defs that the body calls -/
structure Cals (P : Program) (w : World) (K : PySem.W.Frag) (mg : Str → Option Value) (base : Heap) : Prop where
  places : Cal P w K mg base 3 "_law_places" ["_law_generator_here", "_law_width_there", "_law_most"] spPlaces
  random : Cal P w K mg base 2 "_law_random" ["_law_generator_here", "_law_bound"] spRandom
  bits : Cal P w K mg base 2 "_law_bits" ["_law_spots"] spBits
  good : Cal P w K mg base 2 "_law_good" ["_law_spots"] spGood
  two : Cal P w K mg base 1 "_law_two" ["_law_many"] spPow
  itemWidths : Cal P w K mg base 6 "item_widths" ["places", "count"] spItemWidths
  itemCount : Cal P w K mg base 7 "item_count" ["width", "places", "count"] spItemCount
  howMany : Cal P w K mg base 7 "how_many_codewords" ["width", "places", "count"] spHowMany
  widthFor : Cal P w K mg base 6 "width_for" ["places", "count", "many"] spWidthFor
abbrev nR : List Str := ["_law_generator_here", "_law_spots", "_law_many", "_law_first", "_law_due", "_law_handed", "_law_told", "_law_width_there", "_law_more", "_law_powers_there", "_law_power", "_law_reached", "_law_number", "_law_item", "_law_at", "_law_have"]
/-- the element of the powers: sum([max(w - item + 1, 0) for item in due]) -/
def rMax0 : List V → Hp → VK → Prop := fun xs H Q => ∃ i j, xs = [.int i, .int j] ∧ Q (.int (if j > i then j else i)) H
abbrev tPow (K : PySem.W.Frag) : TE := tCB (rSum K) (tCons (tLc (iList K (tVar 4)) (gName 13) tYes (tCB rMax0 (tCons (tOp (rI0 fun i j => .int (i + j)) (tOp (rI0 fun i j => .int (i - j)) (tVar 7) (tVar 13)) (tC (.int 1))) (tCons (tC (.int 0)) tNil))) [13]) tNil)
section
variable {P : Program} {w : World} {K : PySem.W.Frag} {mg : Str → Option Value} {base : Heap}
def spRight : Sp := fun vs H Q _ => ∃ (g : Addr) (x y z : Int), vs = [.ref g] ∧ Gen H g x y z ∧ z ≤ 10000 ∧ ∀ (H2 : Hp), ExB g H H2 → Q (.bl true) H2
theorem fn_right {f : Addr} {fd : FuncData} (F : Fun K "_law_right" "_law_right" dLRight f fd) (m : Free mg) (C : Cals P w K mg base) : FnG P w K mg base 8 f fd ["_law_generator_here"] spRight := by
  refine fnG_ok F scLRight (fun vs H Q E h => ?_) (fun cdv A outer s H vs Q hgu hr h => ?_)
  · obtain ⟨g, x, y, z, rfl, _⟩ := h
    rfl
  · obtain ⟨g, x, y, z, rfl, G, hz, q⟩ := h
    have hu := hr.units
    refine ⟨_, pss_cons (ps_set (i := 1) scLRight.nd rfl (.inl rfl) (C.places.call hr (pa_cons (pv 0) (pa_cons (pe_ix ix_list (pe_lst (pa_cons (pe_op op_add pe_int (C.random.call hr (pa_cons (pv 0) (pa_cons pe_int pa_nil))))
          (pa_cons (pe_op op_add pe_int (C.random.call hr (pa_cons (pv 0) (pa_cons pe_int pa_nil)))) pa_nil))) (C.random.call hr (pa_cons (pv 0) (pa_cons pe_int pa_nil))) (fun _ _ => rfl)) (pa_cons pe_int pa_nil)))))
      (pss_cons (ps_asg (pe_tup (pa_cons (C.random.call hr (pa_cons (pv 0) (pa_cons (pe_op op_add (pe_callB call_len_seq (by rfl) m.len PySem.boot_len (pa_cons (pv 1) pa_nil)) pe_int) pa_nil))) (pa_cons (C.bits.call hr (pa_cons (pv 1) pa_nil)) pa_nil)))
        (pg_tup rfl (pgs_cons (pg_name (i := 2) scLRight.nd rfl (.inl rfl)) (pgs_cons (pg_name (i := 3) scLRight.nd rfl (.inr rfl)) pgs_nil))))
      (pss_cons (ps_asg (pe_tup (pa_cons (pe_lc (own := [("_law_number", 12)]) (g := gName 12) rfl scLRight.nd (pi_list (pe_slice sl_list (pe_ix ix_tup (C.good.call hr (pa_cons (pv 1) pa_nil)) pe_int (fun _ _ => rfl)) po_none (po_some (pv 2))))
            (blkOk_by (own := [("_law_number", 12)]) (N := nR) (sc := defScope dLRight) (by decide +kernel)) (fun _ _ _ _ _ => pg_name (i := 12) scLRight.nd rfl (.inl rfl) (.inr rfl)) (fun _ _ _ _ _ => pts_nil) (fun _ _ _ _ _ => pe_op op_add (pv 12) pe_int))
          (pa_cons (pe_callTy call_list_of (by rfl) m.list boot_list (pa_cons (pv 1) pa_nil)) pa_nil)))
        (pg_tup rfl (pgs_cons (pg_name (i := 4) scLRight.nd rfl (.inr rfl)) (pgs_cons (pg_name (i := 5) scLRight.nd rfl (.inl rfl)) pgs_nil))))
      (pss_cons (ps_set (i := 6) scLRight.nd rfl (.inl rfl) (C.itemWidths.call hr (pa_cons (pv 5) (pa_cons (pv 2) pa_nil))))
      (pss_cons (ps_if (PW.pt (pw_or (pt_not (pt_val (pe_callB call_isi (by rfl) m.isinstance boot_isinstance (pa_cons (pv 6) (pa_cons (pe_bltn (v := .ty "list") (by rfl) m.list boot_list rfl) pa_nil)))))
            (pw_or (pt_cmpR op_ne (pe_callB (cr_repr hgu hu) (by rfl) m.repr boot_repr (pa_cons (pv 6) pa_nil)) (pe_callB (cr_repr hgu hu) (by rfl) m.repr boot_repr (pa_cons (pv 4) pa_nil)) (nomark _))
            (pw_or1 (pt_cmpR (op_neD hu) (pv 5) (pv 1) (nomark _)))))) pss_never pss_nil)
      (pss_cons (ps_for PassesOwn.never rfl (pi_list (pe_lst (pa_cons (pv 3) (pa_cons (pe_op op_add (pv 3) pe_int) (pa_cons (pe_op op_add (pv 3) (C.random.call hr (pa_cons (pv 0) (pa_cons (pe_op op_sub pe_int (pv 3)) pa_nil)))) (pa_cons pe_int pa_nil))))))
          (pg_name (i := 7) scLRight.nd rfl (.inr rfl))
        (pss_cons (ps_if (pt_chain op_le op_le (pv 3) (pv 7) pe_int)
          (pss_one (ps_if (pt_cmpR op_ne (C.itemCount.call hr (pa_cons (pv 7) (pa_cons (pv 1) (pa_cons (pv 2) pa_nil)))) (pe_callB call_len_seq (by rfl) m.len PySem.boot_len (pa_cons (pe_lc (own := [("_law_item", 13)]) (g := gName 13) rfl scLRight.nd (pi_list (pv 4))
            (blkOk_by (own := [("_law_item", 13)]) (N := nR) (sc := defScope dLRight) (by decide +kernel)) (fun _ _ _ _ _ => pg_name (i := 13) scLRight.nd rfl (.inl rfl) (.inr rfl)) (fun _ _ _ _ _ => pts_one (pt_cmpR op_le (pv 13) (pv 7) (nomark _))) (fun _ _ _ _ _ => pv 13)) pa_nil)) (nomark _)) pss_never pss_nil)) pss_nil)
        (pss_one (ps_if (pt_chain op_le op_lt (pv 3) (pv 7) pe_int)
          (pss_cons (ps_set (i := 8) scLRight.nd rfl (.inl rfl) (pe_callB call_len_seq (by rfl) m.len PySem.boot_len (pa_cons (pe_lc (own := [("_law_item", 13)]) (g := gName 13) rfl scLRight.nd (pi_list (pv 4))
            (blkOk_by (own := [("_law_item", 13)]) (N := nR) (sc := defScope dLRight) (by decide +kernel)) (fun _ _ _ _ _ => pg_name (i := 13) scLRight.nd rfl (.inl rfl) (.inr rfl)) (fun _ _ _ _ _ => pts_one (pt_cmpR op_le (pv 13) (pe_op op_add (pv 7) pe_int) (nomark _))) (fun _ _ _ _ _ => pv 13)) pa_nil)))
          (pss_one (ps_if (pt_cmpR op_ne (C.howMany.call hr (pa_cons (pe_op op_add (pv 7) pe_int) (pa_cons (pv 1) (pa_cons (pv 2) pa_nil)))) (pe_op op_mulW (C.howMany.call hr (pa_cons (pv 7) (pa_cons (pv 1) (pa_cons (pv 2) pa_nil)))) (C.two.call hr (pa_cons (pv 8) pa_nil))) (nomark _)) pss_never pss_nil))) pss_nil))))
      (pss_cons (ps_setLc (i := 9) (own := [("_law_width_there", 7)]) (g := gName 7) (te := tPow K) (by rfl) scLRight.nd rfl rfl (sw_true rfl rfl rfl (by decide +kernel)) (pi_range2 (by rfl) m.range (pa_cons (pv 3) (pa_cons pe_int pa_nil)))
          (blkOk_by (own := [("_law_width_there", 7)]) (N := nR) (sc := defScope dLRight) (by decide +kernel)) (fun _ _ _ _ _ => pg_name (i := 7) scLRight.nd rfl (.inr rfl) (.inl rfl)) (fun _ _ _ _ _ => pts_nil)
          (fun _ _ _ _ _ => pe_callB (cr_sum rfl) (by rfl) m.sum boot_sum (pa_cons (pe_lc (own := [("_law_item", 13)]) (g := gName 13) rfl scLRight.nd (pi_list (pv 4)) (blkOk_by (by rfl)) (fun _ _ _ _ _ => pg_name (i := 13) scLRight.nd rfl (.inl rfl) (.inr rfl)) (fun _ _ _ _ _ => pts_nil)
            (fun _ _ _ _ _ => pe_callB (r := rMax0) (call_max2 rfl) (by rfl) m.max boot_max (pa_cons (pe_op op_add (pe_op op_sub (pv 7) (pv 13)) pe_int) (pa_cons pe_int pa_nil)))) pa_nil)))
      (pss_cons (ps_for PassesOwn.never rfl (pi_list (pe_lst (pa_cons pe_int (pa_cons (pe_ix ix_list (pv 9) pe_int (fun _ _ => rfl)) (pa_cons (pe_op op_add (pe_ix ix_list (pv 9) pe_int (fun _ _ => rfl)) pe_int)
            (pa_cons (pe_ix ix_list (pv 9) (pe_op op_sub pe_int (pv 3)) (fun _ _ => rfl)) (pa_cons (pe_op op_add (pe_ix ix_list (pv 9) (pe_op op_sub pe_int (pv 3)) (fun _ _ => rfl)) pe_int)
            (pa_cons (C.random.call hr (pa_cons (pv 0) (pa_cons (pe_op op_add (pe_ix ix_list (pv 9) (pe_op op_sub pe_int (pv 3)) (fun _ _ => rfl)) pe_int) pa_nil))) pa_nil))))))))
          (pg_name (i := 10) scLRight.nd rfl (.inr rfl))
        (pss_cons (ps_setLc (i := 11) (own := [("_law_at", 14), ("_law_have", 15)]) (g := gTup K 2 (gCons (gName 14) (gCons (gName 15) gNil))) (by rfl) scLRight.nd rfl rfl (sw_true rfl rfl rfl (by decide +kernel)) (pi_enum (by rfl) m.enumerate (pa_cons (pv 9) pa_nil))
            (blkOk_by (own := [("_law_at", 14), ("_law_have", 15)]) (N := nR) (sc := defScope dLRight) (by decide +kernel)) (fun _ _ _ _ _ => pg_two (i := 14) (j := 15) rfl scLRight.nd rfl rfl rfl rfl)
            (fun _ _ _ _ _ => pts_one (pt_cmpR op_ge (pv 15) (pv 10) (nomark _))) (fun _ _ _ _ _ => pe_op op_add (pv 3) (pv 14)))
        (pss_one (ps_if (pt_cmpR op_ne (pe_callB (cr_repr hgu hu) (by rfl) m.repr boot_repr (pa_cons (C.widthFor.call hr (pa_cons (pv 5) (pa_cons (pv 2) (pa_cons (pv 10) pa_nil)))) pa_nil))
            (pe_callB (cr_repr hgu hu) (by rfl) m.repr boot_repr (pa_cons (pe_ifExp (pt_cmpR (op_neD hu) (pv 11) (pe_lst pa_nil) (nomark _)) (pe_ix ix_list (pv 11) pe_int (fun _ _ => rfl)) pe_non) pa_nil)) (nomark _)) pss_never pss_nil))))
      (pss_cons (ps_expr (pe_bm PySem.F.plainAttrs_list PySem.F.slot_list_append PySem.F.type_list_append mt_append (pv 6) (pa_cons pe_int pa_nil)))
      (pss_one (ps_ret (pe_cmpR op_eq (pe_callB (cr_repr hgu hu) (by rfl) m.repr boot_repr (pa_cons (C.itemWidths.call hr (pa_cons (pv 5) (pa_cons (pv 2) pa_nil))) pa_nil)) (pe_callB (cr_repr hgu hu) (by rfl) m.repr boot_repr (pa_cons (pv 4) pa_nil)) (nomark _)))))))))))), ?_⟩
    -- spots
    have e64 : (2 : Int) ^ 64 = 18446744073709551616 := by decide
    refine ⟨_, rfl, _, rfl, g, x, y, z, 10, rfl, G, by omega, by decide, by decide, fun r1 x1 z1 H1 r10 r11 hz1 b1 G1 => ⟨_, _, rfl, rfl, ?_⟩⟩
    refine ⟨_, rfl, g, x1, y, z1, 60, rfl, G1, by omega, by decide, by decide, fun r2 x2 z2 H2 r20 r21 hz2 b2 G2 => ⟨_, _, rfl, rfl, ?_⟩⟩
    refine ⟨by show 2 ≤ sizeLine; decide, fun l nl => ?_⟩
    have gl : g ≠ l := ne_of_none G2.at_ nl
    refine ⟨_, rfl, g, x2, y, z2, 2, rfl, G2.ext (Ex.new nl), by omega, by decide, by decide, fun r3 x3 z3 H3 r30 r31 hz3 b3 G3 => ?_⟩
    obtain ⟨v, hv, hat⟩ : ∃ v : Nat, v ≤ 60 ∧ atI [V.int (1 + r1), V.int (1 + r2)] r3 = some (V.int (v : Int)) := by
      by_cases e0 : r3 = 0
      · subst e0
        exact ⟨(1 + r1).toNat, by omega, by rw [show (((1 + r1).toNat : Nat) : Int) = 1 + r1 by omega]; exact atI_nat (j := 0) rfl⟩
      · have e1 : r3 = 1 := by omega
        subst e1
        exact ⟨(1 + r2).toNat, by omega, by rw [show (((1 + r2).toNat : Nat) : Int) = 1 + r2 by omega]; exact atI_nat (j := 1) rfl⟩
    refine ⟨l, _, r3, _, rfl, rfl, sq_of (b3 l _ gl.symm upd_same), hat, ?_⟩
    refine ⟨g, x3, y, z3, v, rfl, G3, by omega, hv, fun a ps x4 z4 H4 Pl few7 hz4 na b4 ha4 G4 => ?_⟩
    have b04 : ExB g H H4 := ((b1.trans b2).trans (ExB.of (Ex.new nl))).trans (b3.trans b4)
    have hga : g ≠ a := ne_of_none G3.at_ na
    clear hat nl gl G1 G2 G3 b1 b2 b3 b4 na
    -- many, first
    refine ⟨_, rfl, _, rfl, a, _, rfl, .inl (sq_of ha4), _, _, rfl, rfl, ?_⟩
    rw [List.length_map]
    refine ⟨g, x4, y, z4, _, rfl, G4, by omega, by omega, by omega, fun ci x5 z5 H5 ci0 ci1 hz5 b5 G5 => ?_⟩
    obtain ⟨c, rfl⟩ : ∃ c : Nat, ci = (c : Int) := ⟨ci.toNat, by omega⟩
    have ha5 := b5 a _ hga.symm ha4
    have b05 := b04.trans b5
    have Pb := Pl.bits
    have P64 := Pl.mono (w := 64) (by omega)
    refine ⟨_, rfl, a, ps, rfl, ha5, P64, fun H6 e6 => ?_⟩
    obtain ⟨F, hF⟩ : ∃ F, F = bitsOf (lastOf ps) := ⟨_, rfl⟩
    rw [← hF] at Pb ⊢
    have F1 : 1 ≤ F := by rw [hF]; exact bitsOf_pos _
    have F2 : F ≤ 60 := by
      rw [hF]
      refine Nat.le_trans (m := max 1 v) (bitsOf_le (Nat.le_max_left _ _) ?_) (by omega)
      exact Int.lt_of_lt_of_le (Pl.lo _ (last_mem Pl.ne)).2 (pow_le (Nat.le_max_right _ _))
    refine ⟨by show 2 ≤ sizeLine; decide, fun t nt => ?_⟩
    refine ⟨t, _, rfl, st_of upd_same, rfl, _, _, rfl, _, _, rfl, rfl, ?_⟩
    have e7 := e6.trans (Ex.new (o := HO.tup [V.int (c : Int), V.int (F : Int)]) nt)
    have ha7 := e7 a _ ha5
    have G7 := G5.ext e7
    have b07 := b05.ext e7
    generalize upd H6 t (HO.tup [V.int (c : Int), V.int (F : Int)]) = H7 at e7 ha7 G7 b07
    clear b04 b5 b05 ha5 G5 e6 e7 ha4 G4 nt
    -- due, handed
    have ns_few : ((nums ps).take c).length ≤ 64 := Nat.le_trans (List.length_take_le' _ _) (by rw [nums_len]; omega)
    have hn := el_numsG (K := K) (H := H7) (σ := [some (.ref g), some (.ref a), some (.int (c : Int)), some (.int (F : Int)), none, none, none, none, none, none, none, none, none, none, none, none]) (tr := tCons (tVar 1) tNil) (ea_cons (ev_var rfl) ea_nil) ha7 Pl.ne (P64.plc (Nat.le_refl _))
    have hs := el_slN (K := K) hn (eo_some (ev_var (v := .int (c : Int)) (i := 2) rfl))
    rw [cut_to, ← List.map_take] at hs
    have hc := el_ints (K := K) (t := tYes) (te := tOp (rI0 fun i j => .int (i + j)) (tVar 12) (tC (.int 1))) (j := 12) (vs := [12]) (fun _ => true) (fun n => V.int (n + 1)) hs (by omega) (fun _ => rfl)
      (fun n _ H1 _ => et_yes) (fun n _ _ H1 _ => ev_op (ev_var rfl) ev_c rv_I0)
    rw [fil_true, show ((nums ps).take c).map (fun n => V.int (n + 1)) = (((nums ps).take c).map fun n => n + 1).map V.int by rw [List.map_map]; rfl] at hc
    have sd := due_few (ps := ps) (c := c) (by omega)
    obtain ⟨ns, hns⟩ : ∃ ns, ns = (nums ps).take c := ⟨_, rfl⟩
    rw [← hns] at hc ns_few sd
    refine q_two (K := K) hc (el_list (K := K) (ev_var (i := 1) rfl) (sq_of ha7)) fun d hd H8 nd nhd hne e8 hd8 hh8 => ?_
    have ha8 := e8 a _ ha7
    have hdg : d ≠ g := (ne_of_none G7.at_ nd).symm
    have hhg : hd ≠ g := (ne_of_none G7.at_ nhd).symm
    have swid : ∀ H', H' hd = some (.lst (ps.map V.int)) → SpL spItemWidths [.ref hd, .int (c : Int)] H' ((ns.map fun n => n + 1).map V.int) := fun H' hh H1 e1 Q q E => ⟨hd, ps, c, rfl, e1 hd _ hh, P64, by rw [← hns]; exact q⟩
    -- told
    refine q_asgL (el_call (ea_cons (ev_var rfl) (ea_cons (ev_var rfl) ea_nil)) (swid H8 hh8)) fun tl H9 ntl e9 ht9 => ?_
    have ha9 := e9 a _ ha8
    have hd9 := e9 d _ hd8
    have hh9 := e9 hd _ hh8
    have G9 := (G7.ext e8).ext e9
    have b09 := (b07.ext e8).ext e9
    have ntl0 : H tl = none := by
      cases e : H tl with
      | none => rfl
      | some o =>
        have hg9 : tl ≠ g := (ne_of_none (G7.ext e8).at_ ntl).symm
        have := (b07.ext e8) tl o hg9 e
        rw [ntl] at this
        cases this
    have hga9 : tl ≠ a := (ne_of_none ha8 ntl).symm
    have htd : tl ≠ d := (ne_of_none hd8 ntl).symm
    have hth : tl ≠ hd := (ne_of_none hh8 ntl).symm
    have htg : tl ≠ g := (ne_of_none (G7.ext e8).at_ ntl).symm
    have shw := shw_ints sd (by rw [List.length_map]; omega)
    -- nothing is refused
    refine q_pass (et_is (et_or (et_not (et_B (ev_isList (K := K) (ev_var rfl) ht9))) fun _ => et_or (et_neSame (ev_shown (K := K) (ev_var rfl) (fun H1 e1 => dp_ints (sq_of (e1 tl _ ht9))) shw) (ev_shown (K := K) (ev_var rfl) (fun H1 e1 => dp_ints (sq_of (e1 d _ hd9))) shw) rfl)
      fun _ => et_neInts (K := K) (ev_var rfl) (ev_var rfl) (sq_of hh9) (sq_of ha9)) rfl) fun H10 e10 => ?_
    clear hc hs hn ha7 G7 b07 ha8 hd8 hh8 e8 nhd nd
    have ha10 := e10 a _ ha9
    have hd10 := e10 d _ hd9
    have hh10 := e10 hd _ hh9
    have ht10 := e10 tl _ ht9
    have G10 := G9.ext e10
    have b010 := b09.ext e10
    clear e10 ha9 hd9 hh9 ht9 G9 b09
    -- the widths
    refine ⟨_, rfl, _, rfl, _, _, rfl, rfl, _, rfl, _, rfl, _, rfl, _, _, rfl, rfl, g, x5, y, z5, _, rfl, G10, by omega, by omega, by omega, fun r x6 z6 H11 r0 r1' hz6 b11 G11 => ⟨_, _, rfl, rfl, by show 4 ≤ sizeLine; decide, fun lw nlw => ⟨lw, rfl, ⟨_, sq_of upd_same⟩, ?_⟩⟩⟩
    have f11 := Ex.new (o := HO.lst [V.int (F : Int), V.int ((F : Int) + 1), V.int ((F : Int) + r), V.int 64]) nlw
    have ha12 := f11 a _ (b11 a _ hga.symm ha10)
    have hd12 := f11 d _ (b11 d _ hdg hd10)
    have hh12 := f11 hd _ (b11 hd _ hhg hh10)
    have ht12 := f11 tl _ (b11 tl _ htg ht10)
    have G12 := G11.ext f11
    have b012 := (b010.trans b11).ext f11
    have hl12 : (upd H11 lw (HO.lst [V.int (F : Int), V.int ((F : Int) + 1), V.int ((F : Int) + r), V.int 64])) lw = some (HO.lst ([(F : Int), (F : Int) + 1, (F : Int) + r, 64].map V.int)) := upd_same
    generalize upd H11 lw (HO.lst [V.int (F : Int), V.int ((F : Int) + 1), V.int ((F : Int) + r), V.int 64]) = H12 at ha12 hd12 hh12 ht12 G12 b012 hl12 ⊢
    clear f11 G11 b11 nlw ha10 hd10 hh10 ht10 G10 b010
    refine for_list (K := K) (a := lw) (xs := ([(F : Int), (F : Int) + 1, (F : Int) + r, 64] : List Int).map V.int)
      (fun i σ H' => (∃ v7 v8, σ = [some (.ref g), some (.ref a), some (.int (c : Int)), some (.int (F : Int)), some (.ref d), some (.ref hd), some (.ref tl), v7, v8, none, none, none, none, none, none, none]) ∧ Ex H12 H')
      ⟨⟨none, none, rfl⟩, Ex.refl _⟩ (fun i σ H' _ p => sq_of (p.2 lw _ hl12)) (fun i xv σ H' hx p => ?_) (fun σ H' p => ?_)
    · obtain ⟨⟨v7, v8, rfl⟩, e13⟩ := p
      obtain ⟨rfl, _⟩ := int_at hx
      generalize ([(F : Int), (F : Int) + 1, (F : Int) + r, 64] : List Int).getD i 0 = wd
      have ha13 := e13 a _ ha12
      have hd13 := e13 d _ hd12
      refine q_whenN (et_test (ev_chain (p1 := fun i j => decide (i ≤ j)) (p2 := fun i j => decide (i ≤ j)) (ev_var rfl) (ev_var rfl) ev_c)) (fun hb H14 e14 => ?_) (fun H14 e14 => ?_)
      · obtain ⟨hb1, hb2⟩ := Bool.and_eq_true_iff.mp hb
        obtain ⟨wn, rfl⟩ : ∃ wn : Nat, wd = (wn : Int) := ⟨wd.toNat, by have := of_decide_eq_true hb1; omega⟩
        have h1 : F ≤ wn := by have := of_decide_eq_true hb1; omega
        have h2 : wn ≤ 64 := by have := of_decide_eq_true hb2; omega
        refine et_neSame (v := .int (counted (wn : Int) ns)) (ev_call (ea_cons (ev_var rfl) (ea_cons (ev_var rfl) (ea_cons (ev_var rfl) ea_nil))) (fun H15 e15 Q q _ => ⟨wn, a, ps, c, rfl, (e14.trans e15) a _ ha13, by omega, h2, Pb.mono h1, by rw [← hns]; exact q⟩))
          (ev_within (K := K) (ev_var rfl) (sq_of (e14 d _ hd13)) (by omega) (fun _ => rfl) (fun n H1 _ => ev_var rfl) (fun _ => rfl)) rfl
      · refine s_whenN (i := 8) (v := .int (counted (wd + 1) ns)) (et_test (ev_chain (p1 := fun i j => decide (i ≤ j)) (p2 := fun i j => decide (i < j)) (ev_var rfl) (ev_var rfl) ev_c)) (fun hb => ?_) (fun hb H15 e15 => ?_) (fun H15 e15 => ?_) (fun H15 e15 => ?_)
        · exact ev_within (K := K) (ev_var rfl) (sq_of (e14 d _ hd13)) (by omega) (fun _ => rfl) (fun n H1 _ => ev_op (ev_var rfl) ev_c rv_I0) (fun _ => rfl)
        · obtain ⟨hb1, hb2⟩ := Bool.and_eq_true_iff.mp hb
          obtain ⟨wn, rfl⟩ : ∃ wn : Nat, wd = (wn : Int) := ⟨wd.toNat, by have := of_decide_eq_true hb1; omega⟩
          have h1 : F ≤ wn := by have := of_decide_eq_true hb1; omega
          have h2 : wn < 64 := by have := of_decide_eq_true hb2; omega
          have ha15 := e15 a _ (e14 a _ ha13)
          have s1 := pw_small (v := wn) (ps := ps) (c := c) (by omega) (by omega)
          have s2 := counted_le ((wn : Int) + 1) ns
          refine et_neSame (v := .int (2 ^ (pw ((wn : Int) + 1) ns).toNat)) (ev_call (ea_cons (ev_op (ev_var rfl) ev_c rv_I0) (ea_cons (ev_var rfl) (ea_cons (ev_var rfl) ea_nil))) (fun H16 e16 Q q _ => ⟨wn + 1, a, ps, c, rfl, e16 a _ ha15, by omega, by omega, Pb.mono (by omega), by rw [← hns]; exact q⟩)) ?_ rfl
          have g1 := ev_op (r := rI CMulW fun i j => .int (i * j)) (σ := [some (.ref g), some (.ref a), some (.int (c : Int)), some (.int (F : Int)), some (.ref d), some (.ref hd), some (.ref tl), some (.int (wn : Int)), some (.int (counted ((wn : Int) + 1) ns)), none, none, none, none, none, none, none])
            (ev_call (sp := spHowMany) (dvs := []) (E := E0) (H := H15) (z := .int (2 ^ (pw (wn : Int) ns).toNat)) (ea_cons (ev_var (i := 7) rfl) (ea_cons (ev_var (i := 1) rfl) (ea_cons (ev_var (i := 2) rfl) ea_nil))) (fun H16 e16 Q q _ => ⟨wn, a, ps, c, rfl, e16 a _ ha15, by omega, by omega, Pb.mono h1, by rw [← hns]; exact q⟩))
            (ev_call (sp := spPow) (dvs := []) (E := E0) (H := H15) (z := .int (2 ^ ((counted ((wn : Int) + 1) ns : Nat) : Int).toNat)) (ea_cons (ev_var (i := 8) rfl) ea_nil) (fun H16 e16 Q q _ => ⟨_, rfl, by omega, by omega, q⟩))
            (rv_I (two_wide (by rw [hns]; omega) (by omega)))
          refine ev_is g1 ?_
          rw [Int.toNat_natCast, two_succ]
        · exact ⟨⟨_, _, rfl⟩, (e13.trans e14).trans e15⟩
        · exact ⟨⟨_, _, rfl⟩, (e13.trans e14).trans e15⟩
    · obtain ⟨⟨v7, v8, rfl⟩, e13⟩ := p
      have ha13 := e13 a _ ha12
      have hd13 := e13 d _ hd12
      have hh13 := e13 hd _ hh12
      have ht13 := e13 tl _ ht12
      have G13 := G12.ext e13
      have b013 := b012.ext e13
      clear ha12 hd12 hh12 ht12 G12 b012 e13 hl12
      -- powers_there
      refine q_asgL (el_powers (ns := ns) (by omega) (ea_cons (ev_var rfl) (ea_cons ev_c ea_nil)) (fun _ => rfl) (fun i H14 e14 hi => ?_)) fun pp H14 npp e14 hpp => ?_
      · have hi2 := el_intsA (K := K) (H := H14) (t := tYes) (te := tCB rMax0 (tCons (tOp (rI0 fun i j => .int (i + j)) (tOp (rI0 fun i j => .int (i - j)) (tVar 7) (tVar 13)) (tC (.int 1))) (tCons (tC (.int 0)) tNil))) (j := 13) (vs := [13]) (tl := tVar 4)
          (σ := [some (.ref g), some (.ref a), some (.int (c : Int)), some (.int (F : Int)), some (.ref d), some (.ref hd), some (.ref tl), some (.int ((F : Int) + (i : Int))), v8, none, none, none, none, none, none, none])
          (fun _ => true) (fun n => V.int (if 0 > (F : Int) + (i : Int) - n + 1 then 0 else (F : Int) + (i : Int) - n + 1)) (ev_var rfl) (sq_of (e14 d _ hd13)) (by rw [List.length_map]; omega) (fun _ => rfl)
          (fun n _ H1 _ => et_yes) (fun n _ _ H1 _ => ev_cb (ea_cons (ev_op (ev_op (ev_var rfl) (ev_var rfl) rv_I0) ev_c rv_I0) (ea_cons ev_c ea_nil)) (fun H2 _ Q q => ⟨_, _, rfl, q H2 (Ex.refl _)⟩))
        rw [fil_true, show ∀ l : List Int, l.map (fun n => V.int (if 0 > (F : Int) + (i : Int) - n + 1 then 0 else (F : Int) + (i : Int) - n + 1)) = (l.map fun n => if 0 > (F : Int) + (i : Int) - n + 1 then 0 else (F : Int) + (i : Int) - n + 1).map V.int from fun l => by rw [List.map_map]; rfl] at hi2
        exact ev_is (ev_sumN hi2) (by rw [pw_due])
      · have ha14 := e14 a _ ha13
        have hd14 := e14 d _ hd13
        have hh14 := e14 hd _ hh13
        have ht14 := e14 tl _ ht13
        have hpg : pp ≠ g := (ne_of_none G13.at_ npp).symm
        have G14 := G13.ext e14
        have b014 := b013.ext e14
        clear ha13 hd13 hh13 ht13 G13 b013 e14 npp
        have plen := powers_len F ns
        have p0 : (powers F ns).getD 0 0 = pw ((F : Int) + ((0 : Nat) : Int)) ns := powers_get (by omega)
        have pl : (powers F ns).getD (64 - F) 0 = pw ((F : Int) + ((64 - F : Nat) : Int)) ns := powers_get (by omega)
        have p0n := pw_nonneg ((F : Int) + ((0 : Nat) : Int)) ns
        have pln := pw_nonneg ((F : Int) + ((64 - F : Nat) : Int)) ns
        have pls : pw ((F : Int) + ((64 - F : Nat) : Int)) ns ≤ 4096 := by
          have := pw_small (v := 64) (ps := ps) (c := c) (by omega) (by omega)
          rw [← hns] at this
          rw [show (F : Int) + ((64 - F : Nat) : Int) = ((64 : Nat) : Int) by omega]
          exact this
        rw [← p0] at p0n
        rw [← pl] at pln pls
        -- the numbers of bits
        have i0 : atI ((powers F ns).map V.int) 0 = some (V.int ((powers F ns).getD 0 0)) := at_int (i := 0) (by omega) rfl
        have i6 : atI ((powers F ns).map V.int) (64 - (F : Int)) = some (V.int ((powers F ns).getD (64 - F) 0)) := at_int (i := 64 - F) (by omega) (by omega)
        generalize (powers F ns).getD 0 0 = q0 at p0n i0 p0
        generalize (powers F ns).getD (64 - F) 0 = q6 at pln pls i6 pl
        refine ⟨_, rfl, pp, _, 0, _, rfl, rfl, sq_of hpp, i0, _, rfl, pp, _, 0, _, rfl, rfl, sq_of hpp, i0, _, _, rfl, rfl, ?_⟩
        refine ⟨_, rfl, _, rfl, _, _, rfl, rfl, pp, _, _, _, rfl, rfl, sq_of hpp, i6, _, rfl, _, rfl, _, _, rfl, rfl, pp, _, _, _, rfl, rfl, sq_of hpp, i6, _, _, rfl, rfl, ?_⟩
        refine ⟨_, rfl, _, rfl, _, rfl, _, _, rfl, rfl, pp, _, _, _, rfl, rfl, sq_of hpp, i6, _, _, rfl, rfl, ?_⟩
        refine ⟨g, x6, y, z6, q6 + 1, rfl, G14, by omega, by omega, by omega, fun r x7 z7 H15 r0 r1'' hz7 b15 G15 => ⟨by show 6 ≤ sizeLine; decide, fun lw nlw => ⟨lw, rfl, ⟨_, sq_of upd_same⟩, ?_⟩⟩⟩
        have f15 := Ex.new (o := HO.lst [V.int 0, V.int q0, V.int (q0 + 1), V.int q6, V.int (q6 + 1), V.int r]) nlw
        have hd16 := f15 d _ (b15 d _ hdg hd14)
        have hh16 := f15 hd _ (b15 hd _ hhg hh14)
        have ht16 := f15 tl _ (b15 tl _ htg ht14)
        have hp16 := f15 pp _ (b15 pp _ hpg hpp)
        have b016 := (b014.trans b15).ext f15
        have hl16 : (upd H15 lw (HO.lst [V.int 0, V.int q0, V.int (q0 + 1), V.int q6, V.int (q6 + 1), V.int r])) lw = some (HO.lst (([0, q0, q0 + 1, q6, q6 + 1, r] : List Int).map V.int)) := upd_same
        generalize upd H15 lw (HO.lst [V.int 0, V.int q0, V.int (q0 + 1), V.int q6, V.int (q6 + 1), V.int r]) = H16 at hd16 hh16 ht16 hp16 b016 hl16 ⊢
        clear f15 G15 b15 nlw ha14 hd14 hh14 ht14 G14 b014 hpp i0 i6
        have nn6 : ∀ u ∈ ([0, q0, q0 + 1, q6, q6 + 1, r] : List Int), 0 ≤ u := by
          intro u hu
          simp only [List.mem_cons, List.not_mem_nil, or_false] at hu
          omega
        refine for_list (K := K) (a := lw) (xs := ([0, q0, q0 + 1, q6, q6 + 1, r] : List Int).map V.int)
          (fun i σ H' => (∃ v10 v11, σ = [some (.ref g), some (.ref a), some (.int (c : Int)), some (.int (F : Int)), some (.ref d), some (.ref hd), some (.ref tl), v7, v8, some (.ref pp), v10, v11, none, none, none, none]) ∧ Ex H16 H')
          ⟨⟨none, none, rfl⟩, Ex.refl _⟩ (fun i σ H' _ p => sq_of (p.2 lw _ hl16)) (fun i xv σ H' hx p => ?_) (fun σ H' p => ?_)
        · obtain ⟨⟨v10, v11, rfl⟩, e17⟩ := p
          obtain ⟨rfl, hi⟩ := int_at hx
          have npw := nn6 _ (getD_mem hi)
          generalize ([0, q0, q0 + 1, q6, q6 + 1, r] : List Int).getD i 0 = pwr at npw
          have hh17 := e17 hd _ hh16
          refine q_asgL (el_reached (K := K) (first := F) (ns := ns) (power := pwr) (ea_cons (ev_var rfl) ea_nil) (sq_of (e17 pp _ hp16)) (fun _ _ => rfl) (fun i H18 _ _ => et_test (ev_op (ev_var rfl) (ev_var rfl) rv_I0)) (fun i H18 _ _ => ev_op (ev_var rfl) (ev_var rfl) rv_I0)) fun rc H18 nrc e18 hrc => ?_
          refine s_pass (et_neSame (v := .str (dOpt (wfor F ns pwr)).shown) (ev_shown (K := K) (ev_call (sp := spWidthFor) (dvs := []) (E := E0) (z := optV (wfor F ns pwr)) (ea_cons (ev_var rfl) (ea_cons (ev_var rfl) (ea_cons (ev_var rfl) ea_nil))) (fun H19 e19 Q q _ => ⟨hd, ps, c, pwr, rfl, e19 hd _ (e18 hd _ hh17), P64, npw, by rw [← hF, ← hns]; exact q⟩)) (fun _ _ => dp_opt) (shw_opt fun x hx => wfor_few hx))
            (ev_shown (K := K) ?_ (fun _ _ => dp_opt) (shw_opt fun x hx => wfor_few hx)) rfl) fun H19 e19 => ⟨⟨_, _, rfl⟩, (e17.trans e18).trans e19⟩
          rw [← reached_head]
          exact ev_first (K := K) (ev_var rfl) (sq_of hrc)
        · obtain ⟨⟨v10, v11, rfl⟩, e17⟩ := p
          -- told.append(7), and once more
          refine q_app (K := K) (e17 tl _ ht16) (ev_var rfl) ev_c (by rw [List.length_map, List.length_map]; omega) fun H18 e18 => ?_
          have hh18 : (upd H18 tl (HO.lst ((ns.map fun n => n + 1).map V.int ++ [V.int 7]))) hd = some (.lst (ps.map V.int)) := by
            rw [upd_ne hth.symm]
            exact e18 hd _ (e17 hd _ hh16)
          have hd18 : (upd H18 tl (HO.lst ((ns.map fun n => n + 1).map V.int ++ [V.int 7]))) d = some (.lst ((ns.map fun n => n + 1).map V.int)) := by
            rw [upd_ne htd.symm]
            exact e18 d _ (e17 d _ hd16)
          have b18 : ExB g H (upd H18 tl (HO.lst ((ns.map fun n => n + 1).map V.int ++ [V.int 7]))) := fun b o nb hb => by
            rw [upd_ne (ne_of_none hb ntl0)]
            exact ((b016.ext e17).ext e18) b o nb hb
          generalize upd H18 tl (HO.lst ((ns.map fun n => n + 1).map V.int ++ [V.int 7])) = H19 at hh18 hd18 b18 ⊢
          have fin : Ev (tOp rEq (tCB (rRepr K) (tCons (tCall spItemWidths [] E0 (tCons (tVar 5) (tCons (tVar 2) tNil))) tNil)) (tCB (rRepr K) (tCons (tVar 4) tNil))) [some (.ref g), some (.ref a), some (.int (c : Int)), some (.int (F : Int)), some (.ref d), some (.ref hd), some (.ref tl), v7, v8, some (.ref pp), v10, v11, none, none, none, none] H19 (.bl true) :=
            ev_is (ev_op (ev_shownL (K := K) (el_call (ea_cons (ev_var rfl) (ea_cons (ev_var rfl) ea_nil)) (swid H19 hh18)) shw) (ev_shown (K := K) (ev_var rfl) (fun H1 e1 => dp_ints (sq_of (e1 d _ hd18))) shw) (rv_eq rfl)) (by rw [decide_eq_true rfl])
          exact fin H19 (Ex.refl _) _ fun H20 e20 => q H20 (b18.ext e20)
end
end K17
set_option maxHeartbeats 4000000
/-! The law. -/
namespace K17
open PySem PySem.Spec PyProof.Rows L2 Evl
/-! ### what the written calls come to -/
theorem pls_by {ps : List Int} (h1 : ps ≠ []) (h2 : ps.Pairwise (· < ·)) (h3 : ∀ p ∈ ps, 0 ≤ p ∧ p < 2 ^ 64) (h4 : ps.length ≤ 64) : Pls 64 ps := ⟨h1, h2, h3, h4⟩
theorem take_far {ps : List Int} {c : Nat} (h : ps.length ≤ c) : (nums ps).take c = nums ps := List.take_of_length_le (by rw [nums_len]; exact h)
theorem p0 : Pls 64 [0] := pls_by (by decide) (by decide) (by decide) (by decide)
theorem p01 : Pls 64 [0, 1] := pls_by (by decide) (by decide) (by decide) (by decide)
theorem p4 : Pls 64 [0, 1, 2, 3] := pls_by (by decide) (by decide) (by decide) (by decide)
theorem p63 : Pls 64 [0, 2 ^ 63] := pls_by (by decide) (by decide) (by decide) (by decide)
theorem w1 : wfor (bitsOf (lastOf [0, 1])) ((nums [0, 1]).take 2) (10 ^ 29) = none := by decide +kernel
theorem w2 : wfor (bitsOf (lastOf [0, 1])) ((nums [0, 1]).take (10 ^ 29)) 5 = some 3 := by rw [take_far (by decide)]; decide +kernel
theorem w3 : ((nums [0, 1, 2, 3]).take (10 ^ 29)).map (fun n => n + 1) = [1, 1, 2, 2] := by rw [take_far (by decide)]; decide +kernel
theorem w4 : wfor (bitsOf (lastOf [0, 1, 2, 3])) ((nums [0, 1, 2, 3]).take (10 ^ 29)) 10 = some 3 := by rw [take_far (by decide)]; decide +kernel
theorem w5 : ((nums [0, 1, 2, 3]).take 4).map (fun n => n + 1) = [1, 1, 2, 2] := by decide +kernel
theorem w6 : wfor (bitsOf (lastOf [0, 1, 2, 3])) ((nums [0, 1, 2, 3]).take 4) 10 = some 3 := by decide +kernel
theorem w7 : wfor (bitsOf (lastOf [0])) ((nums [0]).take 0) 1 = none := by decide +kernel
theorem w8 : wfor (bitsOf (lastOf [0])) ((nums [0]).take 0) 0 = some 1 := by decide +kernel
theorem w9 : wfor (bitsOf (lastOf [0])) ((nums [0]).take 1) 65 = none := by decide +kernel
theorem w10 : wfor (bitsOf (lastOf [0])) ((nums [0]).take 9) 64 = some 64 := by decide +kernel
theorem w11 : ((nums [0, 2 ^ 63]).take 9).map (fun n => n + 1) = [1, 64] := by decide +kernel
theorem far : (10 : Int) ^ (29 : Int).toNat = ((10 ^ 29 : Nat) : Int) := by decide +kernel
section
variable {K : PySem.W.Frag} {σ : L2.St} {H : Hp} {tl tc tm : TE} {ps : List Int} {c : Nat} {mn : Int} {o : Option Int} {a : Addr} {ds : List Int}
theorem ev_wfL (hl : EvL tl σ H (ps.map V.int)) (hc : Ev tc σ H (.int (c : Int))) (hm : Ev tm σ H (.int mn)) (Pl : Pls 64 ps) (h0 : 0 ≤ mn) (ho : wfor (bitsOf (lastOf ps)) ((nums ps).take c) mn = o) :
    Ev (tCall spWidthFor [] E0 (tCons tl (tCons tc (tCons tm tNil)))) σ H (optV o) := fun H1 e Q q =>
  hl H1 e _ fun p H2 _ e2 hp => hc H2 (e.trans e2) _ fun H3 e3 => hm H3 ((e.trans e2).trans e3) _ fun H4 e4 => ⟨p, ps, c, mn, rfl, (e3.trans e4) p _ hp, Pl, h0, by rw [ho]; exact fun H5 e5 => q H5 (((e2.trans e3).trans e4).trans e5)⟩
theorem ev_wfA (hl : Ev tl σ H (.ref a)) (ha : H a = some (.lst (ps.map V.int))) (hc : Ev tc σ H (.int (c : Int))) (hm : Ev tm σ H (.int mn)) (Pl : Pls 64 ps) (h0 : 0 ≤ mn) (ho : wfor (bitsOf (lastOf ps)) ((nums ps).take c) mn = o) :
    Ev (tCall spWidthFor [] E0 (tCons tl (tCons tc (tCons tm tNil)))) σ H (optV o) := fun H1 e Q q =>
  hl H1 e _ fun H2 e2 => hc H2 (e.trans e2) _ fun H3 e3 => hm H3 ((e.trans e2).trans e3) _ fun H4 e4 => ⟨a, ps, c, mn, rfl, (((e.trans e2).trans e3).trans e4) a _ ha, Pl, h0, by rw [ho]; exact fun H5 e5 => q H5 (((e2.trans e3).trans e4).trans e5)⟩
theorem el_iwL (hl : EvL tl σ H (ps.map V.int)) (hc : Ev tc σ H (.int (c : Int))) (Pl : Pls 64 ps) (ho : ((nums ps).take c).map (fun n => n + 1) = ds) :
    EvL (tCall spItemWidths [] E0 (tCons tl (tCons tc tNil))) σ H (ds.map V.int) := fun H1 e Q q =>
  hl H1 e _ fun p H2 _ e2 hp => hc H2 (e.trans e2) _ fun H3 e3 => ⟨p, ps, c, rfl, e3 p _ hp, Pl, by rw [ho]; exact fun u H4 nu e4 hu => q u H4 (fresh_back (e2.trans e3) nu) ((e2.trans e3).trans e4) hu⟩
theorem el_iwA (hl : Ev tl σ H (.ref a)) (ha : H a = some (.lst (ps.map V.int))) (hc : Ev tc σ H (.int (c : Int))) (Pl : Pls 64 ps) (ho : ((nums ps).take c).map (fun n => n + 1) = ds) :
    EvL (tCall spItemWidths [] E0 (tCons tl (tCons tc tNil))) σ H (ds.map V.int) := fun H1 e Q q =>
  hl H1 e _ fun H2 e2 => hc H2 (e.trans e2) _ fun H3 e3 => ⟨a, ps, c, rfl, ((e.trans e2).trans e3) a _ ha, Pl, by rw [ho]; exact fun u H4 nu e4 hu => q u H4 (fresh_back (e2.trans e3) nu) ((e2.trans e3).trans e4) hu⟩
/-- written ints -/
theorem el_w1 (x : Int) : EvL (tLst (tCons (tC (.int x)) tNil)) σ H ([x].map V.int) := el_lst (ea_cons ev_c ea_nil) (by show 1 ≤ 100000; decide)
theorem el_w2 (x y : Int) : EvL (tLst (tCons (tC (.int x)) (tCons (tC (.int y)) tNil))) σ H ([x, y].map V.int) := el_lst (ea_cons ev_c (ea_cons ev_c ea_nil)) (by show 2 ≤ 100000; decide)
theorem el_w4 (x y z u : Int) : EvL (tLst (tCons (tC (.int x)) (tCons (tC (.int y)) (tCons (tC (.int z)) (tCons (tC (.int u)) tNil))))) σ H ([x, y, z, u].map V.int) := el_lst (ea_cons ev_c (ea_cons ev_c (ea_cons ev_c (ea_cons ev_c ea_nil)))) (by show 4 ≤ 100000; decide)
end
/-! ### data told -/
section
variable {K : PySem.W.Frag} {σ : L2.St} {H H' : Hp} {ta tb te : TE} {tr : TA} {d e : PyData} {ds : List PyData}
mutual
theorem dp_ex (b : Ex H H') : ∀ (d : PyData) (v : V), Dp K H v d → Dp K H' v d
  | .none, _, h => by cases h; exact .non
  | .bool x, _, h => by cases h; exact .bl x
  | .int i, _, h => by cases h; exact .int i
  | .str x, _, h => by cases h; exact .str x
  | .list ds, _, h => by
    cases h with
    | lst hs ha => exact .lst (ex_l b hs) (dps_ex b ds _ ha)
  | .tuple ds, _, h => by
    cases h with
    | tup hs ha => exact .tup (ex_t b hs) (dps_ex b ds _ ha)
  | .dict _, _, h => by cases h
theorem dps_ex (b : Ex H H') : ∀ (ds : List PyData) (vs : List V), DpAll K H vs ds → DpAll K H' vs ds
  | [], _, h => by cases h; exact .nil
  | d :: ds, _, h => by
    cases h with
    | cons h1 h2 => exact .cons (dp_ex b d _ h1) (dps_ex b ds _ h2)
end
theorem dps_len : ∀ {ds : List PyData} {vs : List V}, DpAll K H vs ds → vs.length = ds.length
  | [], _, h => by cases h; rfl
  | d :: ds, _, h => by
    cases h with
    | cons h1 h2 => exact congrArg Nat.succ (dps_len h2)
variable (K) in
def EvD (te : TE) (σ : L2.St) (H : Hp) (d : PyData) : Prop := ∀ H1, Ex H H1 → ∀ Q : VK, (∀ v H2, Ex H1 H2 → Dp K H2 v d → Q v H2) → te σ H1 Q
variable (K) in
def EvDs (tr : TA) (σ : L2.St) (H : Hp) (ds : List PyData) : Prop := ∀ H1, Ex H H1 → ∀ Q : List V → Hp → Prop, (∀ vs H2, Ex H1 H2 → DpAll K H2 vs ds → Q vs H2) → tr σ H1 Q
theorem ed_v {v : V} (h : Ev te σ H v) (hd : ∀ H1, Dp K H1 v d) : EvD K te σ H d := fun H1 b Q q => h H1 b Q fun H2 b2 => q v H2 b2 (hd H2)
theorem ed_r {a : Addr} (h : Ev te σ H (.ref a)) (hd : Dp K H (.ref a) d) : EvD K te σ H d := fun H1 b Q q => h H1 b Q fun H2 b2 => q _ H2 b2 (dp_ex (b.trans b2) d _ hd)
theorem ed_i {i : Int} (h : Ev te σ H (.int i)) : EvD K te σ H (.int i) := ed_v h fun _ => .int i
theorem ed_c {i : Int} : EvD K (tC (.int i)) σ H (.int i) := ed_i ev_c
theorem ed_n : EvD K (tC .non) σ H .none := ed_v ev_c fun _ => .non
theorem ed_o {o : Option Int} (h : Ev te σ H (optV o)) : EvD K te σ H (dOpt o) := ed_v h fun _ => dp_opt
theorem ed_L {ns : List Int} (h : EvL te σ H (ns.map V.int)) : EvD K te σ H (dInts ns) := fun H1 b Q q => h H1 b Q fun p H2 _ b2 hp => q _ H2 b2 (dp_ints (sq_of hp))
theorem eds_nil : EvDs K tNil σ H [] := fun H1 _ _ q => q [] H1 (Ex.refl H1) .nil
theorem eds_cons (h : EvD K te σ H d) (hr : EvDs K tr σ H ds) : EvDs K (tCons te tr) σ H (d :: ds) := fun H1 b _ q =>
  h H1 b _ fun v H2 b2 hv => hr H2 (b.trans b2) _ fun vs H3 b3 hvs => q _ H3 (b2.trans b3) (.cons (dp_ex b3 d v hv) hvs)
theorem ed_lst (h : EvDs K tr σ H ds) (hl : ds.length ≤ 100000) : EvD K (tLst tr) σ H (.list ds) := fun H1 b _ q =>
  h H1 b _ fun vs H2 b2 hvs => ⟨sz_of (by rw [dps_len hvs]; exact hl), fun p hp => q _ _ (b2.trans (Ex.new hp)) (.lst (sq_of upd_same) (dps_ex (Ex.new hp) ds _ hvs))⟩
theorem ev_eqD (ha : EvD K ta σ H d) (hb : EvD K tb σ H e) (sd : SeqAt.shaped d = true) (se : SeqAt.shaped e = true) : Ev (tOp (rEqD K) ta tb) σ H (.bl (PyData.eqv d e)) := fun H1 b _ q =>
  ha H1 b _ fun x H2 b2 hx => hb H2 (b.trans b2) _ fun y H3 b3 hy => ⟨d, e, dp_ex b3 d x hx, hy, sd, se, q H3 (b2.trans b3)⟩
theorem ev_neD (ha : EvD K ta σ H d) (hb : EvD K tb σ H e) (sd : SeqAt.shaped d = true) (se : SeqAt.shaped e = true) : Ev (tOp (rNeD K) ta tb) σ H (.bl (!PyData.eqv d e)) := fun H1 b _ q =>
  ha H1 b _ fun x H2 b2 hx => hb H2 (b.trans b2) _ fun y H3 b3 hy => ⟨d, e, dp_ex b3 d x hx, hy, sd, se, q H3 (b2.trans b3)⟩
theorem q_asgD {D : Ends} {tz : TS} {i : Nat} (h : EvD K te σ H d) (k : ∀ v H1, Ex H H1 → Dp K H1 v d → tz D (σ.set i (some v)) H1) : tSeq (tAsg te (gName i)) tz D σ H :=
  h H (Ex.refl H) _ fun v H1 b hv => k v H1 b hv
end
section
variable {P : Program} {w : World} {K : PySem.W.Frag} {mg : Str → Option Value} {base : Heap}
def spLaw (K : PySem.W.Frag) : Sp := fun vs H Q _ => ∃ (a : Addr) (ns : List Int), vs = [.ref a] ∧ SqL K H a (ns.map V.int) ∧ ∀ H2 : Hp, Ex H H2 → Q (.bl true) H2
theorem fn_law {f fr : Addr} {fd fdr : FuncData} (F : Fun K "law" "law" dLaw f fd) (m : Free mg) (C : Cals P w K mg base) (CG : Cal P w K mg base 2 "_law_generator" ["_law_script", "_law_index"] (spGen K))
    (FR : FnG P w K mg base 8 fr fdr ["_law_generator_here"] spRight) (gr : mg "_law_right" = some (.ref fr)) (kr : PySem.W.keepIn K (.ref fr) = true) (br : Binds K fdr ["_law_generator_here"] []) : FnG P w K mg base 9 f fd ["_law_script"] (spLaw K) := by
  refine fnG_ok F scLaw (fun vs H Q E h => ?_) (fun cdv A outer s H vs Q hgu hr h => ?_)
  · obtain ⟨a, ns, rfl, _⟩ := h
    rfl
  · obtain ⟨a, ns, rfl, hs, q⟩ := h
    have hu := hr.units
    refine ⟨_, pss_cons (ps_for PassesOwn.never rfl (pi_range1 (by rfl) m.range (pa_cons pe_int pa_nil)) (pg_name (i := 1) scLaw.nd rfl (.inl rfl))
        (pss_one (ps_if (pt_not (pt_val (pe_callG FR hgu hr (by rfl) gr kr br (pa_cons (CG.call hr (pa_cons (pv 0) (pa_cons (pv 1) pa_nil))) pa_nil)))) pss_never pss_nil)))
      (pss_cons (ps_par (i := 2) (j := 3) rfl scLaw.nd rfl rfl (by decide) rfl rfl (pa_cons (pe_lst (pa_cons pe_int (pa_cons pe_int (pa_cons pe_int (pa_cons pe_int pa_nil))))) (pa_cons (pe_op op_pow pe_int pe_int) pa_nil)) (by rfl))
      (pss_cons (ps_if (pt_cmpR (op_neD hu) (pe_lst (pa_cons (C.widthFor.call hr (pa_cons (pe_lst (pa_cons pe_int (pa_cons pe_int pa_nil))) (pa_cons pe_int (pa_cons (pv 3) pa_nil))))
          (pa_cons (C.widthFor.call hr (pa_cons (pe_lst (pa_cons pe_int (pa_cons pe_int pa_nil))) (pa_cons (pv 3) (pa_cons pe_int pa_nil))))
          (pa_cons (C.itemWidths.call hr (pa_cons (pv 2) (pa_cons (pv 3) pa_nil))) (pa_cons (C.widthFor.call hr (pa_cons (pv 2) (pa_cons (pv 3) (pa_cons pe_int pa_nil)))) pa_nil)))))
        (pe_lst (pa_cons pe_non (pa_cons pe_int (pa_cons (pe_lst (pa_cons pe_int (pa_cons pe_int (pa_cons pe_int (pa_cons pe_int pa_nil))))) (pa_cons pe_int pa_nil))))) (nomark _)) pss_never pss_nil)
      (pss_cons (ps_set (i := 4) scLaw.nd rfl (.inl rfl) (pe_lst (pa_cons (C.itemWidths.call hr (pa_cons (pv 2) (pa_cons pe_int pa_nil))) (pa_cons (C.widthFor.call hr (pa_cons (pv 2) (pa_cons pe_int (pa_cons pe_int pa_nil))))
          (pa_cons (C.widthFor.call hr (pa_cons (pe_lst (pa_cons pe_int pa_nil)) (pa_cons pe_int (pa_cons pe_int pa_nil)))) (pa_cons (C.widthFor.call hr (pa_cons (pe_lst (pa_cons pe_int pa_nil)) (pa_cons pe_int (pa_cons pe_int pa_nil))))
          (pa_cons (C.widthFor.call hr (pa_cons (pe_lst (pa_cons pe_int pa_nil)) (pa_cons pe_int (pa_cons pe_int pa_nil)))) (pa_cons (C.widthFor.call hr (pa_cons (pe_lst (pa_cons pe_int pa_nil)) (pa_cons pe_int (pa_cons pe_int pa_nil)))) pa_nil))))))))
      (pss_one (ps_ret (pe_and (pe_cmpR (op_eqD hu) (pv 4) (pe_lst (pa_cons (pe_lst (pa_cons pe_int (pa_cons pe_int (pa_cons pe_int (pa_cons pe_int pa_nil))))) (pa_cons pe_int (pa_cons pe_non (pa_cons pe_int (pa_cons pe_non (pa_cons pe_int pa_nil))))))) (nomark _))
        (pe_one (pe_cmpR (op_eqD hu) (C.itemWidths.call hr (pa_cons (pe_lst (pa_cons pe_int (pa_cons (pe_op op_pow pe_int pe_int) pa_nil))) (pa_cons pe_int pa_nil))) (pe_lst (pa_cons pe_int (pa_cons pe_int pa_nil))) (nomark _))))))))), ?_⟩
    have ha : Ex H H := Ex.refl H
    refine ⟨3, rfl, by decide, by decide, ?_⟩
    refine for_range (lo := 0) (fun i σ H' => (∃ v1, σ = [some (.ref a), v1, none, none, none]) ∧ Ex H H') ⟨⟨none, rfl⟩, Ex.refl H⟩ (fun i σ H' hi p => ?_) (fun σ H' p => ?_)
    · obtain ⟨⟨v1, rfl⟩, e1⟩ := p
      refine ⟨_, rfl, _, rfl, a, ns, i, by rw [Int.zero_add]; rfl, by omega, ex_l e1 hs, fun g x y H2 ng e2 G => ?_⟩
      refine ⟨g, x, y, _, rfl, G, by omega, fun H3 b3 => ⟨true, rfl, iteF ⟨⟨_, rfl⟩, fun u o hu => ?_⟩⟩⟩
      have h1 := e1 u o hu
      exact b3 u o (ne_of_none h1 ng) (e2 u o h1)
    · obtain ⟨⟨v1, rfl⟩, e1⟩ := p
      -- four, far
      refine ⟨by show 4 ≤ sizeLine; decide, fun l nl => ⟨10, 29, rfl, rfl, ⟨by decide, by decide, by decide⟩, _, _, rfl, ?_⟩⟩
      have f2 : Ex H' (upd H' l (HO.lst [V.int 0, V.int 1, V.int 2, V.int 3])) := Ex.new nl
      have hl2 : (upd H' l (HO.lst [V.int 0, V.int 1, V.int 2, V.int 3])) l = some (.lst (([0, 1, 2, 3] : List Int).map V.int)) := upd_same
      have e2 := e1.trans f2
      generalize upd H' l (HO.lst [V.int 0, V.int 1, V.int 2, V.int 3]) = H2 at e2 hl2 ⊢
      clear f2 nl e1
      have vf : ∀ {H3 : Hp}, Ev (tVar 3) [some (.ref a), v1, some (.ref l), some (.int (10 ^ (29 : Int).toNat)), none] H3 (.int ((10 ^ 29 : Nat) : Int)) := ev_is (ev_var rfl) (congrArg V.int far)
      dsimp only
      change tSeq (tIfS _ tNever tNext) _ _ _ H2
      change tSeq (tIfS _ tNever tNext) _ _ [some (.ref a), v1, some (.ref l), some (.int (10 ^ (29 : Int).toNat)), none] H2
      change tSeq (tIfS (tTest _) tNever tNext) _ _ _ H2
      change tSeq (tIfS (tTest (tOp (rNeD K) _ _)) tNever tNext) _ _ _ H2
      refine q_pass (σ := [some (.ref a), v1, some (.ref l), some (.int (10 ^ (29 : Int).toNat)), none]) (et_is (et_test (ev_neD (K := K)
        (ed_lst (ds := [dOpt none, dOpt (some 3), dInts [1, 1, 2, 2], dOpt (some 3)]) (eds_cons (ed_o (ev_wfL (el_w2 0 1) ev_c vf p01 (by decide) w1)) (eds_cons (ed_o (ev_wfL (el_w2 0 1) vf ev_c p01 (by decide) w2))
          (eds_cons (ed_L (el_iwA (ev_var (i := 2) rfl) hl2 vf p4 w3)) (eds_cons (ed_o (ev_wfA (ev_var (i := 2) rfl) hl2 vf ev_c p4 (by decide) w4)) eds_nil)))) (by show 4 ≤ 100000; decide))
        (ed_lst (ds := [.none, .int 3, dInts [1, 1, 2, 2], .int 3]) (eds_cons ed_n (eds_cons ed_c (eds_cons (ed_L (el_w4 1 1 2 2)) (eds_cons ed_c eds_nil)))) (by show 4 ≤ 100000; decide)) (by decide +kernel) (by decide +kernel))) (by decide +kernel)) fun H3 e3 => ?_
      have hl3 := e3 l _ hl2
      refine q_asgD (K := K) (σ := [some (.ref a), v1, some (.ref l), some (.int (10 ^ (29 : Int).toNat)), none]) (ed_lst (ds := [dInts [1, 1, 2, 2], dOpt (some 3), dOpt none, dOpt (some 1), dOpt none, dOpt (some 64)])
        (eds_cons (ed_L (el_iwA (c := 4) (ev_var (i := 2) rfl) hl3 ev_c p4 w5)) (eds_cons (ed_o (ev_wfA (c := 4) (ev_var (i := 2) rfl) hl3 ev_c ev_c p4 (by decide) w6)) (eds_cons (ed_o (ev_wfL (c := 0) (el_w1 0) ev_c ev_c p0 (by decide) w7))
        (eds_cons (ed_o (ev_wfL (c := 0) (el_w1 0) ev_c ev_c p0 (by decide) w8)) (eds_cons (ed_o (ev_wfL (c := 1) (el_w1 0) ev_c ev_c p0 (by decide) w9)) (eds_cons (ed_o (ev_wfL (c := 9) (el_w1 0) ev_c ev_c p0 (by decide) w10)) eds_nil)))))) (by show 6 ≤ 100000; decide)) fun v H4 e4 hv => ?_
      have h1 : Ev (tOp (rEqD K) (tVar 4) (tLst (tCons (tLst (tCons (tC (.int 1)) (tCons (tC (.int 1)) (tCons (tC (.int 2)) (tCons (tC (.int 2)) tNil))))) (tCons (tC (.int 3)) (tCons (tC .non) (tCons (tC (.int 1)) (tCons (tC .non) (tCons (tC (.int 64)) tNil))))))))
          [some (.ref a), v1, some (.ref l), some (.int (10 ^ (29 : Int).toNat)), some v] H4 (.bl true) := ev_is (ev_eqD (K := K) (d := .list [dInts [1, 1, 2, 2], dOpt (some 3), dOpt none, dOpt (some 1), dOpt none, dOpt (some 64)])
        (fun H5 b Q q => ev_var rfl H5 b Q fun H6 b2 => q v H6 b2 (dp_ex (b.trans b2) _ v hv))
        (ed_lst (ds := [dInts [1, 1, 2, 2], .int 3, .none, .int 1, .none, .int 64]) (eds_cons (ed_L (el_w4 1 1 2 2)) (eds_cons ed_c (eds_cons ed_n (eds_cons ed_c (eds_cons ed_n (eds_cons ed_c eds_nil)))))) (by show 6 ≤ 100000; decide)) (by decide +kernel) (by decide +kernel)) (by decide +kernel)
      refine h1 H4 (Ex.refl H4) _ fun H5 e5 => ⟨true, rfl, iteT ?_⟩
      have h2 : Ev (tOp (rEqD K) (tCall spItemWidths [] E0 (tCons (tLst (tCons (tC (.int 0)) (tCons (tOp (rI CPow fun i j => .int (i ^ j.toNat)) (tC (.int 2)) (tC (.int 63))) tNil))) (tCons (tC (.int 9)) tNil))) (tLst (tCons (tC (.int 1)) (tCons (tC (.int 64)) tNil))))
          [some (.ref a), v1, some (.ref l), some (.int (10 ^ (29 : Int).toNat)), some v] H5 (.bl true) := by
        have hp : Ev (tOp (rI CPow fun i j => .int (i ^ j.toNat)) (tC (.int 2)) (tC (.int 63))) [some (.ref a), v1, some (.ref l), some (.int (10 ^ (29 : Int).toNat)), some v] H5 (.int (2 ^ 63)) := ev_op ev_c ev_c (rv_I ⟨by decide, by decide, by decide⟩)
        have hl : EvL (tLst (tCons (tC (.int 0)) (tCons (tOp (rI CPow fun i j => .int (i ^ j.toNat)) (tC (.int 2)) (tC (.int 63))) tNil))) [some (.ref a), v1, some (.ref l), some (.int (10 ^ (29 : Int).toNat)), some v] H5 (([0, 2 ^ 63] : List Int).map V.int) :=
          el_lst (ea_cons ev_c (ea_cons hp ea_nil)) (by show 2 ≤ 100000; decide)
        exact ev_is (ev_eqD (K := K) (ed_L (el_iwL (c := 9) hl ev_c p63 w11)) (ed_L (el_w2 1 64)) (by decide +kernel) (by decide +kernel)) (by decide +kernel)
      exact h2 H5 (Ex.refl H5) _ fun H6 e6 => q H6 ((((e2.trans e3).trans e4).trans e5).trans e6)
end
end K17
set_option maxHeartbeats 0
/-! The head: the top's run by the kernel, what it leaves told by names. -/
namespace K17
open PySem PySem.Spec PyProof.Rows L2
def eIsWhole : He.FnD := ⟨("is_whole", none), "is_whole", "is_whole", defArgs dIsWhole, defBody dIsWhole, defScope dIsWhole⟩
def eIsBetween : He.FnD := ⟨("is_between", none), "is_between", "is_between", defArgs dIsBetween, defBody dIsBetween, defScope dIsBetween⟩
def eCheckNumber : He.FnD := ⟨("check_number", none), "check_number", "check_number", defArgs dCheckNumber, defBody dCheckNumber, defScope dCheckNumber⟩
def ePowerOfTwo : He.FnD := ⟨("power_of_two", none), "power_of_two", "power_of_two", defArgs dPowerOfTwo, defBody dPowerOfTwo, defScope dPowerOfTwo⟩
def eTwos : He.FnD := ⟨("twos", none), "twos", "twos", defArgs dTwos, defBody dTwos, defScope dTwos⟩
def eGoodRow : He.FnD := ⟨("good_row", none), "good_row", "good_row", defArgs dGoodRow, defBody dGoodRow, defScope dGoodRow⟩
def eItemsCounted : He.FnD := ⟨("items_counted", none), "items_counted", "items_counted", defArgs dItemsCounted, defBody dItemsCounted, defScope dItemsCounted⟩
def eIsWidth : He.FnD := ⟨("is_width", none), "is_width", "is_width", defArgs dIsWidth, defBody dIsWidth, defScope dIsWidth⟩
def eCheckWidth : He.FnD := ⟨("check_width", none), "check_width", "check_width", defArgs dCheckWidth, defBody dCheckWidth, defScope dCheckWidth⟩
def eIsOfWidth : He.FnD := ⟨("is_of_width", none), "is_of_width", "is_of_width", defArgs dIsOfWidth, defBody dIsOfWidth, defScope dIsOfWidth⟩
def eRises : He.FnD := ⟨("rises", none), "rises", "rises", defArgs dRises, defBody dRises, defScope dRises⟩
def eArePlaces : He.FnD := ⟨("are_places", none), "are_places", "are_places", defArgs dArePlaces, defBody dArePlaces, defScope dArePlaces⟩
def eCheckPlaces : He.FnD := ⟨("check_places", none), "check_places", "check_places", defArgs dCheckPlaces, defBody dCheckPlaces, defScope dCheckPlaces⟩
def eCheckCode : He.FnD := ⟨("check_code", none), "check_code", "check_code", defArgs dCheckCode, defBody dCheckCode, defScope dCheckCode⟩
def eSizePower : He.FnD := ⟨("size_power", none), "size_power", "size_power", defArgs dSizePower, defBody dSizePower, defScope dSizePower⟩
def eItemCount : He.FnD := ⟨("item_count", none), "item_count", "item_count", defArgs dItemCount, defBody dItemCount, defScope dItemCount⟩
def eHowManyCodewords : He.FnD := ⟨("how_many_codewords", none), "how_many_codewords", "how_many_codewords", defArgs dHowManyCodewords, defBody dHowManyCodewords, defScope dHowManyCodewords⟩
def eCheckAnyPlaces : He.FnD := ⟨("check_any_places", none), "check_any_places", "check_any_places", defArgs dCheckAnyPlaces, defBody dCheckAnyPlaces, defScope dCheckAnyPlaces⟩
def eItemWidths : He.FnD := ⟨("item_widths", none), "item_widths", "item_widths", defArgs dItemWidths, defBody dItemWidths, defScope dItemWidths⟩
def eWidthFor : He.FnD := ⟨("width_for", none), "width_for", "width_for", defArgs dWidthFor, defBody dWidthFor, defScope dWidthFor⟩
def eLHash : He.FnD := ⟨("_law_hash", none), "_law_hash", "_law_hash", defArgs dLHash, defBody dLHash, defScope dLHash⟩
def eLRandom : He.FnD := ⟨("_law_random", none), "_law_random", "_law_random", defArgs dLRandom, defBody dLRandom, defScope dLRandom⟩
def eLCell : He.FnD := ⟨("_law_cell", none), "_law_cell", "_law_cell", defArgs dLCell, defBody dLCell, defScope dLCell⟩
def eLGenerator : He.FnD := ⟨("_law_generator", none), "_law_generator", "_law_generator", defArgs dLGenerator, defBody dLGenerator, defScope dLGenerator⟩
def eLTwo : He.FnD := ⟨("_law_two", none), "_law_two", "_law_two", defArgs dLTwo, defBody dLTwo, defScope dLTwo⟩
def eLPlaces : He.FnD := ⟨("_law_places", none), "_law_places", "_law_places", defArgs dLPlaces, defBody dLPlaces, defScope dLPlaces⟩
def eLTwos : He.FnD := ⟨("_law_twos", none), "_law_twos", "_law_twos", defArgs dLTwos, defBody dLTwos, defScope dLTwos⟩
def eLGood : He.FnD := ⟨("_law_good", none), "_law_good", "_law_good", defArgs dLGood, defBody dLGood, defScope dLGood⟩
def eLBits : He.FnD := ⟨("_law_bits", none), "_law_bits", "_law_bits", defArgs dLBits, defBody dLBits, defScope dLBits⟩
def eLRight : He.FnD := ⟨("_law_right", none), "_law_right", "_law_right", defArgs dLRight, defBody dLRight, defScope dLRight⟩
def eLaw : He.FnD := ⟨("law", none), "law", "law", defArgs dLaw, defBody dLaw, defScope dLaw⟩
def hfn : List He.FnD := [eIsWhole, eIsBetween, eCheckNumber, ePowerOfTwo, eTwos, eGoodRow, eItemsCounted, eIsWidth, eCheckWidth, eIsOfWidth, eRises, eArePlaces, eCheckPlaces, eCheckCode, eSizePower, eItemCount, eHowManyCodewords, eCheckAnyPlaces, eItemWidths, eWidthFor, eLHash, eLRandom, eLCell, eLGenerator, eLTwo, eLPlaces, eLTwos, eLGood, eLBits, eLRight, eLaw]
def hfa : List He.Fa := [.glo "is_whole", .glo "is_between", .glo "check_number", .glo "power_of_two", .glo "twos", .glo "good_row", .glo "items_counted", .glo "is_width", .glo "check_width", .glo "is_of_width", .glo "rises", .glo "are_places", .glo "check_places", .glo "check_code", .glo "size_power", .glo "item_count", .glo "how_many_codewords", .glo "check_any_places", .glo "item_widths", .glo "width_for", .glo "_law_hash", .glo "_law_random", .glo "_law_cell", .glo "_law_generator", .glo "_law_two", .glo "_law_places", .glo "_law_twos", .glo "_law_good", .glo "_law_bits", .glo "_law_right", .glo "law", .keep "is_whole", .keep "is_between", .keep "check_number", .keep "power_of_two", .keep "twos", .keep "good_row", .keep "items_counted", .keep "is_width", .keep "check_width", .keep "is_of_width", .keep "rises", .keep "are_places", .keep "check_places", .keep "check_code", .keep "size_power", .keep "item_count", .keep "how_many_codewords", .keep "check_any_places", .keep "item_widths", .keep "width_for", .keep "_law_hash", .keep "_law_random", .keep "_law_cell", .keep "_law_generator", .keep "_law_two", .keep "_law_places", .keep "_law_twos", .keep "_law_good", .keep "_law_bits", .keep "_law_right", .keep "law", .free "isinstance", .free "int", .free "bool", .free "list", .free "len", .free "min", .free "zip", .free "range", .free "sum", .free "max", .free "sorted", .free "enumerate", .free "repr", .int "MOST_WIDTH" 64]
def loose1 : List PySem.Str := ["CodeError", "InvalidNumber", "InvalidWidth", "InvalidPlaces", "MOST_WIDTH", "is_whole", "is_between", "check_number", "power_of_two", "twos", "good_row", "items_counted", "is_width", "check_width", "is_of_width", "rises", "are_places", "check_places", "check_code", "size_power"]
def loose2 : List PySem.Str := ["item_count", "how_many_codewords", "check_any_places", "item_widths", "width_for", "_law_hash", "_law_random", "_law_cell", "_law_generator", "_law_two", "_law_places", "_law_twos", "_law_good", "_law_bits", "_law_right", "_law_counted", "_law_sum", "_law_drawn", "_law_word"]
def loose : List PySem.Str := loose1 ++ loose2
abbrev R : PySem.W.OpenRow := PySem.W.OpenLaw.row PySem.Challenge.rw_anyplaces_k17_whole_every_width
abbrev hk : PySem.W.Hook := He.hookE 3 hfa hfn
def hob (s : PySem.W.SharedT) : He.Al := He.obsG 3 hfa hfn (HandSHeadRun.getT s)
theorem hob_eq (s : PySem.W.SharedT) : hob s = hk.obs s.abs := He.obsG_eq (HandSHeadRun.getT_eq s)
theorem run (w : World) : HandSHeadRun.RunEq R (PySem.W.view R.prog [45]) hk hob 6000 loose w := by
  intro os
  kernel_rfl
end K17
set_option maxHeartbeats 4000000
/-! The end: the names that the top leaves, each def's promise in its turn, the law's call. -/
namespace K17
open PySem PySem.Spec PyProof.Rows L2 Evl
/-! ### what the top leaves -/
section
variable {K : PySem.W.Frag} {h : Heap} {mg : Str → Option Value}
theorem at_of (KX : K.In h) (G : h.Ns mainGlobals mg) {x : Str} {st : Stmt}
    (l : ∃ oc od osl kV doc pm an cdv ct, K.lookup (He.ga K x) = some ⟨oc, od, .func (PySem.W.fnOf x x (defArgs st) (defBody st) (defScope st) .none kV doc pm an cdv ct), osl⟩ ∧ PySem.W.codeIn K cdv x = true)
    (g : (He.Fa.glo x).ok K = true) (k : (He.Fa.keep x).ok K = true) : At K mg x st := by
  obtain ⟨oc, od, osl, kV, doc, pm, an, cdv, ct, l1, l2⟩ := l
  exact ⟨_, _, fun_mk l1 l2 (He.keep_ok k), He.glo_ok KX G g⟩
theorem free_of (KX : K.In h) (G : h.Ns mainGlobals mg) (c : He.SaysE hfa hfn K) : Free mg where
  isinstance := He.free_ok KX G (c.fact 62 (f := .free "isinstance") rfl)
  int := He.free_ok KX G (c.fact 63 (f := .free "int") rfl)
  bool := He.free_ok KX G (c.fact 64 (f := .free "bool") rfl)
  list := He.free_ok KX G (c.fact 65 (f := .free "list") rfl)
  len := He.free_ok KX G (c.fact 66 (f := .free "len") rfl)
  min := He.free_ok KX G (c.fact 67 (f := .free "min") rfl)
  zip := He.free_ok KX G (c.fact 68 (f := .free "zip") rfl)
  range := He.free_ok KX G (c.fact 69 (f := .free "range") rfl)
  sum := He.free_ok KX G (c.fact 70 (f := .free "sum") rfl)
  max := He.free_ok KX G (c.fact 71 (f := .free "max") rfl)
  sorted := He.free_ok KX G (c.fact 72 (f := .free "sorted") rfl)
  enumerate := He.free_ok KX G (c.fact 73 (f := .free "enumerate") rfl)
  repr := He.free_ok KX G (c.fact 74 (f := .free "repr") rfl)
variable {P : Program} {w : World} {fa : Addr}
/-- the law's own promise -/
theorem law_of (KX : K.In h) (G : h.Ns mainGlobals mg) (c : He.SaysE hfa hfn K) (hfa : mg ("law" : Str) = some (.ref fa)) :
    ∃ fd : FuncData, (∀ (s : Shared) (u : Value), BindsTo s fd ⟨[u], []⟩ [(("_law_script" : Str), u)]) ∧ ∀ base : Heap, FnG P w K mg base 9 fa fd ["_law_script"] (spLaw K) := by
  have m := free_of KX G c
  have mm : Most mg := He.int_ok KX G (c.fact 75 (f := .int "MOST_WIDTH" 64) rfl)
  have ofi : ∀ (i : Nat) (x : Str) (st : Stmt), hfn[i]? = some ⟨(x, none), x, x, defArgs st, defBody st, defScope st⟩ → K17.hfa[i]? = some (.glo x) → K17.hfa[31 + i]? = some (.keep x) → At K mg x st :=
    fun i x st h1 h2 h3 => at_of KX G (c.def_ i h1) (c.fact i h2) (c.fact (31 + i) h3)
  obtain ⟨fr, fdr, Fr, gr⟩ := (ofi 29 "_law_right" dLRight rfl rfl rfl).ex
  obtain ⟨fl, fdl, Fl, gl⟩ := (ofi 30 "law" dLaw rfl rfl rfl).ex
  have e := hfa.symm.trans gl
  cases e
  have bl := Fl.binds (ps := ["_law_script"]) fun _ _ _ _ _ _ us hl => match us, hl with | [_], _ => rfl
  refine ⟨fdl, ?_, fun base => ?_⟩
  · obtain ⟨oc, od, kV, doc, pm, an, cdv, ct, osl, rfl, lk, hcd⟩ := Fl.ex
    exact fun s u => BindsTo.of_eq rfl
  have whole : Cal P w K mg base 1 "is_whole" ["value"] spWhole := cal_whole (ofi 0 _ _ rfl rfl rfl) m
  have between : Cal P w K mg base 2 "is_between" ["value", "low", "high"] spBetween := cal_between (ofi 1 _ _ rfl rfl rfl) whole
  have checkNumber : Cal P w K mg base 3 "check_number" ["number", "low", "high"] spCheckNumber := cal_checkNumber (ofi 2 _ _ rfl rfl rfl) between
  have pow : Cal P w K mg base 1 "power_of_two" ["many"] spPow := cal_pow (ofi 3 _ _ rfl rfl rfl)
  have twos : Cal P w K mg base 1 "twos" ["number"] spTwos := cal_twos (ofi 4 _ _ rfl rfl rfl)
  have goodRow : Cal P w K mg base 2 "good_row" ["places"] spGoodRow := cal_goodRow (ofi 5 _ _ rfl rfl rfl) m twos
  have counted : Cal P w K mg base 1 "items_counted" ["width", "numbers", "count"] spCounted := cal_counted (ofi 6 _ _ rfl rfl rfl) m
  have isWidth : Cal P w K mg base 3 "is_width" ["value"] spIsWidth := cal_isWidth (ofi 7 _ _ rfl rfl rfl) mm between
  have checkWidth : Cal P w K mg base 4 "check_width" ["width"] spCheckWidth := cal_checkWidth (ofi 8 _ _ rfl rfl rfl) isWidth
  have isOfWidth : Cal P w K mg base 3 "is_of_width" ["width", "value"] spIsOfWidth := cal_isOfWidth (ofi 9 _ _ rfl rfl rfl) between pow
  have rises : Cal P w K mg base 1 "rises" ["numbers"] spRises := cal_rises (ofi 10 _ _ rfl rfl rfl) m
  have arePlaces : Cal P w K mg base 4 "are_places" ["width", "value"] spArePlaces := cal_arePlaces (ofi 11 _ _ rfl rfl rfl) m isOfWidth rises
  have checkPlaces : Cal P w K mg base 5 "check_places" ["width", "places"] spCheckPlaces := cal_checkPlaces (ofi 12 _ _ rfl rfl rfl) checkWidth arePlaces
  have checkCode : Cal P w K mg base 6 "check_code" ["width", "places", "count"] spCheckCode := cal_checkCode (ofi 13 _ _ rfl rfl rfl) checkPlaces checkNumber
  have sizePower : Cal P w K mg base 2 "size_power" ["width", "numbers", "count"] spSizePower := cal_sizePower (ofi 14 _ _ rfl rfl rfl) m counted
  have itemCount : Cal P w K mg base 7 "item_count" ["width", "places", "count"] spItemCount := cal_itemCount (ofi 15 _ _ rfl rfl rfl) checkCode counted goodRow
  have howMany : Cal P w K mg base 7 "how_many_codewords" ["width", "places", "count"] spHowMany := cal_howMany (ofi 16 _ _ rfl rfl rfl) checkCode sizePower goodRow pow
  have checkAny : Cal P w K mg base 5 "check_any_places" ["places", "count"] spCheckAny := cal_checkAny (ofi 17 _ _ rfl rfl rfl) mm arePlaces checkNumber
  have itemWidths : Cal P w K mg base 6 "item_widths" ["places", "count"] spItemWidths := cal_itemWidths (ofi 18 _ _ rfl rfl rfl) checkAny goodRow
  have widthFor : Cal P w K mg base 6 "width_for" ["places", "count", "many"] spWidthFor := cal_widthFor (ofi 19 _ _ rfl rfl rfl) m mm checkAny goodRow sizePower checkNumber
  have hash : Cal P w K mg base 1 "_law_hash" ["_law_seed", "_law_index"] spHash := cal_hash (ofi 20 _ _ rfl rfl rfl) m
  have random : Cal P w K mg base 2 "_law_random" ["_law_generator_here", "_law_bound"] spRandom := cal_random (ofi 21 _ _ rfl rfl rfl) m hash
  have cell : Cal P w K mg base 1 "_law_cell" ["_law_script", "_law_index"] (spCell K) := cal_cell (ofi 22 _ _ rfl rfl rfl) m
  have gen : Cal P w K mg base 2 "_law_generator" ["_law_script", "_law_index"] (spGen K) := cal_gen (ofi 23 _ _ rfl rfl rfl) m cell
  have two : Cal P w K mg base 1 "_law_two" ["_law_many"] spPow := cal_two (ofi 24 _ _ rfl rfl rfl) m
  have places : Cal P w K mg base 3 "_law_places" ["_law_generator_here", "_law_width_there", "_law_most"] spPlaces := cal_places (ofi 25 _ _ rfl rfl rfl) m random two
  have twosL : Cal P w K mg base 1 "_law_twos" ["_law_number"] spTwos := cal_twosL (ofi 26 _ _ rfl rfl rfl) m
  have good : Cal P w K mg base 2 "_law_good" ["_law_spots"] spGood := cal_good (ofi 27 _ _ rfl rfl rfl) m twosL
  have bits : Cal P w K mg base 2 "_law_bits" ["_law_spots"] spBits := cal_bits (ofi 28 _ _ rfl rfl rfl) m two
  have C : Cals P w K mg base := ⟨places, random, bits, good, two, itemWidths, itemCount, howMany, widthFor⟩
  have FR := fn_right Fr m C
  exact fn_law Fl m C gen FR gr Fr.kp (Fr.binds fun _ _ _ _ _ _ us hl => match us, hl with | [_], _ => rfl)
end
/-! ### the law's call, from outside: no repr is under way there -/
section
variable {P : Program} {w : World} {K : PySem.W.Frag} {mg mb : Str → Option Value} {s : Shared} {a fa : Addr} {fd : FuncData} {vs : List Value} {ns : List Int}
/-- the heap that the walk knows holds the script at most -/
structure Lone (P : Program) (w : World) (K : PySem.W.Frag) (s : Shared) (a : Addr) (H : Hp) : Prop where
  ok : HOk P w H s.heap
  one : ∀ b, H b ≠ none → b = a
  own : H a ≠ none → K.lookup a = none
  frz : ∀ b u, H b = some u → ∃ o xs, u = .frz o (.lst xs)
theorem Lone.not_kept {H : Hp} (L : Lone P w K s a H) {b : Addr} {o : Obj} (e : K.lookup b = some o) : H b = none := by
  by_cases q : H b = none
  · exact q
  · have e1 := L.one b q
    subst e1
    rw [L.own q] at e
    exact nomatch e
theorem Lone.not_dict {H : Hp} (L : Lone P w K s a H) (ha : s.heap.get? a = some { cls := .type "list", data := .seq vs.toArray }) {b : Addr} {o : Obj} {es : Array DictEntry} {ep : Nat} (e : s.heap.get? b = some o) (d : o.data = .dict es ep) : H b = none := by
  by_cases q : H b = none
  · exact q
  · have e1 := L.one b q
    subst e1
    have e2 := Option.some.inj (ha.symm.trans e)
    subst e2
    exact nomatch (show Data.seq vs.toArray = Data.dict es ep from d)
theorem Lone.names {H : Hp} (L : Lone P w K s a H) (ha : s.heap.get? a = some { cls := .type "list", data := .seq vs.toArray }) {b : Addr} {m : Str → Option Value} (n : s.heap.Ns b m) : (hidT s.heap H).Ns b m := by
  obtain ⟨o, es, ep, e, d, r⟩ := n
  exact ⟨o, es, ep, hidT_get e (L.not_dict ha e d), d, r⟩
theorem Lone.call {H : Hp} (L : Lone P w K s a H) (KX : K.In s.heap) (nm : s.heap.Ns mainGlobals mg) (nb : s.heap.Ns builtinsNs mb) (bb : ∀ x : Str, x ≠ "__name__" → mb x = bootBuiltins x) (nl : s.heap.NoLimit) (ng : s.gens = #[])
    (ha : s.heap.get? a = some { cls := .type "list", data := .seq vs.toArray }) (F : ∀ base : Heap, FnG P w K mg base 9 fa fd ["_law_script"] (spLaw K)) (bd : ∀ (s : Shared) (u : Value), BindsTo s fd ⟨[u], []⟩ [(("_law_script" : Str), u)])
    (hs : SqL K H a (ns.map V.int)) : codeAny (model P w) callerA (.call (.ref fa) ⟨[.ref a], []⟩) (fun r s' => r = .ok (.ret (.bool true)) ∧ OldK s.heap s'.heap ∧ s'.os = s.os ∧ AllBare s'.gens) s := by
  have kb : K.In (hidT s.heap H) := fun b o e => hidT_get (KX b o e) (L.not_kept e)
  have lim : (hidT s.heap H).NoLimit := by
    obtain ⟨mc, h1, h2⟩ := nl
    exact ⟨mc, L.names ha h1, h2⟩
  have e0 : Env0 P w K mg (hidT s.heap H) callerA [] s H := ⟨rfl, ⟨kb, L.names ha nm, ⟨mb, L.names ha nb, bb⟩, lim⟩, fun b o e => of_hidT e, Nat.le_of_eq (hidT_size _ _), trivial, fun b hb => (nomatch hb), L.ok, .of_eq ng⟩
  refine codeAny_mono ((F (hidT s.heap H)).run callerA [] s H ⟨[.ref a], []⟩ [.ref a] [.ref a] (fun v _ => v = .bl true) rfl ⟨rfl, by decide, by decide⟩ e0 (bd s (.ref a)) (.cons rfl .nil) ⟨a, ns, rfl, hs, fun _ _ => rfl⟩) fun r s' z => ?_
  match r, z with
  | .error _, z => exact z.elim
  | .ok (.ret u), ⟨v, H', os, bare, un, ok', r', q⟩ =>
    have q' : v = .bl true := q
    subst q'
    have e1 : u = Value.bool true := r'
    subst e1
    refine ⟨rfl, OldK.of_keep fun b o e => ?_, os, bare⟩
    cases q : H b with
    | none => exact un.keep b o e q (fun z => nomatch z) (by simp)
    | some u =>
      obtain ⟨ob, xs, e2⟩ := L.frz b u q
      subst e2
      have g2 := ok' b _ (un.frzs b ob _ q)
      obtain ⟨e3, _⟩ := L.ok b _ q
      obtain ⟨e4, _⟩ := g2
      have e5 := Option.some.inj (e.symm.trans e3)
      subst e5
      exact e4
theorem law_callG (KX : K.In s.heap) (nm : s.heap.Ns mainGlobals mg) (nb : s.heap.Ns builtinsNs mb) (bb : ∀ x : Str, x ≠ "__name__" → mb x = bootBuiltins x) (nl : s.heap.NoLimit) (ng : s.gens = #[])
    (ha : s.heap.get? a = some { cls := .type "list", data := .seq vs.toArray }) (hi : IntsAre vs ns) (hl : ns.length ≤ sizeLine) (F : ∀ base : Heap, FnG P w K mg base 9 fa fd ["_law_script"] (spLaw K)) (bd : ∀ (s : Shared) (u : Value), BindsTo s fd ⟨[u], []⟩ [(("_law_script" : Str), u)]) :
    codeAny (model P w) callerA (.call (.ref fa) ⟨[.ref a], []⟩) (fun r s' => r = .ok (.ret (.bool true)) ∧ OldK s.heap s'.heap ∧ s'.os = s.os ∧ AllBare s'.gens) s := by
  have rv := vals_ints hi
  have lv := hi.length
  cases hk : K.lookup a with
  | some o =>
    have e := Option.some.inj (ha.symm.trans (KX a o hk))
    subst e
    have L : Lone P w K s a (fun _ => none) := ⟨fun b u z => (nomatch z), fun b z => absurd rfl z, fun z => absurd rfl z, fun b u z => (nomatch z)⟩
    exact L.call KX nm nb bb nl ng ha F bd (ns := ns) (.inr ⟨_, vs.toArray, _, hk, rfl, rfl, rfl, by rw [List.size_toArray, lv]; exact hl, by simpa using rv⟩)
  | none =>
    let h0 : HO := .frz { cls := .type "list", data := .seq vs.toArray } (.lst (ns.map V.int))
    have at0 : (if a = a then some h0 else none) = some h0 := if_pos rfl
    have only : ∀ b u, (if b = a then some h0 else none) = some u → b = a ∧ u = h0 := fun b u z => by
      by_cases hb : b = a
      · rw [if_pos hb] at z
        exact ⟨hb, (Option.some.inj z).symm⟩
      · rw [if_neg hb] at z
        exact nomatch z
    have L : Lone P w K s a (fun b => if b = a then some h0 else none) := by
      refine ⟨fun b u z => ?_, fun b z => ?_, fun _ => hk, fun b u z => ?_⟩
      · obtain ⟨rfl, rfl⟩ := only b u z
        exact ⟨ha, by rw [List.length_map]; exact hl, vs, _, rv, ha⟩
      · by_cases hb : b = a
        · exact hb
        · exact absurd (if_neg hb) z
      · exact ⟨_, _, (only b u z).2⟩
    exact L.call KX nm nb bb nl ng ha F bd (ns := ns) (.inl (.inr ⟨{ cls := .type "list", data := .seq vs.toArray }, at0⟩))
end
end K17
set_option maxHeartbeats 0
/-! The law. -/
open PySem PySem.W PySem.Calls PyProof.Rows
theorem PySem.Challenge.cw_anyplaces_k17_whole_every_width_holds : PySem.Challenge.rw_anyplaces_k17_whole_every_width.Holds := by
  w_on; o_law
  refine HandSHeadRun.head_any (r := OpenLaw.row PySem.Challenge.rw_anyplaces_k17_whole_every_width) (q := view (OpenLaw.row PySem.Challenge.rw_anyplaces_k17_whole_every_width).prog [45])
    (H := K17.hk) (ob := K17.hob) (M := 6000) (loose := K17.loose) (d := HandSHeadRun.topDef (OpenLaw.row PySem.Challenge.rw_anyplaces_k17_whole_every_width).prog 45) (kwd := []) K17.hob_eq
    (by kernel_rfl) (fun s => by kernel_rfl) K17.run (by kernel_rfl) (by kernel_rfl) (by kernel_rfl) (by rfl) (by first | assumption | decide +kernel) (by decide +kernel) ⟨rfl, rfl, rfl, rfl, rfl, by decide +kernel⟩ ?hw ?hc
  case hw => w_witness2
  case hc =>
    refine Att.attach_call (n := 63) rfl (by kernel_rfl) fun w s₀ s₁ mg mb fa o pm cd doc a vs ns G Y _ _ _ hmg hobj hints hlen hg => ?_
    obtain ⟨K, KX, c⟩ := Y
    have hlaw : mg ("law" : PySem.Str) = some (.ref fa) := by
      have e : (HandSHeadRun.topDef (OpenLaw.row PySem.Challenge.rw_anyplaces_k17_whole_every_width).prog 45).name = ("law" : PySem.Str) := by kernel_rfl
      rw [← e]
      exact hmg
    obtain ⟨fd, bd, F⟩ := K17.law_of (P := (PySem.Challenge.rw_anyplaces_k17_whole_every_width).prog) (w := w) KX G.T.g c hlaw
    exact K17.law_callG KX G.T.g G.T.b G.T.builtins G.T.nolimit hg hobj hints (Nat.le_trans hlen (by decide)) F bd
