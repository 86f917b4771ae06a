import PyProof.Rows.All
import Wide.All
import OpenK.AllK
import Wide.FinOn
import HandS.ForMost
import HandS.ForExc
import HandS.IsInst
import HandS.TupAny
import HandS.TupMul
import HandS.Zip
import HandS.Star
import HandS.Defaults
import HandS.MakeKwOnly
import HandS.ExcInit
import HandS.TryMany
import HandS.ExcField
import HandS.Lambda
import HandS.EndTab
import HandS.Conv
import HandS.Evl
import HandS.More
import KE.KExcSuper
import KE.KDictZip
import PySem.Challenge.RW_mixedlines_k01_whole_jobs
import PyProof.WalksMore
import PyProof.InstNe
import OpenK.KOps
import OpenK.KMeth
import HandS.SlotsOwn
import HandS.WordsExc
set_option Elab.async false
set_option linter.all false
set_option maxRecDepth 100000
set_option maxHeartbeats 2000000
/-! K1a: the text by places; the plain law of jobs over data. -/
namespace K1
open PySem L2
/-! ### the text by places -/
def top (i : Nat) : Stmt := PySem.Challenge.pw_mixedlines_k01_whole_jobs.main.body.getD i (.Pass ⟨0, 0, 0, 0⟩)
abbrev sBadInit : Stmt := inClass (top 2) 0
abbrev sIsNumber : Stmt := top 13
abbrev sAreLines : Stmt := top 14
abbrev sIsWriter : Stmt := top 15
abbrev sAreWriters : Stmt := top 16
abbrev sIsRule : Stmt := top 17
abbrev sInit : Stmt := inClass (top 18) 0
abbrev sFour : Stmt := inClass (top 18) 1
abbrev sLen : Stmt := inClass (top 18) 2
abbrev sGet : Stmt := inClass (top 18) 4
abbrev sEq : Stmt := inClass (top 18) 5
abbrev sBut : Stmt := inClass (top 18) 6
abbrev sWith : Stmt := inClass (top 18) 7
abbrev sNumber : Stmt := top 20
abbrev sTake : Stmt := top 21
abbrev sPick : Stmt := top 22
abbrev sWriter : Stmt := top 23
abbrev sParts : Stmt := top 24
abbrev sMade : Stmt := top 25
abbrev sWrong : Stmt := top 26
abbrev sWR : Stmt := top 27
abbrev sRR : Stmt := top 28
abbrev sLaw : Stmt := top 29

/-! ### what a job's parts are, over data -/
abbrev D := PyData
def isNum (lo hi : Int) : D → Bool
  | .int i => decide (lo ≤ i) && decide (i ≤ hi)
  | _ => false
def intOf : D → Int
  | .int i => i
  | _ => 0
def sumD (ds : List D) : Int := (ds.map intOf).sum
def linesOk : D → Bool
  | .tuple ds => (decide (1 ≤ ds.length) && decide (ds.length ≤ 3)) && (ds.all (isNum 1 3) && decide (sumD ds ≤ 4))
  | _ => false
def wordIn (ws : List Str) : D → Bool
  | .str z => ws.contains z
  | _ => false
def wPlace : List Str := ["end", "own", "sought"]
def wKeep : List Str := ["block", "line", "part"]
def wOpen : List Str := ["empties", "leaves"]
def writerOk : D → Bool
  | .tuple [l, a, b, c] => linesOk l && (wordIn wPlace a && (wordIn wKeep b && wordIn wOpen c))
  | _ => false
/-- the parts of a writer that is one -/
def partsOf : D → Int
  | .tuple (.tuple ls :: _) => sumD ls
  | _ => 0
def writersOk : D → Bool
  | .tuple ws => (decide (1 ≤ ws.length) && decide (ws.length ≤ 3)) && (ws.all writerOk && decide ((ws.map partsOf).sum ≤ 6))
  | _ => false
def rWrites : List Str := ["pieces", "whole"]
def rFalls : List Str := ["none", "some"]
def ruleOk (name : Str) (d : D) : Bool :=
  if name = "before" then isNum 0 2 d else if name = "writes" then wordIn rWrites d else wordIn rFalls d
/-- the first part that is wrong -/
def firstBad (w a b c : D) : Option Str :=
  if writersOk w = false then some "writers" else if ruleOk "writes" a = false then some "writes"
  else if ruleOk "before" b = false then some "before" else if ruleOk "falls" c = false then some "falls" else none
end K1

/-! K1b: types of data; is_number. -/
namespace K1
open PySem L2
def tyName : D → String
  | .none => "NoneType"
  | .bool _ => "bool"
  | .int _ => "int"
  | .str _ => "str"
  | .list _ => "list"
  | .tuple _ => "tuple"
  | .dict _ => "dict"
theorem dp_ty {K : PySem.W.Frag} {H : Hp} {v : V} {d : D} (h : Dp K H v d) : TyX K H v (.type (tyName d)) := by
  cases h with
  | non => exact .base .non
  | bl b => exact .base (.bl b)
  | int i => exact .base (.int i)
  | str x => exact .base (.str x)
  | lst hs _ =>
    rcases hs with (h | ⟨o, h⟩) | ⟨o, its, n, hk, hc, _⟩
    · exact .base (.lst h)
    · exact .base (.frz h)
    · exact .kList hk hc
  | tup hs _ =>
    rcases hs with (h | ⟨o, h⟩) | ⟨o, its, n, hk, hc, _⟩
    · exact .base (.tup h)
    · exact .fTuple h
    · exact .kTuple hk hc
theorem bo_isi : bootBuiltins "isinstance" = some (.builtin "isinstance") := by decide +kernel
theorem bo_all : bootBuiltins "all" = some (.builtin "all") := by decide +kernel
theorem bo_sum : bootBuiltins "sum" = some (.builtin "sum") := by decide +kernel
theorem bo_len : bootBuiltins "len" = some (.builtin "len") := by decide +kernel
theorem bo_min : bootBuiltins "min" = some (.builtin "min") := by decide +kernel
theorem bo_int : bootBuiltins "int" = some (.type "int") := by decide +kernel
theorem bo_bool : bootBuiltins "bool" = some (.type "bool") := by decide +kernel
theorem bo_str : bootBuiltins "str" = some (.type "str") := by decide +kernel
theorem bo_tuple : bootBuiltins "tuple" = some (.type "tuple") := by decide +kernel
theorem bo_list : bootBuiltins "list" = some (.type "list") := by decide +kernel
theorem bo_dict : bootBuiltins "dict" = some (.type "dict") := by decide +kernel
/-- the names of builtins that the program's defs ask -/
structure Blt (mg : Str → Option Value) : Prop where
  isi : mg "isinstance" = none
  int : mg "int" = none
  bool : mg "bool" = none
  tuple : mg "tuple" = none
  str : mg "str" = none
  len : mg "len" = none
  all : mg "all" = none
  sum : mg "sum" = none
  zip : mg "zip" = none
  dict : mg "dict" = none
  list : mg "list" = none
  min : mg "min" = none
  range : mg "range" = none
  enum : mg "enumerate" = none
  super : mg "super" = none
def isIntTy : D → Bool
  | .int _ => true
  | .bool _ => true
  | _ => false
def isBoolTy : D → Bool
  | .bool _ => true
  | _ => false
def isTupTy : D → Bool
  | .tuple _ => true
  | _ => false
def isStrTy : D → Bool
  | .str _ => true
  | _ => false
def tyNames : List String := ["NoneType", "bool", "int", "str", "list", "tuple", "dict"]
theorem ty_mem (d : D) : tyName d ∈ tyNames := by cases d <;> simp [tyName, tyNames]
theorem kit_tab (T : String) (g : String → Bool) (h : (tyNames.all fun n => decide (kitB n T = some (g n))) = true) (d : D) : kitB (tyName d) T = some (g (tyName d)) :=
  of_decide_eq_true (List.all_eq_true.mp h _ (ty_mem d))
theorem kit_int (d : D) : kitB (tyName d) "int" = some (isIntTy d) := (kit_tab "int" (fun n => n == "int" || n == "bool") (by decide +kernel) d).trans (by cases d <;> rfl)
theorem kit_bool (d : D) : kitB (tyName d) "bool" = some (isBoolTy d) := (kit_tab "bool" (fun n => n == "bool") (by decide +kernel) d).trans (by cases d <;> rfl)
theorem kit_tup (d : D) : kitB (tyName d) "tuple" = some (isTupTy d) := (kit_tab "tuple" (fun n => n == "tuple") (by decide +kernel) d).trans (by cases d <;> rfl)
theorem kit_str (d : D) : kitB (tyName d) "str" = some (isStrTy d) := (kit_tab "str" (fun n => n == "str") (by decide +kernel) d).trans (by cases d <;> rfl)
section
variable {P : Program} {w : World} {K : PySem.W.Frag} {mg : Str → Option Value} {base : Heap}
theorem scNum : FnScope ["thing", "low", "high"] ["thing", "low", "high"] (defScope sIsNumber) := ⟨rfl, rfl, rfl, by decide +kernel, rfl, by decide +kernel, by decide +kernel⟩
def spNum (K : PySem.W.Frag) : Sp := fun vs H Q _ => ∃ (v : V) (d : D) (lo hi : Int), vs = [v, .int lo, .int hi] ∧ Dp K H v d ∧ Q (.bl (isNum lo hi d)) H
theorem ok_num {f : Addr} {fd : FuncData} (F : Fun K "is_number" "is_number" sIsNumber f fd) (B : Blt mg) : FnOk P w K mg base CX0 1 f fd ["thing", "low", "high"] (spNum K) := by
  refine F.ok scNum (fun vs H Q E h => ?_) (fun cdv A outer s H vs Q E hr h => ?_)
  · obtain ⟨v, d, lo, hi, rfl, _⟩ := h
    rfl
  · obtain ⟨v, d, lo, hi, rfl, hd, q⟩ := h
    refine ⟨_, pss_one (ps_ret (pe_and (pe_callB call_isi (by rfl) B.isi (by decide +kernel) (pa_cons (pv 0) (pa_cons (pe_bltn (v := .ty "int") (by rfl) B.int (by decide +kernel) rfl) pa_nil)))
      (pe_and (pe_not (pe_callB call_isi (by rfl) B.isi (by decide +kernel) (pa_cons (pv 0) (pa_cons (pe_bltn (v := .ty "bool") (by rfl) B.bool (by decide +kernel) rfl) pa_nil))))
        (pe_one (pe_chain op_le op_le (pv 1) (pv 0) (pv 2)))))), ?_⟩
    refine ⟨_, rfl, v, _, _, _, _, rfl, .ty "int", dp_ty hd, kit_ty (kit_int d), _, rfl, ?_⟩
    cases d with
    | int i =>
      cases hd
      refine iteT ⟨_, rfl, _, _, _, _, _, rfl, .ty "bool", dp_ty (.int i), kit_ty (kit_bool (.int i)), _, rfl, _, rfl, iteT ?_⟩
      refine ⟨_, rfl, _, rfl, _, _, rfl, rfl, _, rfl, ite2 (fun a => ?_) (fun a => ?_)⟩
      · refine ⟨_, rfl, _, _, rfl, rfl, ?_⟩
        have e : isNum lo hi (.int i) = decide (i ≤ hi) := by
          show (decide (lo ≤ i) && decide (i ≤ hi)) = _
          rw [a, Bool.true_and]
        rw [e] at q
        exact q
      · have e : isNum lo hi (.int i) = false := by
          show (decide (lo ≤ i) && decide (i ≤ hi)) = _
          rw [Bool.eq_false_iff.mpr a, Bool.false_and]
        rw [e] at q
        exact q
    | bool b =>
      cases hd
      exact iteT ⟨_, rfl, _, _, _, _, _, rfl, .ty "bool", dp_ty (.bl b), kit_ty (kit_bool (.bool b)), _, rfl, _, rfl, iteF q⟩
    | none => exact iteF q
    | str _ => exact iteF q
    | list _ => exact iteF q
    | tuple _ => exact iteF q
    | dict _ => exact iteF q
end
end K1

/-! K1c: sum of a tuple; comprehensions that map; are_lines. -/
namespace K1
open PySem L2 Evl
/-! ### data along an extension -/
mutual
theorem dp_ex {K : PySem.W.Frag} {H H' : Hp} (e : Ex H H') : ∀ {d : D} {v : V}, Dp K H v d → Dp K H' v d
  | .none, _, .non => .non
  | .bool _, _, .bl b => .bl b
  | .int _, _, .int i => .int i
  | .str _, _, .str x => .str x
  | .list ds, _, .lst s a => .lst (ex_l e s) (dps_ex e a)
  | .tuple ds, _, .tup s a => .tup (ex_t e s) (dps_ex e a)
theorem dps_ex {K : PySem.W.Frag} {H H' : Hp} (e : Ex H H') : ∀ {ds : List D} {vs : List V}, DpAll K H vs ds → DpAll K H' vs ds
  | [], _, .nil => .nil
  | _ :: _, _, .cons h a => .cons (dp_ex e h) (dps_ex e a)
end
theorem dps_len {K : PySem.W.Frag} {H : Hp} : ∀ {vs : List V} {ds : List D}, DpAll K H vs ds → vs.length = ds.length
  | _, _, .nil => rfl
  | _, _, .cons _ a => congrArg Nat.succ (dps_len a)
theorem dps_at {K : PySem.W.Frag} {H : Hp} : ∀ {vs : List V} {ds : List D} {i : Nat} {v : V}, DpAll K H vs ds → vs[i]? = some v → ∃ d, ds[i]? = some d ∧ Dp K H v d
  | _, _, _, _, .nil, h => by simp at h
  | _, _, 0, _, .cons h _, e => ⟨_, rfl, by have q := Option.some.inj e; subst q; exact h⟩
  | _, _, i + 1, _, .cons _ a, e => dps_at (i := i) a e
theorem dps_ints {K : PySem.W.Frag} {H : Hp} {lo hi : Int} : ∀ {vs : List V} {ds : List D}, DpAll K H vs ds → ds.all (isNum lo hi) = true → vs = (ds.map intOf).map V.int
  | _, _, .nil, _ => rfl
  | _, d :: ds, .cons h a, e => by
    rw [List.all_cons, Bool.and_eq_true] at e
    have r := dps_ints a e.2
    cases h with
    | int i => rw [r]; rfl
    | _ => exact absurd e.1 Bool.false_ne_true
/-! ### sum of a tuple of ints -/
def rSumT (K : PySem.W.Frag) : List V → Hp → VK → Prop := fun vs H Q => ∃ (a : Addr) (ns : List Int), vs = [V.ref a] ∧ SqT K H a (ns.map V.int) ∧ Q (.int ns.sum) H
theorem cr_sumT {X : Cx} (hc : X.calm = true) : CallR X (.builtin "sum") (rSumT X.K) := by
  intro pins s σ H vs us Q I r h
  obtain ⟨a, ns, rfl, hs, q⟩ := h
  obtain ⟨its, rv, hl, _⟩ := I.tuple hs
  have hi := rv.ints
  obtain ⟨xs, e⟩ := hi.allInts.items
  have hn : numsOf (intItems xs).toList = ns := by rw [← e]; exact hi.numsOf
  rw [nums_intItems] at hn
  have ht : s.heap.IsTuple a its.toArray := hl
  rw [e] at ht
  obtain ⟨o, eo, hcl, n, hd⟩ := id ht
  have lt : a < s.heap.objs.size := Heap.lt_size eo
  rw [Vals.ref1 r]
  refine call_sum_walkG (wpAny_pyIter_tuple ht ?_)
  have ht2 : (s.heap.push { cls := .type "tuple_iterator", data := .fields #[.ref a, .int 0 0] }).IsTuple a (intItems xs) := ⟨o, Heap.get?_push_of_some _ eo, hcl, n, hd⟩
  refine ⟨_, _, _, _, _, _, numAt xs, rfl, Walks.tuple (A := X.A.in1) (I.ok.hd hc) _ a (Nat.ne_of_lt lt) (intItems xs), ⟨⟨_, Heap.get?_push_size _ rfl, rfl, rfl⟩, ht2⟩, fun b hb => ?_, (fun _ _ => intItems_at), fun h' tk t' hk => ?_⟩
  · show b < (s.heap.push _).objs.size
    rw [Heap.size_push]
    rcases List.mem_cons.mp hb with z | z
    · rw [z]; exact Nat.lt_succ_self _
    · rw [List.mem_singleton.mp z]; exact Nat.lt_succ_of_lt lt
  · have k : ∀ b o, s.heap.get? b = some o → h'.get? b = some o := fun b o z =>
      hk b o (fun m => absurd (Heap.lt_size z) (by rw [List.mem_singleton.mp m]; exact Nat.lt_irrefl _)) (Heap.get?_push_of_some _ z)
    refine ⟨.int ns.sum, H, I.kept k, ⟨t', ?_⟩, q⟩
    have hz : (intItems xs).size = xs.size := by simp [intItems]
    rw [hz, preSum_eq, List.take_of_length_le (by simp), hn]
/-! ### a comprehension that maps the items of a tuple -/
theorem wipe1 {σ : L2.St} {i : Nat} {x : Option V} : wipe ((wipe σ [i]).set i x) [i] = wipe σ [i] := by
  show ((σ.set i none).set i x).set i none = σ.set i none
  rw [List.set_set, List.set_set]
theorem lc_mapT {K : PySem.W.Frag} {a : Addr} {xs ys : List V} {te : TE} {i : Nat} {σ : L2.St} {H1 : Hp} {D : Addr} {Qd : Hp → Prop} (hD : H1 D = none) (hs : SqT K H1 a xs) (hl : xs.length = ys.length) (hz : ys.length ≤ 100000)
    (step : ∀ (j : Nat) (x y : V), xs[j]? = some x → ys[j]? = some y → ∀ H, Ex H1 H → ∀ Q : VK, (∀ H', Ex H H' → Q y H') → te ((wipe σ [i]).set i (some x)) H Q)
    (done : ∀ H, Ex H1 H → H D = some (.lst ys) → Qd H) :
    ∃ W : Nat → Nat → Hp → Prop, (∃ m, W 0 m (upd H1 D (.lst []))) ∧ ∀ j m H, W j m H →
      ((Itt K a).stop j H ∧ Qd H) ∨ ((Itt K a).go j H ∧ ∃ Nx : Hp → Prop, (∀ H', Nx H' → ∃ m', m' < m ∧ W (j + 1) m' H') ∧ ∀ x H', (Itt K a).yld j H x H' → gName i x (wipe σ [i]) H' fun σ2 H2 => wipe σ2 [i] = wipe σ [i] ∧ tYes σ2 H2 fun b H3 =>
        if b = true then te σ2 H3 fun y H4 => ∃ acc, H4 D = some (.lst acc) ∧ acc.length < sizeLine ∧ Nx (upd H4 D (.lst (acc ++ [y]))) else Nx H3) := by
  refine lc_tup (xs := xs) (fun j H => Ex H1 H ∧ H D = some (.lst (ys.take j))) ⟨Ex.new hD, upd_same⟩ (fun j H _ p => ex_t p.1 hs) (fun j x H hx p => ?_) (fun H p => ?_)
  · obtain ⟨p1, p2⟩ := p
    have hj : j < xs.length := (List.getElem?_eq_some_iff.mp hx).1
    have hj2 : j < ys.length := by omega
    have hy : ys[j]? = some ys[j] := List.getElem?_eq_getElem hj2
    refine ⟨wipe1, ?_⟩
    show te ((wipe σ [i]).set i (some x)) H _
    refine step j x _ hx hy H p1 _ fun H' e => ⟨_, e D _ p2, sz_lt (by rw [List.length_take]; omega), ?_, ?_⟩
    · exact (p1.trans e).mut hD
    · rw [upd_same, List.take_add_one, hy]
      rfl
  · refine done H p.1 ?_
    rw [p.2, List.take_of_length_le (by omega)]
/-! ### are_lines -/
section
variable {P : Program} {w : World} {K : PySem.W.Frag} {mg : Str → Option Value} {base : Heap}
def spD (K : PySem.W.Frag) (g : D → Bool) : Sp := fun vs H Q _ => ∃ (v : V) (d : D), vs = [v] ∧ Dp K H v d ∧ ∀ H', Ex H H' → Q (.bl (g d)) H'
theorem scLines : FnScope ["thing", "many"] ["thing"] (defScope sAreLines) := ⟨rfl, rfl, rfl, by decide +kernel, rfl, by decide +kernel, by decide +kernel⟩
theorem linesOk_len {ds : List D} (h : (decide (1 ≤ ds.length) && decide (ds.length ≤ 3)) = false) : linesOk (.tuple ds) = false := by
  show ((decide (1 ≤ ds.length) && decide (ds.length ≤ 3)) && _) = false
  rw [h, Bool.false_and]
theorem linesOk_go {ds : List D} (h1 : 1 ≤ ds.length) (h2 : ds.length ≤ 3) : linesOk (.tuple ds) = (ds.all (isNum 1 3) && decide (sumD ds ≤ 4)) := by
  show ((decide (1 ≤ ds.length) && decide (ds.length ≤ 3)) && _) = _
  rw [decide_eq_true h1, decide_eq_true h2]
  rfl
theorem all_map {α : Type} (l : List α) (g : α → Bool) : (l.map g).all id = l.all g := by
  induction l with
  | nil => rfl
  | cons a l ih => rw [List.map_cons, List.all_cons, List.all_cons, ih]; rfl
theorem ok_lines {f fN : Addr} {fd fdN : FuncData} (F : Fun K "are_lines" "are_lines" sAreLines f fd) (B : Blt mg) (FN : Fun K "is_number" "is_number" sIsNumber fN fdN) (gN : mg "is_number" = some (.ref fN))
    (bN : Binds K fdN ["thing", "low", "high"] []) (mL : ∃ t, mg "MOST_LINES" = some (.int 3 t)) (mP : ∃ t, mg "MOST_PARTS" = some (.int 4 t)) : FnOk P w K mg base CX0 2 f fd ["thing"] (spD K linesOk) := by
  have GN : FnOk P w K mg base CX0 1 fN fdN ["thing", "low", "high"] (spNum K) := ok_num FN B
  obtain ⟨tL, mL⟩ := mL
  obtain ⟨tP, mP⟩ := mP
  refine F.ok scLines (fun vs H Q E h => ?_) (fun cdv A outer s H vs Q E hr h => ?_)
  · obtain ⟨v, d, rfl, _⟩ := h
    rfl
  · obtain ⟨v, d, rfl, hd, q⟩ := h
    refine ⟨_, pss_cons (ps_if (PW.pt (pw_or (pt_not (pt_val (pe_callB call_isi (by rfl) B.isi (by decide +kernel) (pa_cons (pv 0) (pa_cons (pe_bltn (v := .ty "tuple") (by rfl) B.tuple (by decide +kernel) rfl) pa_nil)))))
        (pw_or1 (pt_not (pt_chain op_le op_le pe_int (pe_callB call_len_seq (by rfl) B.len PySem.boot_len (pa_cons (pv 0) pa_nil)) (pe_glob (v := .int 3) (by rfl) mL ⟨_, rfl⟩))))))
        (pss_one (ps_ret pe_bl)) pss_nil)
      (pss_one (ps_ret (pe_and (pe_callB (cr_all rfl) (by rfl) B.all (by decide +kernel) (pa_cons
          (pe_lc (own := [("many", 1)]) (g := gName 1) (tt := tYes) rfl scLines.nd (pi_tup (pv 0)) (blkOk_by (own := [("many", 1)]) (N := ["thing", "many"]) (sc := defScope sAreLines) (by decide +kernel))
            (fun _ _ _ _ _ => pg_name (i := 1) scLines.nd rfl (Or.inl rfl)) (fun _ _ _ _ _ => pts_nil)
            (fun _ _ _ _ _ => pe_call GN hr rfl gN FN.kp bN .nil pass0 (pa_cons (pv 1) (pa_cons pe_int (pa_cons pe_int pa_nil))))) pa_nil))
        (pe_one (pe_cmpR op_le (pe_callB (cr_sumT rfl) (by rfl) B.sum (by decide +kernel) (pa_cons (pv 0) pa_nil)) (pe_glob (v := .int 4) (by rfl) mP ⟨_, rfl⟩) (nomark _)))))), ?_⟩
    refine ⟨_, rfl, v, _, _, _, _, rfl, .ty "tuple", dp_ty hd, kit_ty (kit_tup d), _, rfl, ?_⟩
    cases d with
    | none => exact iteT (iteT (q H (Ex.refl H)))
    | bool b => exact iteT (iteT (q H (Ex.refl H)))
    | int b => exact iteT (iteT (q H (Ex.refl H)))
    | str b => exact iteT (iteT (q H (Ex.refl H)))
    | list b => exact iteT (iteT (q H (Ex.refl H)))
    | dict b => exact iteT (iteT (q H (Ex.refl H)))
    | tuple ds =>
      cases hd with
      | @tup a xs ds hs ha =>
      have hl := dps_len ha
      refine iteF ⟨_, rfl, a, xs, rfl, .inr hs, _, _, rfl, rfl, _, rfl, ite2 (fun c1 => ?_) (fun c1 => ?_)⟩
      · have h1 : 1 ≤ ds.length := by
          have z : (1 : Int) ≤ (xs.length : Int) := of_decide_eq_true c1
          omega
        refine ⟨_, _, rfl, rfl, _, rfl, ite2 (fun c2 => ?_) (fun c2 => ?_)⟩
        · have h2 : linesOk (.tuple ds) = false := linesOk_len (by
            have z : ¬ ((xs.length : Int) ≤ 3) := by simpa using c2
            rw [decide_eq_false (show ¬ ds.length ≤ 3 by omega), Bool.and_false])
          have q' := q H (Ex.refl H)
          rw [h2] at q'
          exact q'
        · have h3 : ds.length ≤ 3 := by
            have z : ((xs.length : Int) ≤ 3) := by simpa using c2
            omega
          have e := linesOk_go h1 h3
          rw [e] at q
          refine ⟨_, rfl, a, rfl, ⟨_, hs⟩, fun D hD => lc_mapT (ys := (ds.map (isNum 1 3)).map V.bl) hD hs (by rw [List.length_map, List.length_map]; exact hl) (by rw [List.length_map, List.length_map]; omega) (fun j x y hx hy H' e' Q' k => ?_) (fun H' e' hL => ?_)⟩
          · obtain ⟨d, hd, dp⟩ := dps_at ha hx
            rw [List.getElem?_map, List.getElem?_map, hd] at hy
            cases hy
            exact ⟨x, rfl, x, d, 1, 3, rfl, dp_ex e' dp, k _ (Ex.refl _)⟩
          · refine ⟨D, ds.map (isNum 1 3), rfl, SqL.of hL, _, rfl, ?_⟩
            rw [all_map]
            refine ite2 (fun ca => ?_) (fun ca => ?_)
            · have ei := dps_ints ha ca
              rw [ca, Bool.true_and] at q
              have hs' := ex_t e' hs
              rw [ei] at hs'
              exact ⟨_, rfl, a, _, rfl, hs', _, _, rfl, rfl, q H' e'⟩
            · rw [Bool.eq_false_iff.mpr ca, Bool.false_and] at q
              exact q H' e'
      · have h2 : linesOk (.tuple ds) = false := linesOk_len (by
          have z : ¬ ((1 : Int) ≤ (xs.length : Int)) := by simpa using c1
          rw [decide_eq_false (show ¬ 1 ≤ ds.length by omega), Bool.false_and])
        have q' := q H (Ex.refl H)
        rw [h2] at q'
        exact ⟨_, rfl, iteT q'⟩
end
end K1

/-! K1d: a comprehension over a zip; is_writer. -/
namespace K1
open PySem L2 Evl RZ
theorem wipe2 {σ : L2.St} {i j : Nat} {x y : Option V} (h : i ≠ j) : wipe (((wipe σ [i, j]).set i x).set j y) [i, j] = wipe σ [i, j] := by
  show (((((σ.set j none).set i none).set i x).set j y).set j none).set i none = (σ.set j none).set i none
  rw [List.set_set, List.set_set, List.set_comm _ _ h, List.set_set, List.set_set]
theorem lc_mapZ {K : PySem.W.Frag} {a b : Addr} {xs zs ys : List V} {te : TE} {i j : Nat} {σ : L2.St} {H1 : Hp} {D : Addr} {Qd : Hp → Prop} (hij : i ≠ j) (hD : H1 D = none) (hs : SqT K H1 a xs) (hs2 : SqT K H1 b zs)
    (hl : xs.length = ys.length) (hl2 : zs.length = ys.length) (hz : ys.length ≤ 100000)
    (step : ∀ (k : Nat) (x z y : V), xs[k]? = some x → zs[k]? = some z → ys[k]? = some y → ∀ H, Ex H1 H → ∀ Q : VK, (∀ H', Ex H H' → Q y H') → te (((wipe σ [i, j]).set i (some x)).set j (some z)) H Q)
    (done : ∀ H, Ex H1 H → H D = some (.lst ys) → Qd H) :
    ∃ W : Nat → Nat → Hp → Prop, (∃ m, W 0 m (upd H1 D (.lst []))) ∧ ∀ k m H, W k m H →
      ((ItzT K a b).stop k H ∧ Qd H) ∨ ((ItzT K a b).go k H ∧ ∃ Nx : Hp → Prop, (∀ H', Nx H' → ∃ m', m' < m ∧ W (k + 1) m' H') ∧ ∀ x H', (ItzT K a b).yld k H x H' →
        gTup K 2 (gCons (gName i) (gCons (gName j) gNil)) x (wipe σ [i, j]) H' fun σ2 H2 => wipe σ2 [i, j] = wipe σ [i, j] ∧ tYes σ2 H2 fun b H3 =>
        if b = true then te σ2 H3 fun y H4 => ∃ acc, H4 D = some (.lst acc) ∧ acc.length < sizeLine ∧ Nx (upd H4 D (.lst (acc ++ [y]))) else Nx H3) := by
  refine ⟨fun k m H => m = ys.length - k ∧ k ≤ ys.length ∧ Ex H1 H ∧ H D = some (.lst (ys.take k)), ⟨_, rfl, Nat.zero_le _, Ex.new hD, upd_same⟩, ?_⟩
  rintro k m H ⟨rfl, hk, p1, p2⟩
  have qx := ex_t p1 hs
  have qz := ex_t p1 hs2
  by_cases hlt : k < ys.length
  · have hx : xs[k]? = some xs[k] := List.getElem?_eq_getElem (by omega)
    have hzk : zs[k]? = some zs[k] := List.getElem?_eq_getElem (by omega)
    have hy : ys[k]? = some ys[k] := List.getElem?_eq_getElem hlt
    refine .inr ⟨⟨xs, zs, _, _, qx, qz, hx, hzk⟩, fun H' => Ex H1 H' ∧ H' D = some (.lst (ys.take (k + 1))), fun H' p => ⟨_, by omega, rfl, hlt, p⟩, fun v H' yl => ?_⟩
    obtain ⟨T, x', z', rfl, hT, rfl, f1, f2⟩ := yl
    have ex : Ex H (upd H T (.tup [x', z'])) := Ex.new hT
    refine ⟨T, [x', z'], rfl, SqT.of upd_same, rfl, _, _, rfl, _, _, rfl, rfl, wipe2 hij, ?_⟩
    show te (((wipe σ [i, j]).set i (some x')).set j (some z')) (upd H T (.tup [x', z'])) _
    refine step k x' z' _ (f1 xs qx) (f2 zs qz) hy _ (p1.trans ex) _ fun H2 e => ⟨_, e D _ (ex D _ p2), sz_lt (by rw [List.length_take]; omega), ?_, ?_⟩
    · exact ((p1.trans ex).trans e).mut hD
    · rw [upd_same, List.take_add_one, hy]
      rfl
  · have e : k = ys.length := by omega
    subst e
    rw [List.take_length] at p2
    exact .inl ⟨⟨xs, zs, qx, qz, .inl (by omega)⟩, done H p1 p2⟩
theorem inV_str (z : Str) (ws : List Str) : inV (.str z) (ws.map V.str) = ws.contains z := by
  induction ws with
  | nil => rfl
  | cons w ws ih =>
    show (eqV (.str w) (.str z) || inV (.str z) (ws.map V.str)) = (w :: ws).contains z
    rw [ih, List.contains_cons]
    show (w == z || _) = (z == w || _)
    rw [Bool.beq_comm (a := w)]
theorem flat_strs (ws : List Str) : (ws.map V.str).all flatV = true := by
  induction ws with
  | nil => rfl
  | cons w ws ih => rw [List.map_cons, List.all_cons, ih]; rfl
/-- the module's tuples of words -/
structure Man (K : PySem.W.Frag) (mg : Str → Option Value) : Prop where
  ex : ∃ a m0 m1 m2 : Addr, mg "MANNERS" = some (.ref a) ∧ (∀ H, SqT K H a [.ref m0, .ref m1, .ref m2]) ∧ (∀ H, SqT K H m0 (wPlace.map V.str)) ∧ (∀ H, SqT K H m1 (wKeep.map V.str)) ∧ (∀ H, SqT K H m2 (wOpen.map V.str))
abbrev tWord (K : PySem.W.Frag) (i j : Nat) : TE := tAndV (tCB (rIsi K) (tCons (tVar i) (tCons (tC (.ty "str")) tNil))) (tOp (rIn K false) (tVar i) (tVar j))
/-- the reading of: isinstance(word, str) and word in some (word in slot i, some in slot j) -/
theorem r_word {K : PySem.W.Frag} {σ : L2.St} {H : Hp} {i j : Nat} {v : V} {d : D} {m : Addr} {ws : List Str} {Q : VK} (hi : σ[i]? = some (some v)) (hj : σ[j]? = some (some (.ref m))) (hd : Dp K H v d) (hm : SqT K H m (ws.map V.str)) (q : Q (.bl (wordIn ws d)) H) :
    tWord K i j σ H Q := by
  refine ⟨v, hi, v, _, _, _, _, rfl, .ty "str", dp_ty hd, kit_ty (kit_str d), _, rfl, ?_⟩
  cases d with
  | str z =>
    cases hd
    refine iteT ⟨_, hi, _, hj, m, _, rfl, .inr hm, rfl, flat_strs ws, ?_⟩
    show Q (.bl (inV (.str z) (ws.map V.str))) H
    rw [inV_str]
    exact q
  | none => exact iteF q
  | bool _ => exact iteF q
  | int _ => exact iteF q
  | list _ => exact iteF q
  | tuple _ => exact iteF q
  | dict _ => exact iteF q
theorem writerOk_len {ds : List D} (h : ds.length ≠ 4) : writerOk (.tuple ds) = false := by
  match ds, h with
  | [], _ => rfl
  | [_], _ => rfl
  | [_, _], _ => rfl
  | [_, _, _], _ => rfl
  | [_, _, _, _], h => exact absurd rfl h
  | _ :: _ :: _ :: _ :: _ :: _, _ => rfl
theorem dps4 {K : PySem.W.Frag} {H : Hp} {vs : List V} {ds : List D} (h : vs.length = 4) (a : DpAll K H vs ds) :
    ∃ v0 v1 v2 v3 d0 d1 d2 d3, vs = [v0, v1, v2, v3] ∧ ds = [d0, d1, d2, d3] ∧ Dp K H v0 d0 ∧ Dp K H v1 d1 ∧ Dp K H v2 d2 ∧ Dp K H v3 d3 := by
  match vs, h, a with
  | [v0, v1, v2, v3], _, .cons e0 (.cons e1 (.cons e2 (.cons e3 .nil))) => exact ⟨v0, v1, v2, v3, _, _, _, _, rfl, rfl, e0, e1, e2, e3⟩
theorem ix1_ne {n d : Nat} (h : n ≠ 0) : ¬ HT.sIx n d (some 1) = 0 := by
  have e : HT.sIx n d (some ((1 : Nat) : Int)) = min 1 n := HT.sIx_nat n d 1
  intro z
  have z2 : min 1 n = 0 := e.symm.trans z
  omega
theorem cut1 {v0 : V} {vs : List V} : cutV (v0 :: vs) (some 1) none = vs := by
  have e : HT.sIx (v0 :: vs).length 0 (some ((1 : Nat) : Int)) = min 1 (v0 :: vs).length := HT.sIx_nat _ _ 1
  have e2 : HT.sIx (v0 :: vs).length 0 (some 1) = 1 := e.trans (by rw [List.length_cons]; omega)
  unfold cutV
  rw [e2, HT.sIx_none, List.drop_one, List.tail_cons, List.length_cons, Nat.add_sub_cancel, List.take_length]
theorem ne_at {P : Prop} {H : Hp} {a p : Addr} {o : HO} (h : H a = some o) (n : H p = none) : a ≠ p := ne_of_none h n
section
variable {P : Program} {w : World} {K : PySem.W.Frag} {mg : Str → Option Value} {base : Heap}
theorem scWriter : FnScope ["thing", "word", "some"] ["thing"] (defScope sIsWriter) := ⟨rfl, rfl, rfl, by decide +kernel, rfl, by decide +kernel, by decide +kernel⟩
theorem ok_writer {f fL : Addr} {fd fdL : FuncData} (F : Fun K "is_writer" "is_writer" sIsWriter f fd) (B : Blt mg) (GL : FnOk P w K mg base CX0 2 fL fdL ["thing"] (spD K linesOk)) (kL : PySem.W.keepIn K (.ref fL) = true) (gL : mg "are_lines" = some (.ref fL))
    (bL : Binds K fdL ["thing"] []) (M : Man K mg) : FnOk P w K mg base CX0 3 f fd ["thing"] (spD K writerOk) := by
  obtain ⟨aM, m0, m1, m2, gM, sM, s0, s1, s2⟩ := M.ex
  refine F.ok scWriter (fun vs H Q E h => ?_) (fun cdv A outer s H vs Q E hr h => ?_)
  · obtain ⟨v, d, rfl, _⟩ := h
    rfl
  · obtain ⟨v, d, rfl, hd, q⟩ := h
    refine ⟨_, pss_cons (ps_if (PW.pt (pw_or (pt_not (pt_val (pe_callB call_isi (by rfl) B.isi (by decide +kernel) (pa_cons (pv 0) (pa_cons (pe_bltn (v := .ty "tuple") (by rfl) B.tuple (by decide +kernel) rfl) pa_nil)))))
        (pw_or (pt_cmpR op_ne (pe_callB call_len_seq (by rfl) B.len PySem.boot_len (pa_cons (pv 0) pa_nil)) pe_int (nomark _))
          (pw_or1 (pt_not (pt_val (pe_call GL hr rfl gL kL bL .nil pass0 (pa_cons (pe_ix ix_tup (pv 0) pe_int (fun _ _ => rfl)) pa_nil))))))))
        (pss_one (ps_ret pe_bl)) pss_nil)
      (pss_one (ps_ret (pe_callB (cr_all rfl) (by rfl) B.all (by decide +kernel) (pa_cons
          (pe_lc (own := [("word", 1), ("some", 2)]) (g := gTup K 2 (gCons (gName 1) (gCons (gName 2) gNil))) (tt := tYes) (te := tWord K 1 2) rfl scWriter.nd
            (pi_zipA (by rfl) B.zip (pa_cons (pe_slice sl_tupA (pv 0) (po_some pe_int) po_none) (pa_cons (pe_glob (v := .ref aM) (by rfl) gM rfl) pa_nil)))
            (blkOk_by (own := [("word", 1), ("some", 2)]) (N := ["thing", "word", "some"]) (sc := defScope sIsWriter) (by decide +kernel))
            (fun _ _ _ _ _ => pg_tup rfl (pgs_cons (pg_name (i := 1) scWriter.nd rfl (Or.inl rfl)) (pgs_cons (pg_name (i := 2) scWriter.nd rfl (Or.inl rfl)) pgs_nil))) (fun _ _ _ _ _ => pts_nil)
            (fun _ _ _ _ _ => pe_and (pe_callB call_isi (by rfl) B.isi bo_isi (pa_cons (pv 1) (pa_cons (pe_bltn (v := .ty "str") (by rfl) B.str bo_str rfl) pa_nil)))
              (pe_one (pe_cmpR op_in_seq (pv 1) (pv 2) (by rfl))))) pa_nil)))), ?_⟩
    refine ⟨_, rfl, v, _, _, _, _, rfl, .ty "tuple", dp_ty hd, kit_ty (kit_tup d), _, rfl, ?_⟩
    cases d with
    | none => exact iteT (iteT (q H (Ex.refl H)))
    | bool b => exact iteT (iteT (q H (Ex.refl H)))
    | int b => exact iteT (iteT (q H (Ex.refl H)))
    | str b => exact iteT (iteT (q H (Ex.refl H)))
    | list b => exact iteT (iteT (q H (Ex.refl H)))
    | dict b => exact iteT (iteT (q H (Ex.refl H)))
    | tuple ds =>
      cases hd with
      | @tup a xs ds hs ha =>
      have hl := dps_len ha
      refine iteF ⟨_, rfl, a, xs, rfl, .inr hs, rfl, _, rfl, ite2 (fun c1 => ?_) (fun c1 => ?_)⟩
      · have h4 : ds.length ≠ 4 := by
          have z : ¬ ((xs.length : Int) = 4) := by simpa using c1
          omega
        have q' := q H (Ex.refl H)
        rw [writerOk_len h4] at q'
        exact q'
      · have h4 : xs.length = 4 := by
          have z : ((xs.length : Int) = 4) := by simpa using c1
          omega
        obtain ⟨v0, v1, v2, v3, d0, d1, d2, d3, rfl, rfl, e0, e1, e2, e3⟩ := dps4 h4 ha
        refine ⟨_, rfl, a, _, _, v0, rfl, rfl, hs, rfl, v0, d0, rfl, e0, fun H1 x1 => ⟨_, rfl, ite2 (fun c2 => ?_) (fun c2 => ?_)⟩⟩
        · have e : writerOk (.tuple [d0, d1, d2, d3]) = false := by
            show (linesOk d0 && _) = false
            rw [show linesOk d0 = false by simpa using c2, Bool.false_and]
          have q' := q H1 x1
          rw [e] at q'
          exact q'
        · have e : writerOk (.tuple [d0, d1, d2, d3]) = ([wordIn wPlace d1, wordIn wKeep d2, wordIn wOpen d3] : List Bool).all id := by
            show (linesOk d0 && _) = _
            rw [show linesOk d0 = true by simpa using c2, Bool.true_and]
            show _ = (wordIn wPlace d1 && (wordIn wKeep d2 && (wordIn wOpen d3 && true)))
            rw [Bool.and_true]
          rw [e] at q
          refine ⟨_, rfl, _, rfl, a, [v0, v1, v2, v3], rfl, ex_t x1 hs, fun z => absurd z.1 (ix1_ne (Nat.succ_ne_zero 3)), fun _ p hp => ?_⟩
          rw [cut1]
          refine ⟨p, aM, [v1, v2, v3], _, rfl, .inr ⟨SqT.of upd_same, sM _, fun D hD => ?_⟩⟩
          have x2 : Ex H (upd H1 p (.tup [v1, v2, v3])) := x1.trans (Ex.new hp)
          refine lc_mapZ (ys := ([wordIn wPlace d1, wordIn wKeep d2, wordIn wOpen d3] : List Bool).map V.bl) (by decide) hD (SqT.of upd_same) (sM _) rfl rfl (show 3 ≤ 100000 by decide) (fun k x z y hx hz hy H' e' Q' kk => ?_) (fun H' e' hL => ?_)
          · have x3 := x2.trans e'
            obtain ⟨d, m, ws, rfl, ed, sm, rfl⟩ : ∃ d m ws, z = .ref m ∧ Dp K H x d ∧ (∀ H, SqT K H m (ws.map V.str)) ∧ y = .bl (wordIn ws d) := by
              match k, hx, hz, hy with
              | 0, hx, hz, hy =>
                cases hx; cases hz; cases hy
                exact ⟨_, _, _, rfl, e1, s0, rfl⟩
              | 1, hx, hz, hy =>
                cases hx; cases hz; cases hy
                exact ⟨_, _, _, rfl, e2, s1, rfl⟩
              | 2, hx, hz, hy =>
                cases hx; cases hz; cases hy
                exact ⟨_, _, _, rfl, e3, s2, rfl⟩
              | k + 3, hx, _, _ => cases hx
            exact r_word rfl rfl (dp_ex x3 ed) (sm _) (kk _ (Ex.refl _))
          · exact ⟨D, _, rfl, SqL.of hL, q H' (x2.trans e')⟩
end
end K1

/-! K1e: are_writers, is_rule. -/
namespace K1
open PySem L2 Evl RZ
theorem writersOk_len {ds : List D} (h : (decide (1 ≤ ds.length) && decide (ds.length ≤ 3)) = false) : writersOk (.tuple ds) = false := by
  show ((decide (1 ≤ ds.length) && decide (ds.length ≤ 3)) && _) = false
  rw [h, Bool.false_and]
theorem writersOk_go {ds : List D} (h1 : 1 ≤ ds.length) (h2 : ds.length ≤ 3) : writersOk (.tuple ds) = (ds.all writerOk && decide ((ds.map partsOf).sum ≤ 6)) := by
  show ((decide (1 ≤ ds.length) && decide (ds.length ≤ 3)) && _) = _
  rw [decide_eq_true h1, decide_eq_true h2]
  rfl
theorem linesOk_ints {K : PySem.W.Frag} {H : Hp} {v : V} {d : D} (h : linesOk d = true) (e : Dp K H v d) : ∃ (a : Addr) (ls : List D), v = .ref a ∧ d = .tuple ls ∧ SqT K H a ((ls.map intOf).map V.int) := by
  cases e with
  | @tup a xs ds hs ha =>
    have h' : ((decide (1 ≤ ds.length) && decide (ds.length ≤ 3)) && (ds.all (isNum 1 3) && decide (sumD ds ≤ 4))) = true := h
    simp only [Bool.and_eq_true] at h'
    rw [dps_ints ha h'.2.1] at hs
    exact ⟨a, ds, rfl, rfl, hs⟩
  | _ => exact absurd h Bool.false_ne_true
theorem writerOk_first {K : PySem.W.Frag} {H : Hp} {v : V} {d : D} (h : writerOk d = true) (e : Dp K H v d) :
    ∃ (a a0 : Addr) (xs : List V) (ls : List D), v = .ref a ∧ SqT K H a (.ref a0 :: xs) ∧ SqT K H a0 ((ls.map intOf).map V.int) ∧ partsOf d = sumD ls := by
  cases e with
  | @tup a xs ds hs ha =>
    by_cases h4 : ds.length = 4
    · obtain ⟨v0, v1, v2, v3, d0, d1, d2, d3, rfl, rfl, e0, e1, e2, e3⟩ := dps4 ((dps_len ha).trans h4) ha
      have h' : (linesOk d0 && (wordIn wPlace d1 && (wordIn wKeep d2 && wordIn wOpen d3))) = true := h
      rw [Bool.and_eq_true] at h'
      obtain ⟨a0, ls, rfl, rfl, s0⟩ := linesOk_ints h'.1 e0
      exact ⟨a, a0, _, ls, rfl, hs, s0, rfl⟩
    · rw [writerOk_len h4] at h
      exact absurd h Bool.false_ne_true
  | _ => exact absurd h Bool.false_ne_true
theorem at0 {v : V} {r : List V} : atI (v :: r) 0 = some v := atI_nat (xs := v :: r) (j := 0) rfl
/-- the module's dict of rules -/
structure Rul (K : PySem.W.Frag) (w : World) (mg : Str → Option Value) : Prop where
  ex : ∃ a r0 r1 : Addr, mg "RULES" = some (.ref a) ∧ KDct K w a "writes" (.ref r0) ∧ KDct K w a "falls" (.ref r1) ∧ (∀ H, SqT K H r0 (rWrites.map V.str)) ∧ (∀ H, SqT K H r1 (rFalls.map V.str))
def spRule (K : PySem.W.Frag) : Sp := fun vs H Q _ => ∃ (name : Str) (v : V) (d : D), vs = [.str name, v] ∧ (name = "writes" ∨ name = "before" ∨ name = "falls") ∧ Dp K H v d ∧ Q (.bl (ruleOk name d)) H
theorem ruleOk_writes (d : D) : ruleOk "writes" d = wordIn rWrites d := by
  unfold ruleOk
  rw [if_neg (by decide +kernel), if_pos rfl]
theorem ruleOk_before (d : D) : ruleOk "before" d = isNum 0 2 d := by
  unfold ruleOk
  rw [if_pos rfl]
theorem ruleOk_falls (d : D) : ruleOk "falls" d = wordIn rFalls d := by
  unfold ruleOk
  rw [if_neg (by decide +kernel), if_neg (by decide +kernel)]
section
variable {P : Program} {w : World} {K : PySem.W.Frag} {mg : Str → Option Value} {base : Heap}
theorem scWriters : FnScope ["thing", "writer"] ["thing"] (defScope sAreWriters) := ⟨rfl, rfl, rfl, by decide +kernel, rfl, by decide +kernel, by decide +kernel⟩
theorem ok_writers {f fW : Addr} {fd fdW : FuncData} (F : Fun K "are_writers" "are_writers" sAreWriters f fd) (B : Blt mg) (GW : FnOk P w K mg base CX0 3 fW fdW ["thing"] (spD K writerOk)) (kW : PySem.W.keepIn K (.ref fW) = true) (gW : mg "is_writer" = some (.ref fW))
    (bW : Binds K fdW ["thing"] []) (mL : ∃ t, mg "MOST_WRITERS" = some (.int 3 t)) (mP : ∃ t, mg "MOST_TOGETHER" = some (.int 6 t)) : FnOk P w K mg base CX0 4 f fd ["thing"] (spD K writersOk) := by
  obtain ⟨tL, mL⟩ := mL
  obtain ⟨tP, mP⟩ := mP
  refine F.ok scWriters (fun vs H Q E h => ?_) (fun cdv A outer s H vs Q E hr h => ?_)
  · obtain ⟨v, d, rfl, _⟩ := h
    rfl
  · obtain ⟨v, d, rfl, hd, q⟩ := h
    refine ⟨_, pss_cons (ps_if (PW.pt (pw_or (pt_not (pt_val (pe_callB call_isi (by rfl) B.isi bo_isi (pa_cons (pv 0) (pa_cons (pe_bltn (v := .ty "tuple") (by rfl) B.tuple bo_tuple rfl) pa_nil)))))
        (pw_or1 (pt_not (pt_chain op_le op_le pe_int (pe_callB call_len_seq (by rfl) B.len bo_len (pa_cons (pv 0) pa_nil)) (pe_glob (v := .int 3) (by rfl) mL ⟨_, rfl⟩))))))
        (pss_one (ps_ret pe_bl)) pss_nil)
      (pss_one (ps_ret (pe_and (pe_callB (cr_all rfl) (by rfl) B.all bo_all (pa_cons
          (pe_lc (own := [("writer", 1)]) (g := gName 1) (tt := tYes) rfl scWriters.nd (pi_tup (pv 0)) (blkOk_by (own := [("writer", 1)]) (N := ["thing", "writer"]) (sc := defScope sAreWriters) (by decide +kernel))
            (fun _ _ _ _ _ => pg_name (i := 1) scWriters.nd rfl (Or.inl rfl)) (fun _ _ _ _ _ => pts_nil)
            (fun _ _ _ _ _ => pe_call GW hr rfl gW kW bW .nil pass0 (pa_cons (pv 1) pa_nil))) pa_nil))
        (pe_one (pe_cmpR op_le (pe_callB (cr_sum rfl) (by rfl) B.sum bo_sum (pa_cons
          (pe_lc (own := [("writer", 1)]) (g := gName 1) (tt := tYes) (te := tCB (rSumT K) (tCons (tOp (rIxT K) (tVar 1) (tC (.int 0))) tNil)) rfl scWriters.nd (pi_tup (pv 0)) (blkOk_by (own := [("writer", 1)]) (N := ["thing", "writer"]) (sc := defScope sAreWriters) (by decide +kernel))
            (fun _ _ _ _ _ => pg_name (i := 1) scWriters.nd rfl (Or.inl rfl)) (fun _ _ _ _ _ => pts_nil)
            (fun _ _ _ _ _ => pe_callB (cr_sumT rfl) (by rfl) B.sum bo_sum (pa_cons (pe_ix ix_tup (pv 1) pe_int (fun _ _ => rfl)) pa_nil))) pa_nil)) (pe_glob (v := .int 6) (by rfl) mP ⟨_, rfl⟩) (nomark _)))))), ?_⟩
    refine ⟨_, rfl, v, _, _, _, _, rfl, .ty "tuple", dp_ty hd, kit_ty (kit_tup d), _, rfl, ?_⟩
    cases d with
    | none => exact iteT (iteT (q H (Ex.refl H)))
    | bool b => exact iteT (iteT (q H (Ex.refl H)))
    | int b => exact iteT (iteT (q H (Ex.refl H)))
    | str b => exact iteT (iteT (q H (Ex.refl H)))
    | list b => exact iteT (iteT (q H (Ex.refl H)))
    | dict b => exact iteT (iteT (q H (Ex.refl H)))
    | tuple ds =>
      cases hd with
      | @tup a xs ds hs ha =>
      have hl := dps_len ha
      refine iteF ⟨_, rfl, a, xs, rfl, .inr hs, _, _, rfl, rfl, _, rfl, ite2 (fun c1 => ?_) (fun c1 => ?_)⟩
      · have h1 : 1 ≤ ds.length := by
          have z : (1 : Int) ≤ (xs.length : Int) := of_decide_eq_true c1
          omega
        refine ⟨_, _, rfl, rfl, _, rfl, ite2 (fun c2 => ?_) (fun c2 => ?_)⟩
        · have h2 : writersOk (.tuple ds) = false := writersOk_len (by
            have z : ¬ ((xs.length : Int) ≤ 3) := by simpa using c2
            rw [decide_eq_false (show ¬ ds.length ≤ 3 by omega), Bool.and_false])
          have q' := q H (Ex.refl H)
          rw [h2] at q'
          exact q'
        · have h3 : ds.length ≤ 3 := by
            have z : ((xs.length : Int) ≤ 3) := by simpa using c2
            omega
          have e := writersOk_go h1 h3
          rw [e] at q
          refine ⟨_, rfl, a, rfl, ⟨_, hs⟩, fun D hD => lc_mapT (ys := (ds.map writerOk).map V.bl) hD hs (by rw [List.length_map, List.length_map]; exact hl) (by rw [List.length_map, List.length_map]; omega) (fun j x y hx hy H' e' Q' k => ?_) (fun H' e' hL => ?_)⟩
          · obtain ⟨d, hd, dp⟩ := dps_at ha hx
            rw [List.getElem?_map, List.getElem?_map, hd] at hy
            cases hy
            exact ⟨x, rfl, x, d, rfl, dp_ex e' dp, k⟩
          · refine ⟨D, ds.map writerOk, rfl, SqL.of hL, _, rfl, ?_⟩
            rw [all_map]
            refine ite2 (fun ca => ?_) (fun ca => ?_)
            · rw [ca, Bool.true_and] at q
              have ca' := List.all_eq_true.mp ca
              refine ⟨_, rfl, a, rfl, ⟨_, ex_t e' hs⟩, fun D2 hD2 => lc_mapT (ys := (ds.map partsOf).map V.int) hD2 (ex_t e' hs) (by rw [List.length_map, List.length_map]; exact hl) (by rw [List.length_map, List.length_map]; omega) (fun j x y hx hy H2 e2 Q' k => ?_) (fun H2 e2 hL2 => ?_)⟩
              · obtain ⟨d, hd, dp⟩ := dps_at ha hx
                rw [List.getElem?_map, List.getElem?_map, hd] at hy
                cases hy
                obtain ⟨a1, a0, r, ls, rfl, s1, s0, ep⟩ := writerOk_first (ca' d (List.mem_of_getElem? hd)) (dp_ex (e'.trans e2) dp)
                rw [ep] at k
                exact ⟨_, rfl, a1, _, _, _, rfl, rfl, s1, at0, a0, _, rfl, s0, k _ (Ex.refl _)⟩
              · exact ⟨D2, _, rfl, SqL.of hL2, _, _, rfl, rfl, q H2 (e'.trans e2)⟩
            · rw [Bool.eq_false_iff.mpr ca, Bool.false_and] at q
              exact q H' e'
      · have h2 : writersOk (.tuple ds) = false := writersOk_len (by
          have z : ¬ ((1 : Int) ≤ (xs.length : Int)) := by simpa using c1
          rw [decide_eq_false (show ¬ 1 ≤ ds.length by omega), Bool.false_and])
        have q' := q H (Ex.refl H)
        rw [h2] at q'
        exact ⟨_, rfl, iteT q'⟩
theorem scRule : FnScope ["name", "thing"] ["name", "thing"] (defScope sIsRule) := ⟨rfl, rfl, rfl, by decide +kernel, rfl, by decide +kernel, by decide +kernel⟩
theorem ok_rule {f fN : Addr} {fd fdN : FuncData} (F : Fun K "is_rule" "is_rule" sIsRule f fd) (B : Blt mg) (GN : FnOk P w K mg base CX0 1 fN fdN ["thing", "low", "high"] (spNum K)) (kN : PySem.W.keepIn K (.ref fN) = true) (gN : mg "is_number" = some (.ref fN))
    (bN : Binds K fdN ["thing", "low", "high"] []) (mB : ∃ t, mg "MOST_BEFORE" = some (.int 2 t)) (R : Rul K w mg) : FnOk P w K mg base CX0 2 f fd ["name", "thing"] (spRule K) := by
  obtain ⟨tB, mB⟩ := mB
  obtain ⟨aR, r0, r1, gR, k0, k1, s0, s1⟩ := R.ex
  refine F.ok scRule (fun vs H Q E h => ?_) (fun cdv A outer s H vs Q E hr h => ?_)
  · obtain ⟨name, v, d, rfl, _⟩ := h
    rfl
  · obtain ⟨name, v, d, rfl, hn, hd, q⟩ := h
    refine ⟨_, pss_cons (ps_if (pt_cmpR op_eq (pv 0) pe_str (nomark _)) (pss_one (ps_ret (pe_call GN hr rfl gN kN bN .nil pass0 (pa_cons (pv 1) (pa_cons pe_int (pa_cons (pe_glob (v := .int 2) (by rfl) mB ⟨_, rfl⟩) pa_nil)))))) pss_nil)
      (pss_one (ps_ret (pe_and (pe_callB call_isi (by rfl) B.isi bo_isi (pa_cons (pv 1) (pa_cons (pe_bltn (v := .ty "str") (by rfl) B.str bo_str rfl) pa_nil)))
        (pe_one (pe_cmpR op_in_seq (pv 1) (pe_ix ix_kdict (pe_glob (v := .ref aR) (by rfl) gR rfl) (pv 0) (fun _ _ => rfl)) (by rfl)))))), ?_⟩
    rcases hn with rfl | rfl | rfl
    · refine ⟨_, rfl, rfl, _, rfl, ?_⟩
      rw [decide_eq_false (show ¬ (V.str ("writes" : Str) = V.str ("before" : Str)) by decide +kernel)]
      refine iteF ⟨_, rfl, v, _, _, _, _, rfl, .ty "str", dp_ty hd, kit_ty (kit_str d), _, rfl, ?_⟩
      rw [ruleOk_writes] at q
      cases d with
      | str z =>
        cases hd
        refine iteT ⟨_, rfl, _, rfl, aR, _, _, rfl, rfl, k0, r0, _, rfl, .inr (s0 _), rfl, flat_strs _, ?_⟩
        have e := inV_str z rWrites
        have q' : Q (.bl (rWrites.contains z)) H := q
        rw [← e] at q'
        exact q'
      | none => exact iteF q
      | bool _ => exact iteF q
      | int _ => exact iteF q
      | list _ => exact iteF q
      | tuple _ => exact iteF q
      | dict _ => exact iteF q
    · refine ⟨_, rfl, rfl, _, rfl, ?_⟩
      rw [decide_eq_true (show (V.str ("before" : Str) = V.str ("before" : Str)) from rfl)]
      rw [ruleOk_before] at q
      exact iteT ⟨_, rfl, v, d, 0, 2, rfl, hd, q⟩
    · refine ⟨_, rfl, rfl, _, rfl, ?_⟩
      rw [decide_eq_false (show ¬ (V.str ("falls" : Str) = V.str ("before" : Str)) by decide +kernel)]
      refine iteF ⟨_, rfl, v, _, _, _, _, rfl, .ty "str", dp_ty hd, kit_ty (kit_str d), _, rfl, ?_⟩
      rw [ruleOk_falls] at q
      cases d with
      | str z =>
        cases hd
        refine iteT ⟨_, rfl, _, rfl, aR, _, _, rfl, rfl, k1, r1, _, rfl, .inr (s1 _), rfl, flat_strs _, ?_⟩
        have e := inV_str z rFalls
        have q' : Q (.bl (rFalls.contains z)) H := q
        rw [← e] at q'
        exact q'
      | none => exact iteF q
      | bool _ => exact iteF q
      | int _ => exact iteF q
      | list _ => exact iteF q
      | tuple _ => exact iteF q
      | dict _ => exact iteF q
end
end K1

/-! K1f: BadJob, whose __init__ says super().__init__(part): what its making leaves; raising it; its field read in a suite. -/
namespace PySem
namespace BadX
open PySem.W PySem.Calls PyProof.Rows PySem.HandSPX
/-- what the written part says of BadJob (its class at C, its __init__ at fI, the cell at cc, the code object at cda) -/
structure BadTxt (prog : Program) (K : Frag) (mg : Str → Option Value) (C fI cc cda : Addr) : Prop where
  gC : mg "BadJob" = some (.ref C)
  cls : ∃ nm q N bs bm sn sub ab col dd k0 k1 k2 k3 k5, K.lookup C = some (excClassObj nm q C N bs bm true sn sub ab col dd k0 k1 k2 k3 k5 "ValueError.__new__") ∧ refsVE bm = true
  sa : findIn K (.ref C) "__setattr__" = some (some (.builtin "object.__setattr__"))
  ga : findIn K (.ref C) "__getattribute__" = some (some (.builtin "BaseException.__getattribute__"))
  gg : findIn K (.ref C) "__getattr__" = some none
  noN : findIn K (.ref C) "part" = some none
  iC : findIn K (.ref C) "__init__" = some (some (.ref fI))
  tC : typeIn K (.ref fI) = some (.type "function")
  kC : keepIn K (.ref C) = true
  exC : subIn K (.ref C) (.type "BaseException") = some true
  tyC : typeIn K (.ref C) = some (.type "type")
  hdC : hasDictIn K C = true
  sup : ks_superIn K C C "__init__" = some (some (.builtin "ValueError.__init__"))
  subV : subIn K (.ref C) (.type "ValueError") = some true
  mroC : mroIn K C (.ref C) = some true
  opq : nsIn K cStatics "thirdparty.any" = some none
  nosup : mg "super" = none
  cell : ∃ cl cld csl, K.lookup cc = some ⟨cl, cld, .cell (some (.ref C)), csl⟩
  code : ∃ ccl cdd vs ccs file tf, K.lookup cda = some ⟨ccl, cdd, .fields vs, ccs⟩ ∧ vs[2]? = some (.str file tf) ∧ ((prog.main.file : Str) == file) = true
  htop : (prog.main.scope.names.lookup ("super" : Str)).isSome = false
  fn : ∃ (oc : Value) (od : Option Addr) (doc pm : Value) (an : Option Addr) (ct : Value) (osl : Array (Option Value)),
    K.lookup fI = some ⟨oc, od, .func (ksFn "__init__" "BadJob.__init__" (L2.defArgs K1.sBadInit) (L2.defBody K1.sBadInit) (L2.defScope K1.sBadInit) .none .none doc pm an (.ref cda) ct cc), osl⟩ ∧ codeIn K (.ref cda) "BadJob.__init__" = true
/-- what __init__ leaves of a fresh exception at x -/
structure InitEnd (h h' : Heap) (x C dx t1 : Addr) (v : Value) : Prop where
  keep : ∀ b o, b ≠ x → h.get? b = some o → h'.get? b = some o
  obj : h'.get? x = some { cls := .ref C, dict := some dx, data := .fields #[.ref t1, .none, .none, .none, .bool false, .none] }
  dbig : h.objs.size ≤ dx
  dne : dx ≠ x
  ns : h'.Ns1 dx (fun y => if y = "part" then some v else none)
theorem boot_super : bootBuiltins "super" = some (.type "super") := by decide +kernel
section
variable {prog : Program} {w : World} {A : Around} {E : Value → Shared → Prop} {R : Result → Shared → Prop} {s : Shared} {K : Frag} {mg : Str → Option Value} {C fI cc cda : Addr}
/-- the wrapper of ValueError.__init__, called -/
theorem mw_call {h : Heap} {g : Array GenState} {d : Drawn} {tk : Nat} {os : OsState} {u x t0 : Addr} {rest : List Value} {Q : Value → Shared → Prop} {nm q : Str} {N : Addr} {bs bm : List Value} {hdct : Bool} {sn : List Str} {sub : List Value} {ab : Bool} {col : Option Bool} {dd : Option Addr} {k0 k1 k2 k3 k5 : Option Value}
    (hC : h.get? C = some (excClassObj nm q C N bs bm hdct sn sub ab col dd k0 k1 k2 k3 k5 "ValueError.__new__")) (hu : h.get? u = some (kxs_mw "ValueError.__init__" x)) (hx : h.get? x = some (excO C t0)) (hz : rest.length ≤ sizeLine)
    (hq : ∀ h' t1, (∀ b o, b ≠ x → h.get? b = some o → h'.get? b = some o) → h'.get? x = some (excO C t1) → Q .none ⟨h', g, d, tk, os⟩) :
    wpAny (model prog w) A (call (.ref u) rest) Q E ⟨h, g, d, tk, os⟩ := by
  refine wpAny_call (codeAny_of_tree ?_)
  show wpAny _ A.in1 (callAny (.ref u) ⟨rest, []⟩) _ _ _
  simp only [callAny]
  refine wpAny_bind (wpAny_load hu ?_)
  have ty : (Value.type "method-wrapper" == Value.type "method" || Value.type "method-wrapper" == Value.type "builtin_function_or_method" || Value.type "method-wrapper" == Value.type "method-wrapper") = true := by decide
  simp only [kxs_mw, ty, if_true]
  refine KFB.if_so (by decide) ?_
  refine wpAny_bind (check_bound_init F.excBase_ValueError.toExcCallFacts hC hx rfl ?_)
  refine wpAny_bind (wpAny_pure (wpAny_pure ?_))
  refine ⟨plainId_quiet F.excBase_ValueError.init.plain _, codeAny_builtin F.excBase_ValueError.initEntry ?_⟩
  exact exc_init_tree (cls := .ref C) (t0 := t0) (dv := none) (c2 := .none) (c3 := .none) (b4 := .bool false) hx hz fun h' k e _ => hq h' _ k e
theorem bad_init (T : BadTxt prog K mg C fI cc cda) {x t0 : Addr} {v : Value} (X : K.In s.heap) (G : s.heap.Ns mainGlobals mg) (Bt : ∃ mb, s.heap.Ns builtinsNs mb ∧ ∀ x : Str, x ≠ "__name__" → mb x = bootBuiltins x)
    (hlim : s.heap.NoLimit) (hx : s.heap.get? x = some (excO C t0)) (hnx : K.lookup x = none) (hroom : A.depth < recursionLimit)
    (hq : ∀ h' tk dx t1, InitEnd s.heap h' x C dx t1 v → R (.ok (.ret .none)) { s with heap := h', toks := tk }) :
    codeAny (model prog w) A (.call (.ref fI) ⟨[.ref x, v], []⟩) R s := by
  obtain ⟨oc, od, doc, pm, an, ct, osl, ho, hcd⟩ := T.fn
  obtain ⟨nm, q, N, bs, bm, sn, sub, ab, col, dd, k0, k1, k2, k3, k5, hC, hbm⟩ := T.cls
  obtain ⟨ccl, cdd, vs, ccs, file, tf, hco, hvs, hfile⟩ := T.code
  obtain ⟨cl, cld, csl, hcell⟩ := T.cell
  obtain ⟨mb, B1, B2⟩ := Bt
  have hcl : clsIn K C = some { name := nm, bases := bs, mro := .ref C :: bm, ns := N, qualname := q, hasDict := true, slotNames := sn, subclasses := sub, abstract := ab, collection := col, hasDel := false } := by unfold clsIn; rw [hC] <;> rfl
  refine ks_codeAny_call_defAt (fd := ksFn "__init__" "BadJob.__init__" (L2.defArgs K1.sBadInit) (L2.defBody K1.sBadInit) (L2.defScope K1.sBadInit) .none .none doc pm an (.ref cda) ct cc) (body := L2.defBody K1.sBadInit)
    (binds := [("self", .ref x), ("part", v)]) hroom (X _ _ ho) rfl hlim (codeRec_of X hcd) rfl (BindsTo.of_eq (by first | rfl | with_unfolding_all rfl)) (show ∀ x ∈ (L2.defScope K1.sBadInit).names, x.2 ≠ .cell by decide +kernel) (by first | exact locs rfl | decide +kernel) (fun h₁ hns k => ?_) rfl rfl rfl
  have kx : ∀ {b : Addr} {o : Obj}, s.heap.get? b = some o → h₁.get? b = some o := fun {b o} e => k b o e
  have X1 : K.In h₁ := X.keeps k
  refine ks_wpAt_execs_cons (ks_wpAt_Expr_any (ks_wpAt_MethodCall ?_))
  refine ks_wpAt_super_base (env := ksEnv "BadJob.__init__" (L2.defScope K1.sBadInit) s.heap.objs.size fI (.ref cda) cc) (f := fI) (cc := cda) rfl rfl (by decide +kernel) rfl (X1 _ _ ho) rfl rfl rfl (X1 _ _ hco) rfl hvs hfile T.htop ?_
  refine ks_loadName_global rfl rfl (loadGlobal_builtin (env := ksEnv "BadJob.__init__" (L2.defScope K1.sBadInit) s.heap.objs.size fI (.ref cda) cc) (G.keeps k) T.nosup (B1.keeps k) ((B2 _ (by decide +kernel)).trans boot_super) ⟨rfl, ?_⟩)
  refine wpAny_loadName_free rfl rfl rfl ⟨_, X1 _ _ hcell, rfl⟩ ?_
  refine wpAny_loadName_local (v := .ref x) rfl rfl hns (by first | rfl | with_unfolding_all rfl) ?_
  refine ks_wpAny_isType_cls (X1 _ _ hC) rfl ⟨rfl, ?_⟩
  have hx1 := kx hx
  refine ks_wpAny_call_super (X1 _ _ hC) rfl hx1 rfl (fun c => nofun) (looks_mroIn X1 T.mroC) (fun h2 e2 k2 => ?_)
  have X2 : K.In h2 := X1.keeps k2
  have hx2 := k2 _ _ hx1
  have hsup : alongIn K "__init__" (((Value.ref C :: bm).dropWhile (· != .ref C)).drop 1) = some (some (.builtin "ValueError.__init__")) := by
    have e := T.sup
    unfold ks_superIn at e
    rw [hcl] at e
    exact e
  have I2 : InstAt h2 x (excO C t0) C none := ⟨hx2, rfl, rfl, trivial⟩
  have hxC : x ≠ C := fun z => by rw [z, hC] at hnx; cases hnx
  refine kxs_getMethod kxs_ValueError e2 (looks_opaque X2 T.opq) ((looks_clsIn X2 hcl).andThen .now) rfl X2 hsup (I2.type.andThen (looks_subIn X2 T.subV)) hxC (by decide +kernel) ?_
  have k3 : ∀ b o, h2.get? b = some o → (h2.push (kxs_mw "ValueError.__init__" x)).get? b = some o := fun b o e => Heap.get?_push_of_some _ e
  have hns2 : h2.Ns s.heap.objs.size (fun y => ([("self", Value.ref x), ("part", v)] : List (Str × Value)).reverse.lookup y) := hns.keeps k2
  have hns3 := hns2.keeps k3
  have eu := Heap.get?_push_size h2 (o := kxs_mw "ValueError.__init__" x) rfl
  refine kxs_callWith (i := "ValueError.__init__") (x := x) rfl (evalArgs_plain ?_)
  refine Calls.spliced_cons (wpAny_Name (wpAny_loadName_local (v := v) rfl rfl hns3 (by first | rfl | with_unfolding_all rfl) ?_) (by decide +kernel))
  refine Calls.spliced_nil ⟨eu, ?_⟩
  refine mw_call (rest := [v]) (k3 _ _ (X2 _ _ hC)) eu (k3 _ _ hx2) (by show 1 ≤ sizeLine; rw [sizeLine_eq]; decide) fun h4 t1 k4 hx4 => ?_
  have keep : ∀ b o, b ≠ x → s.heap.get? b = some o → h4.get? b = some o := fun b o nb e => k4 b o nb (k3 _ _ (k2 _ _ (k _ _ e)))
  have X4 : K.In h4 := fun b o e => keep b o (fun z => by rw [z, hnx] at e; cases e) (X b o e)
  have hns4 : h4.Ns s.heap.objs.size (fun y => ([("self", Value.ref x), ("part", v)] : List (Str × Value)).reverse.lookup y) := by
    obtain ⟨oL, es, ep, hL, r⟩ := hns3
    exact ⟨oL, es, ep, k4 _ _ (Nat.ne_of_gt (Heap.lt_size hx)) hL, r⟩
  refine wpAt_of_wpAny ?_
  show wpAny _ _ (execs _ _) _ _ _
  refine wpAny_execs_cons (plainObj_wpAny_Assign_Attribute ?_)
  refine wpAny_Name (wpAny_loadName_local (v := v) rfl rfl hns4 (by first | rfl | with_unfolding_all rfl) ?_) (by decide +kernel)
  refine wpAny_Name (wpAny_loadName_local (v := .ref x) rfl rfl hns4 (by first | rfl | with_unfolding_all rfl) ?_) (by decide +kernel)
  refine set_plain X4 (ox := excO C t1) (od := none) ⟨hx4, rfl, rfl, trivial⟩ T.sa ?_
  refine exc_osa X4 hx4 hcl (show refsVE (.ref C :: bm) = true from hbm) rfl T.noN (fun h5 tk5 dx k5' dn dne hx5 hn5 => ?_)
  show wpAny _ _ (execs _ _) _ _ _
  have z : s.heap.objs.size < h4.objs.size := hns4.lt
  exact wpAny_execs_nil (hq h5 tk5 dx t1 ⟨fun b o hb e => k5' b o hb (keep b o hb e), hx5, Nat.le_of_lt (Nat.lt_of_lt_of_le z dn), dne, hn5⟩)
/-- a made BadJob -/
structure BadMade (h h' : Heap) (e C d : Addr) (v : Value) : Prop where
  keep : ∀ b o, h.get? b = some o → h'.get? b = some o
  new : h.objs.size ≤ e
  obj : ∃ oe vs, h'.get? e = some oe ∧ oe.cls = .ref C ∧ oe.dict = some d ∧ oe.data = .fields vs ∧ vs[1]? = some .none
  dbig : h.objs.size ≤ d
  dne : d ≠ e
  ns : h'.Ns1 d (fun y => if y = "part" then some v else none)
theorem bad_made (T : BadTxt prog K mg C fI cc cda) {v : Value} (X : K.In s.heap) (G : s.heap.Ns mainGlobals mg) (Bt : ∃ mb, s.heap.Ns builtinsNs mb ∧ ∀ x : Str, x ≠ "__name__" → mb x = bootBuiltins x)
    (hlim : s.heap.NoLimit) (hroom : A.depth + 1 < recursionLimit) (hq : ∀ h' tk e d, BadMade s.heap h' e C d v → R (.ok (.ret (.ref e))) { s with heap := h', toks := tk }) :
    codeAny (model prog w) A (.call (.ref C) ⟨[v], []⟩) R s := by
  obtain ⟨nm, q, N, bs, bm, sn, sub, ab, col, dd, k0, k1, k2, k3, k5, hC, hbm⟩ := T.cls
  obtain ⟨mb, B1, B2⟩ := Bt
  obtain ⟨hp, g, dr, tk, os⟩ := s
  have k : ∀ b o, hp.get? b = some o → ((hp.push (kdv_tup [v])).push (excO C hp.objs.size)).get? b = some o := fun b o e => Heap.get?_push_of_some _ (Heap.get?_push_of_some _ e)
  have hget : ((hp.push (kdv_tup [v])).push (excO C hp.objs.size)).get? (hp.objs.size + 1) = some (excO C hp.objs.size) := by heap_get
  have hnx : K.lookup (hp.objs.size + 1) = none := by
    cases e : K.lookup (hp.objs.size + 1) with
    | none => rfl
    | some o =>
      have z : hp.get? (hp.objs.size + 1) = some o := X _ _ e
      exact absurd (Nat.lt_of_succ_lt (Heap.lt_size z)) (Nat.lt_irrefl _)
  refine call_own F.excBase_ValueError (fun X => refsVE_contains X bm hbm) (X _ _ hC) (looks_findIn X T.iC) (fun self => bind_fn X self T.tC) (by show 1 ≤ sizeLine; rw [sizeLine_eq]; decide) ?_
  refine bad_init (s := ⟨(hp.push (kdv_tup [v])).push (excO C hp.objs.size), g, dr, tk, os⟩) T (X.keeps k) (G.keeps k) ⟨mb, B1.keeps k, B2⟩ (hlim.keeps k) hget hnx ?_ fun h' tk' dx t1 ⟨k', hx, dn, dne, hns⟩ => ?_
  · show A.depth + 1 < recursionLimit
    exact hroom
  · have old : ∀ b o, hp.get? b = some o → h'.get? b = some o := fun b o e => k' b o (Nat.ne_of_lt (Nat.lt_succ_of_lt (Heap.lt_size e))) (k b o e)
    have z : hp.objs.size + 1 + 1 ≤ dx := by
      have q := dn
      rw [Heap.size_push, Heap.size_push] at q
      exact q
    exact ⟨rfl, hq h' tk' (hp.objs.size + 1) dx ⟨old, Nat.le_succ _, ⟨_, _, hx, rfl, rfl, rfl, rfl⟩, Nat.le_trans (Nat.le_trans (Nat.le_succ _) (Nat.le_succ _)) z, dne, hns⟩⟩
end
end BadX
end PySem
namespace K1
open PySem PySem.Spec PyProof.Rows L2
theorem relO_part {v : V} {v' : Value} (r : RelV v v') (f : Str) : RelO (List.lookup f [(("part" : Str), v)]) (if f = "part" then some v' else none) := by
  by_cases hw : f = "part"
  · subst hw
    rw [if_pos rfl]
    have q : List.lookup ("part" : Str) [(("part" : Str), v)] = some v := by simp [List.lookup]
    rw [q]
    exact r
  · rw [if_neg hw]
    have qw : (f == ("part" : Str)) = false := by simpa using hw
    have q2 : List.lookup f [(("part" : Str), v)] = none := by simp [List.lookup, qw]
    rw [q2]
    trivial
section
variable {X : Cx} {C fI cc cda : Addr}
/-- BadJob(e) -/
def tMkBad (C : Addr) (ta : TA) : L2.St → Hp → XK → Prop := fun σ H Q => ta σ H fun vs H1 => ∃ v, vs = [v] ∧ ∀ d, H1 d = none → Q (.ref C) (some d) (upd H1 d (.xd [(("part" : Str), v)]))
theorem pmk_bad {a : Expr} {ta : TA} {p pos : Pos} {k : Nat} (T : PySem.BadX.BadTxt X.prog X.K X.mg C fI cc cda) (hr : Room k X.A) (ha : PA X [a] ta) (hg : Gl X "BadJob" := by rfl)
    (he : starEach (a :: []) X.env = (false, eval a X.env) :: starEach [] X.env := by rfl) (hpl : (backTo pos (starEach [] X.env)).any (·.1) = false := by rfl) :
    PMk X (.Call (.Name "BadJob" p) [a] [] pos) (tMkBad C ta) := by
  intro pins s σ H Q I h
  refine wpAny_Call_Name_kw (ld_glob I hg T.gC ?_)
  refine PySem.W.callWith_K (h₀ := X.base) I.ok.mod.kin T.kC (thn (ha.run pos pins s σ H _ I h) fun us s1 hh => ?_) he hpl
  obtain ⟨vs, H1, I1, r1, v, ev, q1⟩ := hh
  subst ev
  refine ⟨I1.kIn, ?_⟩
  cases r1 with
  | cons rv rn =>
    rename_i v' us'
    cases rn
    show wpAny _ _ (call (.ref C) [v']) _ _ _
    have hlim := I1.nolimit
    obtain ⟨mb, hb1, hb2⟩ := I1.mod.blt
    have hb1' := hb1.keeps I1.bk
    have hG := I1.mod.glob.keeps I1.bk
    obtain ⟨hp, g, dr, tk, os⟩ := s1
    refine wpAny_call (PySem.BadX.bad_made T I1.kIn hG ⟨mb, hb1', hb2⟩ hlim (by have := hr.dp; omega) fun h' tk' e d M => ?_)
    show MkP X pins σ Q (.ref e) ⟨h', g, dr, tk', os⟩
    obtain ⟨oe, fv, hoe, hc, hd, hdat, h1⟩ := M.obj
    have hns := M.ns
    obtain ⟨G', g1, g2⟩ := restrict h' fun b => decide (b ≠ e)
    have gk : ∀ b, b ≠ e → G'.get? b = h'.get? b := fun b hb => g1 b (decide_eq_true hb)
    have ge : G'.get? e = none := g2 e (by simp)
    have old : ∀ b o, hp.get? b = some o → G'.get? b = some o := fun b o q => (gk b (Nat.ne_of_lt (Nat.lt_of_lt_of_le (Heap.lt_size q) M.new))).trans (M.keep b o q)
    have ob : ObjOk X.prog X.w (upd H1 d (.xd [(("part" : Str), v)])) G' d (.xd [(("part" : Str), v)]) :=
      ⟨_, hns.at (fun o q => (gk d M.dne).trans q), fun f => relO_part rv f⟩
    have J : Inv X pins σ (upd H1 d (.xd [(("part" : Str), v)])) ⟨G', g, dr, tk', os⟩ := I1.laid (t' := tk') old M.dbig ob
    refine ⟨e, oe, fv, ⟨G', g, dr, tk', os⟩, _, .ref C, some d, rfl, J, fun b o q => ?_, ge, hoe, ⟨hc, hd⟩, hdat, h1, ?_, rfl, I1.bare, raises_own T.exC T.tyC, q1 d (I1.hok.fresh M.dbig)⟩
    · by_cases hb : b = e
      · have q' : G'.get? b = some o := q
        rw [hb, ge] at q'; cases q'
      · exact (gk b hb).symm.trans q
    · rw [upd_ne (Ne.symm M.dne)]
      exact I1.hok.fresh M.new
/-- raise BadJob(e) -/
def tRaiseBad (C : Addr) (W : WX) (ta : TA) : TS := fun _ σ H => tMkBad C ta σ H fun cls d H' => W cls d σ H'
theorem ps_raiseBad {a : Expr} {ta : TA} {W : WX} {p pos pos2 : Pos} {k : Nat} (hc : X.calm = true) (T : PySem.BadX.BadTxt X.prog X.K X.mg C fI cc cda) (hr : Room k X.A) (tk : Takes X W) (ha : PA X [a] ta) (hg : Gl X "BadJob" := by rfl)
    (he : starEach (a :: []) X.env = (false, eval a X.env) :: starEach [] X.env := by rfl) (hpl : (backTo pos (starEach [] X.env)).any (·.1) = false := by rfl) :
    PS X (.Raise (some (.Call (.Name "BadJob" p) [a] [] pos)) none pos2) (tRaiseBad C W ta) := ps_raise hc tk (pmk_bad T hr ha hg he hpl)
/-- error.part, error the exception that the suite holds (at a; its class cls, its dict d) -/
def tByPart (C : Addr) (a : Addr) (cls : Value) (d : Option Addr) (te : TE) : TE := fun σ H Q => te σ H fun x H1 => x = .ref a ∧ cls = .ref C ∧ ∃ (dd : Addr) (v : V), d = some dd ∧ H1 dd = some (.xd [(("part" : Str), v)]) ∧ Q v H1
theorem pe_byPart {a : Addr} {oe : Obj} {cls : Value} {d : Option Addr} {pn : List (Addr × Obj)} {e : Expr} {te : TE} {pos : Pos} (T : PySem.BadX.BadTxt X.prog X.K X.mg C fI cc cda) (hz : Zc cls d oe) (hf : ∃ vs, oe.data = .fields vs) (he : PE (X.suite a ((a, oe) :: pn)) e te)
    (hb : attributeBase e "part" X.env (eval e X.env) = eval e X.env := by rfl) :
    PE (X.suite a ((a, oe) :: pn)) (.Attribute e "part" pos) (tByPart C a cls d te) := by
  refine ⟨fun pins s σ H Q I h => ?_⟩
  refine attr_of hb (thn (he.run pins s σ H _ I h) fun u s1 hh => ?_)
  obtain ⟨x, H1, I1, rx, ex, ec, dd, v, ed, ea, q⟩ := hh
  subst ex
  obtain rfl : u = Value.ref a := rx
  subst ec
  subst ed
  obtain ⟨ha, _⟩ := I1.pin (a, oe) (List.mem_append_left _ List.mem_cons_self)
  obtain ⟨vs, hd⟩ := hf
  have hx : ObjOk X.prog X.w H1 s1.heap dd (.xd [(("part" : Str), v)]) := I1.hok dd _ ea
  obtain ⟨mA, hns, hr⟩ := hx
  obtain ⟨od, ho, hl⟩ := lookIn_ns hns
  have l : List.lookup ("part" : Str) [(("part" : Str), v)] = some v := by simp [List.lookup]
  obtain ⟨u, hu, ru⟩ := RelO.some_of (v := v) (o := mA "part") (by rw [← l]; exact hr "part")
  have J : PySem.W.InstAt s1.heap a oe C (some od) := ⟨ha, hz.1, by unfold PySem.W.notCls; rw [hd] <;> rfl, by rw [hz.2]; exact ho⟩
  exact HandSPX.exc_get I1.kIn J T.ga T.gg T.exC (PySem.W.findObj_own T.hdC T.noN rfl (by rw [hl, hu])) (handed_of ru) ⟨v, H1, I1.tok _, ru, q⟩
end
end K1

/-! K1g: Job.__init__. -/
namespace K1
open PySem L2 Evl RZ
/-! ### the fields of a job -/
def jf (w a b c : V) : List (Str × V) := putF "falls" c (putF "before" b (putF "writes" a (putF "writers" w [])))
theorem n_fb : ¬ (("falls" : Str) = "before") := by decide +kernel
theorem n_fr : ¬ (("falls" : Str) = "writes") := by decide +kernel
theorem n_fw : ¬ (("falls" : Str) = "writers") := by decide +kernel
theorem n_bf : ¬ (("before" : Str) = "falls") := by decide +kernel
theorem n_br : ¬ (("before" : Str) = "writes") := by decide +kernel
theorem n_bw : ¬ (("before" : Str) = "writers") := by decide +kernel
theorem n_rf : ¬ (("writes" : Str) = "falls") := by decide +kernel
theorem n_rb : ¬ (("writes" : Str) = "before") := by decide +kernel
theorem n_rw : ¬ (("writes" : Str) = "writers") := by decide +kernel
theorem n_wf : ¬ (("writers" : Str) = "falls") := by decide +kernel
theorem n_wb : ¬ (("writers" : Str) = "before") := by decide +kernel
theorem n_wr : ¬ (("writers" : Str) = "writes") := by decide +kernel
section
variable {w a b c : V}
theorem jf_writers : (jf w a b c).lookup ("writers" : Str) = some w := by
  unfold jf
  rw [lookup_putF, if_neg n_wf, lookup_putF, if_neg n_wb, lookup_putF, if_neg n_wr, lookup_putF, if_pos rfl]
theorem jf_writes : (jf w a b c).lookup ("writes" : Str) = some a := by
  unfold jf
  rw [lookup_putF, if_neg n_rf, lookup_putF, if_neg n_rb, lookup_putF, if_pos rfl]
theorem jf_before : (jf w a b c).lookup ("before" : Str) = some b := by
  unfold jf
  rw [lookup_putF, if_neg n_bf, lookup_putF, if_pos rfl]
theorem jf_falls : (jf w a b c).lookup ("falls" : Str) = some c := by
  unfold jf
  rw [lookup_putF, if_pos rfl]
theorem jf_no {m : Str} (h1 : ¬ m = "falls") (h2 : ¬ m = "before") (h3 : ¬ m = "writes") (h4 : ¬ m = "writers") : (jf w a b c).lookup m = none := by
  unfold jf
  rw [lookup_putF, if_neg h1, lookup_putF, if_neg h2, lookup_putF, if_neg h3, lookup_putF, if_neg h4]
  rfl
theorem jf_len1 : (putF "writers" w []).length < 1000 := by
  have h1 := length_putF "writers" w []
  have h0 : ([] : List (Str × V)).length = 0 := rfl
  omega
theorem jf_len2 : (putF "writes" a (putF "writers" w [])).length < 1000 := by
  have h1 := length_putF "writers" w []
  have h2 := length_putF "writes" a (putF "writers" w [])
  have h0 : ([] : List (Str × V)).length = 0 := rfl
  omega
theorem jf_len3 : (putF "before" b (putF "writes" a (putF "writers" w []))).length < 1000 := by
  have h1 := length_putF "writers" w []
  have h2 := length_putF "writes" a (putF "writers" w [])
  have h3 := length_putF "before" b (putF "writes" a (putF "writers" w []))
  have h0 : ([] : List (Str × V)).length = 0 := rfl
  omega
end
def partNames : List Str := ["writers", "writes", "before", "falls"]
/-- what the written part says of Job -/
structure JobT (K : PySem.W.Frag) (mg : Str → Option Value) (CJ : Addr) : Prop where
  cl : Cls K CJ
  nW : NoAttr K CJ "writers"
  nR : NoAttr K CJ "writes"
  nB : NoAttr K CJ "before"
  nF : NoAttr K CJ "falls"
  gJ : mg "Job" = some (.ref CJ)
structure Par (K : PySem.W.Frag) (mg : Str → Option Value) : Prop where
  ex : ∃ aP : Addr, mg "PARTS" = some (.ref aP) ∧ ∀ H, SqT K H aP (partNames.map V.str)
/-! ### the first bad one -/
section
variable {dw da db dc : D}
theorem fb_w (h : writersOk dw = false) : firstBad dw da db dc = some ("writers" : Str) := if_pos h
theorem fb_a (h0 : writersOk dw = true) (h : ruleOk "writes" da = false) : firstBad dw da db dc = some ("writes" : Str) := by
  unfold firstBad
  rw [h0, if_neg (by decide), if_pos h]
theorem fb_b (h0 : writersOk dw = true) (h1 : ruleOk "writes" da = true) (h : ruleOk "before" db = false) : firstBad dw da db dc = some ("before" : Str) := by
  unfold firstBad
  rw [h0, if_neg (by decide), h1, if_neg (by decide), if_pos h]
theorem fb_c (h0 : writersOk dw = true) (h1 : ruleOk "writes" da = true) (h2 : ruleOk "before" db = true) (h : ruleOk "falls" dc = false) : firstBad dw da db dc = some ("falls" : Str) := by
  unfold firstBad
  rw [h0, if_neg (by decide), h1, if_neg (by decide), h2, if_neg (by decide), if_pos h]
theorem fb_no (h0 : writersOk dw = true) (h1 : ruleOk "writes" da = true) (h2 : ruleOk "before" db = true) (h : ruleOk "falls" dc = true) : firstBad dw da db dc = none := by
  unfold firstBad
  rw [h0, if_neg (by decide), h1, if_neg (by decide), h2, if_neg (by decide), h, if_neg (by decide)]
end
/-- what a rule's turn says: the i-th name, the data there -/
def ruleAt (da db dc : D) (i : Nat) : Bool := match i with
  | 0 => ruleOk "writes" da
  | 1 => ruleOk "before" db
  | _ => ruleOk "falls" dc
section
variable {P : Program} {w : World} {K : PySem.W.Frag} {mg : Str → Option Value} {base : Heap}
def spJob (K : PySem.W.Frag) (CJ CB : Addr) : Sp := fun vs H Q E => ∃ (x dx : Addr) (vw va vb vc : V) (dw da db dc : D), vs = [.ref x, vw, va, vb, vc] ∧ H x = some (.ins CJ dx []) ∧ Dp K H vw dw ∧ Dp K H va da ∧ Dp K H vb db ∧ Dp K H vc dc ∧
  (firstBad dw da db dc = none → ∀ H', (∀ b o, b ≠ x → H b = some o → H' b = some o) → H' x = some (.ins CJ dx (jf vw va vb vc)) → Q .non H') ∧
  (∀ n, firstBad dw da db dc = some n → ∀ dd H', Ex H H' → H' dd = some (.xd [(("part" : Str), V.str n)]) → E (.ref CB) (some dd) H')
def jN : List Str := ["self", "writers", "writes", "before", "falls", "name", "thing"]
def jP : List Str := ["self", "writers", "writes", "before", "falls"]
theorem scInit : FnScope jN jP (defScope sInit) := ⟨rfl, rfl, rfl, by decide +kernel, rfl, by decide +kernel, by decide +kernel⟩
abbrev jKw : List (Str × V) := [("writes", .str "whole"), ("before", .int 0), ("falls", .str "none")]
theorem ok_init {f fW fR CJ CB fI cc cda : Addr} {fd fdW fdR : FuncData} (F : FunD K "__init__" "Job.__init__" (defArgs sInit) (defBody sInit) (defScope sInit) [] jKw f fd) (B : Blt mg) (T : JobT K mg CJ) (TB : PySem.BadX.BadTxt P K mg CB fI cc cda) (PA : Par K mg)
    (GW : FnOk P w K mg base CX0 4 fW fdW ["thing"] (spD K writersOk)) (kW : PySem.W.keepIn K (.ref fW) = true) (gW : mg "are_writers" = some (.ref fW)) (bW : Binds K fdW ["thing"] [])
    (GR : FnOk P w K mg base CX0 2 fR fdR ["name", "thing"] (spRule K)) (kR : PySem.W.keepIn K (.ref fR) = true) (gR : mg "is_rule" = some (.ref fR)) (bR : Binds K fdR ["name", "thing"] []) : FnOk P w K mg base (L2.CX P w) 5 f fd jP (spJob K CJ CB) := by
  obtain ⟨aP, gP, sP⟩ := PA.ex
  refine F.ok scInit (fun vs H Q E h => ?_) (fun cdv A outer s H vs Q E hr h => ?_)
  · obtain ⟨x, dx, vw, va, vb, vc, dw, da, db, dc, rfl, _⟩ := h
    rfl
  · obtain ⟨x, dx, vw, va, vb, vc, dw, da, db, dc, rfl, hx, ew, ea, eb, ec, q, qe⟩ := h
    refine ⟨_, pss_cons (ps_if (pt_not (pt_val (pe_call GW hr rfl gW kW bW .nil pass0 (pa_cons (pv 1) pa_nil))))
        (pss_one (ps_raiseBad rfl TB hr (takes_of rfl rfl rfl rfl) (pa_cons pe_str pa_nil))) pss_nil)
      (pss_cons (ps_for (passes_of rfl) rfl (pi_zipA (by rfl) B.zip (pa_cons (pe_slice sl_tupA (pe_glob (v := .ref aP) (by rfl) gP rfl) (po_some pe_int) po_none) (pa_cons (pe_tup (pa_cons (pv 2) (pa_cons (pv 3) (pa_cons (pv 4) pa_nil)))) pa_nil)))
          (pg_tup rfl (pgs_cons (pg_name (i := 5) scInit.nd rfl (Or.inl rfl)) (pgs_cons (pg_name (i := 6) scInit.nd rfl (Or.inl rfl)) pgs_nil)))
          (pss_one (ps_if (pt_not (pt_val (pe_call GR (hr.mono (by decide)) rfl gR kR bR .nil pass0 (pa_cons (pv 5) (pa_cons (pv 6) pa_nil)))))
            (pss_one (ps_raiseBad rfl TB hr (takes_of rfl rfl rfl rfl) (pa_cons (pv 5) pa_nil))) pss_nil)))
      (pss_cons (ps_fld (pv 0) (pv 1) rfl) (pss_cons (ps_fld (pv 0) (pv 2) rfl) (pss_cons (ps_fld (pv 0) (pv 3) rfl) (pss_one (ps_fld (pv 0) (pv 4) rfl)))))), ?_⟩
    refine ⟨_, rfl, vw, dw, rfl, ew, fun H1 x1 => ⟨_, rfl, ite2 (fun c1 => ?_) (fun c1 => ?_)⟩⟩
    · have h0 : writersOk dw = false := by simpa using c1
      exact ⟨_, rfl, fun d hd => qe _ (fb_w h0) d _ (x1.trans (Ex.new hd)) upd_same⟩
    · have h0 : writersOk dw = true := by simpa using c1
      refine ⟨_, rfl, aP, partNames.map V.str, rfl, sP _, fun z => absurd z.1 (ix1_ne (Nat.succ_ne_zero 3)), fun _ p hp => ?_⟩
      rw [show cutV (partNames.map V.str) (some 1) none = [V.str "writes", V.str "before", V.str "falls"] from cut1]
      refine ⟨_, rfl, _, rfl, _, rfl, (show 3 ≤ sizeLine from by rw [sizeLine_eq]; decide), fun t ht => ?_⟩
      have np : p ≠ t := fun e => by
        rw [← e, upd_same] at ht
        cases ht
      have x2 : Ex H (upd (upd H1 p (.tup [V.str "writes", V.str "before", V.str "falls"])) t (.tup [va, vb, vc])) := (x1.trans (Ex.new hp)).trans (Ex.new ht)
      refine ⟨p, t, [V.str "writes", V.str "before", V.str "falls"], [va, vb, vc], rfl, .inr ⟨SqT.of ((upd_ne np).trans upd_same), SqT.of upd_same, ?_⟩⟩
      refine for_zipT (K := K) (xs := [V.str "writes", V.str "before", V.str "falls"]) (ys := [va, vb, vc]) rfl (fun i σ H' => (∃ n5 n6, σ = [some (.ref x), some vw, some va, some vb, some vc, n5, n6]) ∧ Ex (upd (upd H1 p (.tup [V.str "writes", V.str "before", V.str "falls"])) t (.tup [va, vb, vc])) H' ∧ ∀ j, j < i → ruleAt da db dc j = true)
        ⟨⟨_, _, rfl⟩, Ex.refl _, fun j hj => absurd hj (Nat.not_lt_zero _)⟩ (fun i σ H' ⟨_, e, _⟩ => ⟨ex_t e (SqT.of ((upd_ne np).trans upd_same)), ex_t e (SqT.of upd_same)⟩) ?_ ?_
      · rintro i y z T' σ H' hy hz ⟨⟨n5, n6, rfl⟩, e3, hj⟩ hT
        have x3 := x2.trans e3
        obtain ⟨nm, d, rfl, hn, ed, hok, hbad⟩ : ∃ nm d, y = .str nm ∧ (nm = "writes" ∨ nm = "before" ∨ nm = "falls") ∧ Dp K H z d ∧ ruleOk nm d = ruleAt da db dc i ∧ (ruleAt da db dc i = false → firstBad dw da db dc = some nm) := by
          match i, hy, hz, hj with
          | 0, hy, hz, hj =>
            cases hy; cases hz
            exact ⟨_, da, rfl, .inl rfl, ea, rfl, fun h => fb_a h0 h⟩
          | 1, hy, hz, hj =>
            cases hy; cases hz
            exact ⟨_, db, rfl, .inr (.inl rfl), eb, rfl, fun h => fb_b h0 (hj 0 (by decide)) h⟩
          | 2, hy, hz, hj =>
            cases hy; cases hz
            exact ⟨_, dc, rfl, .inr (.inr rfl), ec, rfl, fun h => fb_c h0 (hj 0 (by decide)) (hj 1 (by decide)) h⟩
          | i + 3, hy, _, _ => cases hy
        have x4 : Ex H' (upd H' T' (.tup [V.str nm, z])) := Ex.new hT
        refine ⟨T', [.str nm, z], rfl, SqT.of upd_same, rfl, _, _, rfl, _, _, rfl, rfl, ?_⟩
        refine ⟨_, rfl, _, rfl, nm, z, d, rfl, hn, dp_ex (x3.trans x4) ed, _, rfl, ite2 (fun c2 => ?_) (fun c2 => ?_)⟩
        · have h2 : ruleOk nm d = false := by simpa using c2
          rw [hok] at h2
          exact ⟨_, rfl, _, rfl, fun d hd => qe _ (hbad h2) d _ ((x3.trans x4).trans (Ex.new hd)) upd_same⟩
        · have h2 : ruleOk nm d = true := by simpa using c2
          rw [hok] at h2
          refine ⟨⟨_, _, rfl⟩, e3.trans x4, fun j hj2 => ?_⟩
          rcases Nat.lt_succ_iff_lt_or_eq.mp hj2 with h | rfl
          · exact hj j h
          · exact h2
      · rintro σ H' ⟨⟨n5, n6, rfl⟩, e3, hj⟩
        have hx' := x2 _ _ hx
        have hx2 := e3 _ _ hx'
        have hf := fb_no (dw := dw) h0 (hj 0 (by decide)) (hj 1 (by decide)) (hj 2 (by decide))
        refine ⟨_, rfl, _, rfl, x, CJ, dx, _, rfl, hx2, T.cl, T.nW, (show 0 < 1000 by decide), ?_⟩
        refine ⟨_, rfl, _, rfl, x, CJ, dx, _, rfl, upd_same, T.cl, T.nR, jf_len1, ?_⟩
        refine ⟨_, rfl, _, rfl, x, CJ, dx, _, rfl, upd_same, T.cl, T.nB, jf_len2, ?_⟩
        refine ⟨_, rfl, _, rfl, x, CJ, dx, _, rfl, upd_same, T.cl, T.nF, jf_len3, ?_⟩
        refine q hf _ (fun b o nb e => ?_) upd_same
        rw [upd_ne nb, upd_ne nb, upd_ne nb, upd_ne nb]
        exact e3 _ _ (x2 _ _ e)
end
end K1

/-! K1h: dict(zip(t, u)) of two tuples. -/
namespace PySem
namespace ZTD
open Sem (wp)
open RZ
section
variable {prog : Program} {w : World} {A : Around} {E : Value → Shared → Prop} {s : Shared} {z TI TO T j1 j2 t1 t2 : Addr} {g : Bool} {oT : Obj} {m1 m2 : Nat} {us vs : Array Value}
/-- the walk of both tuples stands at m1, m2 -/
structure Both (h : Heap) (TI j1 j2 t1 t2 : Addr) (m1 m2 : Nat) (us vs : Array Value) : Prop where
  pr : IsPair h TI (.ref j1) (.ref j2)
  i1 : h.IsTupleIter j1 t1 m1
  i2 : h.IsTupleIter j2 t2 m2
  s1 : h.IsTuple t1 us
  s2 : h.IsTuple t2 vs
theorem held_item {x y : Value} {Q : Value → Shared → Prop} (D : ZipApart z TI TO j1 j2 t1 t2) (hz : IsZipHeld s.heap z TI TO T g) (hT : s.heap.get? T = some oT) (B : Both s.heap TI j1 j2 t1 t2 m1 m2 us vs) (ex : us[m1]? = some x) (ey : vs[m2]? = some y)
    (q : ∀ h', IsZipHeld h' z TI TO T true → h'.IsTupleIter j1 t1 (m1 + 1) → h'.IsTupleIter j2 t2 (m2 + 1) → IsPair h' s.heap.objs.size x y → (∀ b o, b ≠ z → b ≠ j1 → b ≠ j2 → s.heap.get? b = some o → h'.get? b = some o) → Q (.ref s.heap.objs.size) { s with heap := h' }) :
    wpAny (model prog w) A (Builtin.«zip.__next__» ⟨[.ref z], []⟩) (fun fin s' => ∃ v, fin = .done (.ret v) ∧ Q v s') E s := by
  refine wpAny_bind (m := field (.ref z) 2) (wpAny_field hz rfl (x := .bool false) rfl ?_)
  refine wpAny_bind (m := field (.ref z) 3) (wpAny_field hz rfl (x := .ref TI) rfl ?_)
  refine wpAny_bind (wpAny_seqItems B.pr rfl ?_)
  refine wpAny_bind (m := Builtin.SmallTypes.ownedTupleIsFree (.ref z)) (wpAny_tupleHeld_zip hz hT fun ha za ka => ?_)
  simp only [Bool.false_eq_true, if_false]
  refine wpAny_bind ?_
  rw [← Array.forIn_toList]
  simp only [List.forIn_cons, List.forIn_nil]
  refine wpAny_bind (wpAny_bind (wpAny_holding (wpAny_bind (m := Builtin.SmallTypes.nextOf (.ref j1)) ?_)))
  refine nextOf_tuple_item (s := { s with heap := ha }) (B.i1.extBut ka.extBut D.i1z) (B.s1.extBut ka.extBut D.l1z) ex fun hb ib kb => wpAny_pure (wpAny_pure ?_)
  refine wpAny_bind (wpAny_bind (wpAny_holding (wpAny_bind (m := Builtin.SmallTypes.nextOf (.ref j2)) ?_)))
  refine nextOf_tuple_item (s := { s with heap := hb }) ((B.i2.extBut ka.extBut D.i2z).extBut kb.extBut D.i12.symm) ((B.s2.extBut ka.extBut D.l2z).extBut kb.extBut D.l2i1) ey fun hc ic kc => wpAny_pure (wpAny_pure (wpAny_pure ?_))
  refine wpAny_bind (m := newTuple [x, y]) (wpAny_newTuple ?_)
  have size : hc.objs.size = s.heap.objs.size := kc.1.trans (kb.1.trans ka.1)
  have kp : ∀ b o, b ≠ z → b ≠ j1 → b ≠ j2 → s.heap.get? b = some o → hc.get? b = some o := fun b o n1 n2 n3 e => kc.extBut b o n3 (kb.extBut b o n2 (ka.extBut b o n1 e))
  refine wpAny_pure ⟨_, rfl, ?_⟩
  show Q (.ref hc.objs.size) _
  have pr : IsPair (hc.push { cls := .type "tuple", data := .seq #[x, y] }) hc.objs.size x y := Heap.get?_push_size _ rfl
  have up : ∀ b o, hc.get? b = some o → (hc.push { cls := .type "tuple", data := .seq #[x, y] }).get? b = some o := fun b o e => Heap.get?_push_of_some _ e
  rw [size] at pr ⊢
  exact q _ (up _ _ (kc.extBut _ _ D.i2z.symm (kb.extBut _ _ D.i1z.symm za))) ((ib.extBut kc.extBut D.i12).at fun o e => up _ o e) (ic.at fun o e => up _ o e) pr fun b o n1 n2 n3 e => up b o (kp b o n1 n2 n3 e)
theorem held_end {Q : Fin → Shared → Prop} (hA : A.handled = none) (D : ZipApart z TI TO j1 j2 t1 t2) (hz : IsZipHeld s.heap z TI TO T g) (hT : s.heap.get? T = some oT) (B : Both s.heap TI j1 j2 t1 t2 m1 m2 us vs) (e0 : us[m1]? = none)
    (q : ∀ h' e, (∀ b o, b ≠ z → b ≠ j1 → b ≠ j2 → s.heap.get? b = some o → h'.get? b = some o) → (∃ o, h'.get? e = some o ∧ o.cls = .type "StopIteration") → E (.ref e) { s with heap := h' }) :
    wpAny (model prog w) A (Builtin.«zip.__next__» ⟨[.ref z], []⟩) Q E s := by
  refine wpAny_bind (m := field (.ref z) 2) (wpAny_field hz rfl (x := .bool false) rfl ?_)
  refine wpAny_bind (m := field (.ref z) 3) (wpAny_field hz rfl (x := .ref TI) rfl ?_)
  refine wpAny_bind (wpAny_seqItems B.pr rfl ?_)
  refine wpAny_bind (m := Builtin.SmallTypes.ownedTupleIsFree (.ref z)) (wpAny_tupleHeld_zip hz hT fun ha za ka => ?_)
  simp only [Bool.false_eq_true, if_false]
  refine wpAny_bind ?_
  rw [← Array.forIn_toList]
  simp only [List.forIn_cons, List.forIn_nil]
  refine wpAny_bind (wpAny_bind (wpAny_holding (wpAny_bind (m := Builtin.SmallTypes.nextOf (.ref j1)) ?_)))
  exact nextOf_tuple_end (s := { s with heap := ha }) hA (B.i1.extBut ka.extBut D.i1z) (B.s1.extBut ka.extBut D.l1z) e0 fun hb e kb he => q hb e (fun b o n1 n2 _ r => kb b o n2 (ka.extBut b o n1 r)) he
theorem next_item {x y : Value} {Q : Option Value → Shared → Prop} (D : ZipApart z TI TO j1 j2 t1 t2) (hz : IsZipHeld s.heap z TI TO T g) (hT : s.heap.get? T = some oT) (B : Both s.heap TI j1 j2 t1 t2 m1 m2 us vs) (ex : us[m1]? = some x) (ey : vs[m2]? = some y)
    (q : ∀ h', IsZipHeld h' z TI TO T true → h'.IsTupleIter j1 t1 (m1 + 1) → h'.IsTupleIter j2 t2 (m2 + 1) → IsPair h' s.heap.objs.size x y → (∀ b o, b ≠ z → b ≠ j1 → b ≠ j2 → s.heap.get? b = some o → h'.get? b = some o) → Q (some (.ref s.heap.objs.size)) { s with heap := h' }) :
    wpAny (model prog w) A (pyNext (.ref z)) Q E s := by
  have ty : s.TypeIs (.ref z) "zip" := ⟨_, hz, rfl⟩
  unfold pyNext
  refine wpAny_bind (wpAny_attempt (wpAny_callSpecial?_slot (name := Str.ofString "__next__") ty F.slot_zip_next (wpAny_call_entry F.slot_zip_next ty F.entry_zip_next ?_ (F.args_zip_next_1 _))))
  exact held_item D hz hT B ex ey fun h' a b c d k => wpAny_pure (q h' a b c d k)
theorem next_end {Q : Option Value → Shared → Prop} (hA : A.handled = none) (D : ZipApart z TI TO j1 j2 t1 t2) (hz : IsZipHeld s.heap z TI TO T g) (hT : s.heap.get? T = some oT) (B : Both s.heap TI j1 j2 t1 t2 m1 m2 us vs) (e0 : us[m1]? = none)
    (q : ∀ h', (∀ b o, b ≠ z → b ≠ j1 → b ≠ j2 → s.heap.get? b = some o → h'.get? b = some o) → Q none { s with heap := h' }) : wpAny (model prog w) A (pyNext (.ref z)) Q E s := by
  have ty : s.TypeIs (.ref z) "zip" := ⟨_, hz, rfl⟩
  unfold pyNext
  refine wpAny_bind (wpAny_attempt (wpAny_callSpecial?_slot (name := Str.ofString "__next__") ty F.slot_zip_next (wpAny_call_entry F.slot_zip_next ty F.entry_zip_next ?_ (F.args_zip_next_1 _))))
  refine held_end hA D hz hT B e0 fun h' e k ⟨o, ho, hc⟩ => ?_
  exact wpAny_bind (wpAny_isInstance (T := "StopIteration") (b := true) ⟨o, ho, hc⟩ isSubtype_stop (wpAny_pure (q _ k)))
end
section
variable {prog : Program} {w : World}
/-- a zip of two tuples of one length -/
structure ZipOk (h : Heap) (z TI TO j1 j2 t1 t2 : Addr) (us vs : Array Value) : Prop where
  hz : IsZip h z TI TO .none
  hO : ∃ a b, IsPair h TO a b
  bo : Both h TI j1 j2 t1 t2 0 0 us vs
def Step (h : Heap) (d z TI TO j1 j2 t1 t2 : Addr) (us vs : Array Value) (i : Nat) : Prop := Both h TI j1 j2 t1 t2 i i us vs ∧
  ((IsZip h z TI TO .none ∧ ∃ a b, IsPair h TO a b) ∨ ∃ T g oT, IsZipHeld h z TI TO T g ∧ h.get? T = some oT ∧ T ≠ z ∧ T ≠ j1 ∧ T ≠ j2 ∧ T ≠ d)
theorem src {A : Around} {d z TI TO j1 j2 t1 t2 : Addr} {us vs : Array Value} (hA : A.handled = none) (D : ZipApart z TI TO j1 j2 t1 t2) (hl : us.size = vs.size) (hd : d ∉ [z, TI, TO, j1, j2, t1, t2]) :
    PairSrc prog w A z d [z, TO, j1, j2] us.size (fun i k v => us[i]? = some k ∧ vs[i]? = some v) (fun i h => Step h d z TI TO j1 j2 t1 t2 us vs i) := by
  simp only [List.mem_cons, List.not_mem_nil, or_false, not_or] at hd
  obtain ⟨n0, n1, n2, n3, n4, n5, n6⟩ := hd
  have out : ∀ {c : Addr}, c ∉ ([z, TO, j1, j2] : List Addr) → c ≠ z ∧ c ≠ TO ∧ c ≠ j1 ∧ c ≠ j2 := fun {c} hc => by simpa using hc
  refine ⟨by simp [n0, n2, n3, n4], fun i h h' st k => ?_, fun i s Q E hi st hds hq => ?_, fun s Q E st hq => ?_⟩
  · obtain ⟨B, r⟩ := st
    refine ⟨⟨k _ _ (Ne.symm n1) B.pr, B.i1.at fun o => k _ o (Ne.symm n3), B.i2.at fun o => k _ o (Ne.symm n4), B.s1.at fun o => k _ o (Ne.symm n5), B.s2.at fun o => k _ o (Ne.symm n6)⟩, ?_⟩
    rcases r with ⟨hz, a, b, hO⟩ | ⟨T, g, oT, hz, hT, r1, r2, r3, r4⟩
    · exact .inl ⟨k _ _ (Ne.symm n0) hz, a, b, k _ _ (Ne.symm n2) hO⟩
    · exact .inr ⟨T, g, oT, k _ _ (Ne.symm n0) hz, k _ _ r4 hT, r1, r2, r3, r4⟩
  · obtain ⟨B, r⟩ := st
    have ex : us[i]? = some us[i] := Array.getElem?_eq_getElem hi
    have hi2 : i < vs.size := hl ▸ hi
    have ey : vs[i]? = some vs[i] := Array.getElem?_eq_getElem hi2
    have top : ∀ {c o}, s.heap.get? c = some o → s.heap.objs.size ≠ c := fun e => Nat.ne_of_gt (Heap.lt_size e)
    obtain ⟨o1, f1, _⟩ := id B.i1
    obtain ⟨o2, f2, _⟩ := id B.i2
    have p1 := top f1
    have p2 := top f2
    rcases r with ⟨hz, a, b, hO⟩ | ⟨T, g, oT, hz, hT, r1, r2, r3, r4⟩
    · refine pyNext_zipT_item D hz B.pr hO B.i1 B.i2 B.s1 B.s2 ex ey fun h' a1 _ a3 a4 a5 _ k => ?_
      refine hq s.heap.objs.size _ _ h' s.toks ⟨ex, ey⟩ (.inl ⟨_, a5, rfl, _, rfl⟩) ⟨⟨k _ _ D.TIz D.TITO D.TIi1 D.TIi2 B.pr, a3, a4, B.s1.at fun o => k _ o D.l1z D.l1TO D.l1i1 D.l1i2, B.s2.at fun o => k _ o D.l2z D.l2TO D.l2i1 D.l2i2⟩, .inr ⟨s.heap.objs.size, false, _, a1, a5, top hz, p1, p2, Nat.ne_of_gt hds⟩⟩ fun c o hc e => ?_
      obtain ⟨c1, c2, c3, c4⟩ := out hc
      exact k c o c1 c2 c3 c4 e
    · refine next_item D hz hT B ex ey fun h' a1 a3 a4 a5 k => ?_
      refine hq s.heap.objs.size _ _ h' s.toks ⟨ex, ey⟩ (.inl ⟨_, a5, rfl, _, rfl⟩) ⟨⟨k _ _ D.TIz D.TIi1 D.TIi2 B.pr, a3, a4, B.s1.at fun o => k _ o D.l1z D.l1i1 D.l1i2, B.s2.at fun o => k _ o D.l2z D.l2i1 D.l2i2⟩, .inr ⟨T, true, oT, a1, k _ _ r1 r2 r3 hT, r1, r2, r3, r4⟩⟩ fun c o hc e => ?_
      obtain ⟨c1, _, c3, c4⟩ := out hc
      exact k c o c1 c3 c4 e
  · obtain ⟨B, r⟩ := st
    have e0 : us[us.size]? = none := Array.getElem?_eq_none (Nat.le_refl _)
    rcases r with ⟨hz, a, b, hO⟩ | ⟨T, g, oT, hz, hT, r1, r2, r3, r4⟩
    · refine pyNext_zipT_end hA D hz B.pr hO B.i1 B.i2 B.s1 B.s2 (.inl e0) fun h' k => hq h' s.toks fun c o hc e => ?_
      obtain ⟨c1, c2, c3, c4⟩ := out hc
      exact k c o c1 c2 c3 c4 e
    · refine next_end hA D hz hT B e0 fun h' k => hq h' s.toks fun c o hc e => ?_
      obtain ⟨c1, _, c3, c4⟩ := out hc
      exact k c o c1 c3 c4 e
theorem arg {z TI TO j1 j2 t1 t2 : Addr} {us vs : Array Value} (D : ZipApart z TI TO j1 j2 t1 t2) (hl : us.size = vs.size) :
    PairArg prog w "zip" z [z, TI, TO, j1, j2, t1, t2] [z, TO, j1, j2] us.size (fun i k v => us[i]? = some k ∧ vs[i]? = some v) (fun h => ZipOk h z TI TO j1 j2 t1 t2 us vs) where
  type := fun s ok => ⟨_, ok.hz, rfl⟩
  notDict := by decide
  keep := fun h h' ok k => by
    obtain ⟨a, b, hO⟩ := ok.hO
    exact ⟨k _ _ ok.hz, ⟨a, b, k _ _ hO⟩, ⟨k _ _ ok.bo.pr, ok.bo.i1.at fun o => k _ o, ok.bo.i2.at fun o => k _ o, ok.bo.s1.at fun o => k _ o, ok.bo.s2.at fun o => k _ o⟩⟩
  there := fun h ok b hb => by
    obtain ⟨hz, ⟨a, c, hO⟩, pr, ⟨o1, f1, _⟩, ⟨o2, f2, _⟩, ⟨o3, f3, _⟩, ⟨o4, f4, _⟩⟩ := ok
    rcases List.mem_cons.mp hb with rfl | hb
    · exact ⟨_, hz⟩
    rcases List.mem_cons.mp hb with rfl | hb
    · exact ⟨_, pr⟩
    rcases List.mem_cons.mp hb with rfl | hb
    · exact ⟨_, hO⟩
    rcases List.mem_cons.mp hb with rfl | hb
    · exact ⟨_, f1⟩
    rcases List.mem_cons.mp hb with rfl | hb
    · exact ⟨_, f2⟩
    rcases List.mem_cons.mp hb with rfl | hb
    · exact ⟨_, f3⟩
    rcases List.mem_cons.mp hb with rfl | hb
    · exact ⟨_, f4⟩
    exact absurd hb List.not_mem_nil
  sub := fun b hb => by
    have q : b = z ∨ b = TO ∨ b = j1 ∨ b = j2 := by simpa using hb
    rcases q with rfl | rfl | rfl | rfl <;> simp
  noKeys := fun A s Q E hA ok h => getAttrOr_miss_zip ok.hz rfl rfl rfl zip_no_keys (by decide +kernel) hA h
  iter := fun A s d Q E hA ok hd hdf h => by
    refine wpAny_pyIter_zip ok.hz (h z [z, TO, j1, j2] _ s.heap s.toks (src hA D hl hdf) ⟨ok.bo, .inl ⟨ok.hz, ok.hO⟩⟩ (fun _ _ e => e) fun b hb => .inl hb)
end
end ZTD
end PySem
namespace K1
open PySem L2 Evl RZ PySem.Spec PyProof.Rows
section
variable {X : Cx}
theorem kv_pairs (P : Program) (w : World) : ∀ {ks : List Key} {xs : List V} {us vs : List Value}, Vals (ks.map kV) us → Vals xs vs → ks.length = xs.length → ∃ prs : List (Key × Value), KV (ks.zip xs) prs ∧ prs.length = ks.length ∧ ∀ (i : Nat) (k v : Value), us[i]? = some k → vs[i]? = some v → ∃ kk, prs[i]? = some (kk, v) ∧ keyIs kk k = true
  | [], [], _, _, .nil, .nil, _ => ⟨[], .nil, rfl, fun i k v e => by simp at e⟩
  | kk :: ks, x :: xs, _, _, .cons r rs, .cons q qs, hl => by
    obtain ⟨prs, e1, e2, e3⟩ := kv_pairs P w rs qs (by simpa using hl)
    rename_i u us' v vs'
    refine ⟨(kk, v) :: prs, .cons ⟨rfl, q⟩ e1, by rw [List.length_cons, List.length_cons, e2], fun i k y a b => ?_⟩
    cases i with
    | zero =>
      cases a; cases b
      exact ⟨kk, rfl, kV_is (P := P) (w := w) r⟩
    | succ i => exact e3 i k y (by simpa using a) (by simpa using b)
/-- dict(zip(t, u)) -/
def tDictZip (K : PySem.W.Frag) (ta : TA) : TE := fun σ H Q => ta σ H fun vs H1 => ∃ (a b : Addr) (ks : List Key) (xs : List V), vs = [.ref a, .ref b] ∧ SqT K H1 a (ks.map kV) ∧ SqT K H1 b xs ∧ ks.length = xs.length ∧
  ∀ p, H1 p = none → Q (.ref p) (upd H1 p (.dK (mergeK [] (ks.zip xs))))
theorem pe_dictZip {e e2 : Expr} {ta : TA} {p p2 q pos : Pos} (hc : X.calm = true) (hg : Gl X "dict") (hm : X.mg "dict" = none) (hg2 : Gl X "zip") (hm2 : X.mg "zip" = none) (ha : PA X [e, e2] ta)
    (hs : starEach [e, e2] X.env = (false, eval e X.env) :: starEach [e2] X.env := by rfl) (hpl : (backTo q (starEach [e2] X.env)).any (·.1) = false := by rfl)
    (na : starEach [Expr.Call (.Name "zip" p2) [e, e2] [] q] X.env = (false, eval (.Call (.Name "zip" p2) [e, e2] [] q) X.env) :: starEach [] X.env := by rfl) :
    PE X (.Call (.Name "dict" p) [.Call (.Name "zip" p2) [e, e2] [] q] [] pos) (tDictZip X.K ta) := by
  refine ⟨fun pins s σ H Q I h => ?_⟩
  refine Call_ (ld_blt I hg hm bo_dict (PyProof.Rows.callWith_type1 (PyProof.Rows.args_cons ?_ na) na))
  refine Call_ (ld_blt I hg2 hm2 PyProof.Rows.boot_zip (PyProof.Rows.callWith_type1 (thn (ha.run q pins s σ H _ I h) fun us s1 ⟨vs, H1, I1, r1, q1⟩ => ?_) hs hpl))
  obtain ⟨a, b, ks, xs, ex, ha1, hb1, hlen, q1⟩ := q1
  subst ex
  obtain ⟨u1, u2, rfl, ra, rb⟩ := vals2 r1
  cases (show u1 = Value.ref a from ra)
  cases (show u2 = Value.ref b from rb)
  obtain ⟨its, rv, p1, hz1⟩ := I1.tuple ha1
  obtain ⟨its2, rv2, p2', hz2⟩ := I1.tuple hb1
  obtain ⟨o1, ho1, _⟩ := id p1
  obtain ⟨o2, ho2, _⟩ := id p2'
  have t1 : s1.heap.IsTuple a its.toArray := p1
  have t2 : s1.heap.IsTuple b its2.toArray := p2'
  refine call_zipT t1 t2 fun h' hz hTI hTO h1 h2 hsz hk => ?_
  have I2 : Inv X pins σ H1 { s1 with heap := h' } := I1.kept (t' := s1.toks) hk
  refine PyProof.Rows.args_nil ?_
  have l1 : its.toArray.size = ks.length := by rw [List.size_toArray, ← rv.length, List.length_map]
  have l2 : its2.toArray.size = xs.length := by rw [List.size_toArray, ← rv2.length]
  obtain ⟨prs, e1, e2, e3⟩ := kv_pairs X.prog X.w rv rv2 hlen
  have hz3 : ks.length ≤ sizeLine := by
    rw [List.length_map] at hz1
    exact hz1
  have P := ZTD.arg (prog := X.prog) (w := X.w) (us := its.toArray) (vs := its2.toArray) (PySem.W.ktu_apart s1.heap.objs.size a b (Heap.lt_size ho1) (Heap.lt_size ho2)) (by rw [l1, l2, hlen])
  have f1 : h'.IsTuple a its.toArray := t1.at fun o e => hk _ o e
  have f2 : h'.IsTuple b its2.toArray := t2.at fun o e => hk _ o e
  refine PySem.call_dict_pairs (s := { s1 with heap := h' }) (knd := mixKind X.prog X.w) (kvs := prs) P (I2.ok.hd hc) ⟨hz, ⟨_, _, hTO⟩, hTI, h1, h2, f1, f2⟩ ⟨by rw [e2, l1], fun i k v ⟨x1, x2⟩ => ?_⟩ (by rw [l1]; exact hz3) fun h2' tk hd' k => ?_
  · exact e3 i k v (by simpa using x1) (by simpa using x2)
  · have big := I2.big
    have hm : (h'.objs.size == sysModules) = false := beq_eq_false_iff_ne.mpr (Nat.ne_of_gt big)
    have hlen2 : (mergeK [] (ks.zip xs)).length ≤ sizeLine := by
      refine Nat.le_trans (length_mergeK _ []) ?_
      rw [List.length_nil, Nat.zero_add, List.length_zip]
      exact Nat.le_trans (Nat.min_le_left _ _) hz3
    have kp : ∀ b o, s1.heap.get? b = some o → h2'.get? b = some o := fun b o e => k b o (fun hb => by
      have q : b = s1.heap.objs.size + 4 ∨ b = s1.heap.objs.size + 3 ∨ b = s1.heap.objs.size ∨ b = s1.heap.objs.size + 1 := by simpa using hb
      have lt : b < s1.heap.objs.size := Heap.lt_size e
      rcases q with q | q | q | q
      · rw [q] at lt; exact absurd lt (Nat.not_lt_of_le (Nat.le_add_right _ _))
      · rw [q] at lt; exact absurd lt (Nat.not_lt_of_le (Nat.le_add_right _ _))
      · rw [q] at lt; exact absurd lt (Nat.lt_irrefl _)
      · rw [q] at lt; exact absurd lt (Nat.not_lt_of_le (Nat.le_add_right _ _))) (hk b o e)
    have le : s1.heap.objs.size ≤ h'.objs.size := by rw [hsz]; exact Nat.le_add_right _ _
    exact ⟨.ref h'.objs.size, upd H1 h'.objs.size (.dK (mergeK [] (ks.zip xs))), I1.laid (t' := tk) kp le (show ObjOk X.prog X.w _ _ _ (.dK (mergeK [] (ks.zip xs))) from ⟨hlen2, hm, merged [] prs, KV.merge e1 .nil, hd'⟩), rfl, q1 _ (I1.hok.fresh le)⟩
end
end K1

/-! K1i: ==, !=, len, [] of an instance with own methods. -/
namespace K1
open PySem L2 PySem.Spec PyProof.Rows
theorem ns_some_of {K : PySem.W.Frag} {h : Heap} {N : Addr} {m : Str → Option Value} {x : Str} {v : Value} (X : K.In h) (G : h.Ns N m) (e : PySem.W.nsIn K N x = some (some v)) : m x = some v := by
  obtain ⟨o, es, ep, ho, hd, _, hf⟩ := G
  unfold PySem.W.nsIn at e
  split at e
  · rename_i q
    have t := X _ _ q
    rw [ho] at t
    cases t
    cases hd
    split at e
    · rename_i he
      cases e
      rw [← hf]
      unfold nsFind findBy
      rw [← Array.find?_toList, he]
      rfl
    · split at e <;> cases e
  · cases e
section
variable {X : Cx} {CX : CXT} {n : Nat} {g C : Addr} {fd : FuncData} {ps : List Str} {sp : Sp} {E : XK}
/-- a callee runs below A -/
theorem run_fnA {A : Around} {pins : List (Addr × Obj)} {σ : L2.St} {H : Hp} {s : Shared} {Q : VK} {us : List Value} {vs : List V} (F : FnOk X.prog X.w X.K X.mg X.base CX n g fd ps sp) (hr : Room n A) (e0 : Env0 X.prog X.w X.K X.mg X.base A X.stack s H) (hb : Binds X.K fd ps []) (hx : Passes CX X E)
    (I : Inv X pins σ H s) (r : Vals vs us) (h : sp vs H Q E) : wpAny (model X.prog X.w) A (call (.ref g) us) (EP X pins σ Q) X.xe s := by
  have hl : (us ++ []).length = ps.length := by
    rw [List.append_nil, ← r.length]
    exact F.len _ _ _ _ h
  have r' : Vals vs (us ++ []) := by
    rw [List.append_nil]
    exact r
  refine wpAny_call (codeAny_mono (F.run A X.stack s H ⟨us, []⟩ (us ++ []) vs Q E hr e0 (hb s us I.kIn hl) r' h) fun out s' hq => ?_)
  cases out with
  | error e => exact hx pins σ H s e s' I hq
  | ok fl =>
    cases fl with
    | ret u => exact I.after hq
    | next => exact False.elim hq
    | brk => exact False.elim hq
    | cont => exact False.elim hq
/-- x op y, x an instance of the class at C whose def for op is at g -/
def rOwnI (K : PySem.W.Frag) (C : Addr) (sp : Sp) (E : XK) : R2 := fun x y H Q => ∃ (a dx : Addr) (fs : List (Str × V)) (t : Value), x = .ref a ∧ H a = some (.ins C dx fs) ∧ TyX K H y t ∧ PySem.W.notFirst K C t = true ∧ sp [x, y] H Q E
theorem op_ownI {op : CmpOp} (hop : ∀ a b, compareOp op a b = richCompare op a b) (hs : PySem.W.findIn X.K (.ref C) (cmpInfo op).2.1 = some (some (.ref g))) (hf : PySem.W.isFn X.K (.ref g) = true) (F : FnOk X.prog X.w X.K X.mg X.base CX n g fd ps sp) (hb : Binds X.K fd ps [])
    (hr : Room n X.A) (hx : Passes CX X E) : OpR X (compareOp op) (rOwnI X.K C sp E) := by
  intro pins s σ H x y v u Q I rx ry h
  obtain ⟨a, dx, fs, t, rfl, ha, ty, hn, q⟩ := h
  cases (show v = Value.ref a from rx)
  obtain ⟨mA, O, _⟩ := ins_get I.hok ha
  obtain ⟨od, J, _⟩ := O.look
  obtain ⟨Pz, Z, pz, _⟩ := kit_of I ry ty
  obtain ⟨m, hF⟩ := I.fr
  rw [hop]
  refine PySem.W.cmp_K (op := op) (tb := t) hr.units0 hF I.ok.mod.kin J (Z.ty _ _ I.kIn pz) hn hs hf ?_
  refine wpAny_mono (run_fnA (us := [.ref a, u]) (vs := [.ref a, y]) F hr I.env0 hb hx I (.cons rfl (.cons ry .nil)) q) (fun w s' z => ?_) fun _ _ x => x
  obtain ⟨z', H', I', rz, qz⟩ := z
  exact SlX.cmpback rz ⟨z', H', I', rz, qz⟩
/-- what the written part says of a class with an own __eq__ and no __ne__ -/
structure EqNoNe (K : PySem.W.Frag) (C g : Addr) : Prop where
  cls : ∃ nm q N bs hd sn sub ab col dd k0 k1 k2 k3 k5, K.lookup C = some (excClassObj nm q C N bs [.type "object"] hd sn sub ab col dd k0 k1 k2 k3 k5 "object.__new__") ∧ PySem.W.nsOkIn K N = true ∧ PySem.W.nsIn K N "__eq__" = some (some (.ref g)) ∧ PySem.W.nsIn K N "__ne__" = some none
  fn : ∃ od fd sl, K.lookup g = some ⟨.type "function", od, .func fd, sl⟩
/-- x != y of two instances of the class at C: not __eq__'s answer -/
def rNeI (C : Addr) (sp : Sp) (E : XK) : R2 := fun x y H Q => ∃ (a dx b dy : Addr) (fs gs : List (Str × V)), x = .ref a ∧ y = .ref b ∧ H a = some (.ins C dx fs) ∧ H b = some (.ins C dy gs) ∧ sp [x, y] H (fun z H' => ∃ k, z = .bl k ∧ Q (.bl (!k)) H') E
theorem op_neI (W : EqNoNe X.K C g) (F : FnOk X.prog X.w X.K X.mg X.base CX n g fd ps sp) (hb : Binds X.K fd ps []) (hr : Room (n + 1) X.A) (hx : Passes CX X E) : OpR X (compareOp .NotEq) (rNeI C sp E) := by
  intro pins s σ H x y v u Q I rx ry h
  obtain ⟨a, dx, b, dy, fs, gs, rfl, rfl, ha, hb', q⟩ := h
  cases (show v = Value.ref a from rx)
  cases (show u = Value.ref b from ry)
  obtain ⟨mA, O, _⟩ := ins_get I.hok ha
  obtain ⟨mB, O', _⟩ := ins_get I.hok hb'
  obtain ⟨nm, q1, N, bs, hd, sn, sub, ab, col, dd, k0, k1, k2, k3, k5, hC, hok, heq, hne⟩ := W.cls
  obtain ⟨fod, ffd, fsl, hg⟩ := W.fn
  have Y : s.heap.OwnEqNoNe a C g "object" [.type "object"] := ⟨_, _, nm, q1, N, bs, hd, sn, sub, ab, col, dd, k0, k1, k2, k3, k5, "object.__new__", _, _, O.obj, rfl, I.kIn _ _ hC, .of_isNs (PySem.W.isNs_of_in I.kIn hok),
    ns_some_of I.kIn (.of_isNs (PySem.W.isNs_of_in I.kIn hok)) heq, I.kIn _ _ hg, rfl, PySem.F.cmp_object.mro, PySem.F.cmp_object.eq.lookup, PySem.W.nsMap_none_of_in I.kIn hok hne⟩
  have hu : X.A.units + 1 < cLine := by have := hr.un; omega
  have run := run_fnA (us := [.ref a, .ref b]) (vs := [.ref a, .ref b]) F hr.in1 I.env0.in1 hb hx I (.cons rfl (.cons rfl .nil)) q
  obtain ⟨hp, gg, d, t, os⟩ := s
  refine compareOp_ne_ownEq PySem.F.cmp_object Y O'.obj rfl hu (wpAny_mono run (fun w s' z => ?_) fun _ _ x => x)
  obtain ⟨z', H', I', rz, k, ek, qz⟩ := z
  subst ek
  exact ⟨k, rz, ⟨.bl (!k), H', I', rfl, qz⟩⟩
/-- len(x) of an instance -/
def rLenI (C : Addr) (sp : Sp) (E : XK) : List V → Hp → VK → Prop := fun xs H Q => ∃ (a dx : Addr) (fs : List (Str × V)), xs = [.ref a] ∧ H a = some (.ins C dx fs) ∧ sp [.ref a] H (fun z H' => ∃ k : Int, z = .int k ∧ 0 ≤ k ∧ k < 2 ^ 63 ∧ Q (.int k) H') E
theorem call_lenI (hs : PySem.W.findIn X.K (.ref C) "__len__" = some (some (.ref g))) (hf : PySem.W.isFn X.K (.ref g) = true) (F : FnOk X.prog X.w X.K X.mg X.base CX n g fd ps sp) (hb : Binds X.K fd ps []) (hr : Room (n + 1) X.A) (hx : Passes CX X E) : CallR X (.builtin "len") (rLenI C sp E) := by
  intro pins s σ H xs us Q I r h
  obtain ⟨a, dx, fs, rfl, ha, q⟩ := h
  obtain ⟨u, rfl, ru⟩ := vals1 r
  cases (show u = Value.ref a from ru)
  obtain ⟨mA, O, _⟩ := ins_get I.hok ha
  obtain ⟨od, J, _⟩ := O.look
  obtain ⟨m, hF⟩ := I.fr
  refine PySem.W.len_K hF I.ok.mod.kin J hs hf (wpAny_mono (run_fnA (us := [.ref a]) (vs := [.ref a]) F hr.in1 I.env0.in1 hb hx I (.cons rfl .nil) q) (fun w s' z => ?_) fun _ _ x => x)
  obtain ⟨z', H', I', rz, k, ek, h0, h1, qz⟩ := z
  subst ek
  obtain ⟨t, e⟩ := (show ∃ t, w = Value.int k t from rz)
  cases e
  exact ⟨⟨h0, h1⟩, .int k, H', I'.tok _, ⟨_, rfl⟩, qz⟩
/-- x[i] of an instance -/
def rIxI (C : Addr) (sp : Sp) (E : XK) : R2 := fun x y H Q => ∃ (a dx : Addr) (fs : List (Str × V)), x = .ref a ∧ H a = some (.ins C dx fs) ∧ sp [x, y] H Q E
theorem pe_ixI {a b : Expr} {ta tb : TE} {pos : Pos} (hs : PySem.W.findIn X.K (.ref C) "__getitem__" = some (some (.ref g))) (hfn : PySem.W.fnIn X.K g = true) (hf : PySem.W.isFn X.K (.ref g) = true) (F : FnOk X.prog X.w X.K X.mg X.base CX n g fd ps sp) (hb : Binds X.K fd ps [])
    (hr : Room (n + 1) X.A) (hx : Passes CX X E) (pa : PE X a ta) (pb : PE X b tb) (hsl : ∀ v i, subscripted b true v i = runValue (.builtin "lifetime.subscript" ⟨[v, i], []⟩) := by intros; with_unfolding_all rfl) :
    PE X (.Subscript a b pos) (tOp (rIxI C sp E) ta tb) := by
  refine ⟨fun pins s σ H Q I h => ?_⟩
  refine Subscript_ (binT pa pb I h fun v u s2 x y H2 I2 rx ry ⟨p, dx, fs, ex, hp, q⟩ => ?_)
  subst ex
  cases (show v = Value.ref p from rx)
  obtain ⟨mA, O, _⟩ := ins_get I2.hok hp
  obtain ⟨od, J, _⟩ := O.look
  obtain ⟨m, hF⟩ := I2.fr
  exact PySem.W.sub_K hF I2.ok.mod.kin J hs hfn hf (run_fnA (us := [.ref p, u]) (vs := [.ref p, y]) F hr.in1 I2.env0.in1 hb hx I2 (.cons rfl (.cons ry .nil)) q) (hsl _ _)
end
end K1

/-! K1j: Job's four, __len__, __getitem__, __eq__. -/
namespace K1
open PySem L2 Evl RZ
/-- the job at x -/
def JobO (CJ : Addr) (H : Hp) (x : Addr) (w a b c : V) : Prop := ∃ dx, H x = some (.ins CJ dx (jf w a b c))
theorem job_ex {CJ : Addr} {H H' : Hp} {x : Addr} {w a b c : V} (e : Ex H H') (h : JobO CJ H x w a b c) : JobO CJ H' x w a b c := let ⟨dx, q⟩ := h; ⟨dx, e _ _ q⟩
/-- what the written part says of BadNumber -/
structure NumT (K : PySem.W.Frag) (mg : Str → Option Value) (CN : Addr) : Prop where
  gN : mg "BadNumber" = some (.ref CN)
  ex : PySem.W.excIn K CN [.type "ValueError", .type "Exception", .type "BaseException", .type "object"] "ValueError.__new__" = true
  kp : PySem.W.keepIn K (.ref CN) = true
  sb : PySem.W.subIn K (.ref CN) (.type "BaseException") = some true
  ty : PySem.W.typeIn K (.ref CN) = some (.type "type")
/-- what isinstance and == ask of Job -/
structure JobI (K : PySem.W.Frag) (CJ : Addr) : Prop where
  ca : PySem.W.findIn K (.ref CJ) "__class__" = some (some (.builtin "object.__class__"))
  cn : PySem.W.specialIn K (.builtin "object.__class__") "__get__" = some (some (.builtin "getset_descriptor.__get__"))
  ct : PySem.W.takesIn K (.builtin "object.__class__") = some true
  cm : PySem.W.mroIn K CJ (.type "object") = some true
  ki : PySem.W.kitOne K (.type "int") (.ref CJ) = some false
  nf : PySem.W.notFirst K CJ (.ref CJ) = true
  ni : PySem.W.notFirst K CJ (.type "int") = true
theorem kit_self {K : PySem.W.Frag} {C : Addr} : PySem.W.kitOne K (.ref C) (.ref C) = some true := if_pos (beq_self_eq_true _)
section
variable {P : Program} {w : World} {K : PySem.W.Frag} {mg : Str → Option Value} {base : Heap} {CJ : Addr}
def spFour (CJ : Addr) : Sp := fun vs H Q _ => ∃ (x : Addr) (vw va vb vc : V), vs = [.ref x] ∧ JobO CJ H x vw va vb vc ∧ ∀ t, H t = none → Q (.ref t) (upd H t (.tup [vw, va, vb, vc]))
theorem scFour : FnScope ["self"] ["self"] (defScope sFour) := ⟨rfl, rfl, rfl, by decide +kernel, rfl, by decide +kernel, by decide +kernel⟩
theorem ok_four {f : Addr} {fd : FuncData} (F : Fun K "four" "Job.four" sFour f fd) (T : JobT K mg CJ) : FnOk P w K mg base CX0 1 f fd ["self"] (spFour CJ) := by
  refine F.ok scFour (fun vs H Q E h => ?_) (fun cdv A outer s H vs Q E hr h => ?_)
  · obtain ⟨x, vw, va, vb, vc, rfl, _⟩ := h
    rfl
  · obtain ⟨x, vw, va, vb, vc, rfl, ⟨dx, hx⟩, q⟩ := h
    refine ⟨_, pss_one (ps_ret (pe_tup (pa_cons (pe_fld (pv 0) rfl) (pa_cons (pe_fld (pv 0) rfl) (pa_cons (pe_fld (pv 0) rfl) (pa_cons (pe_fld (pv 0) rfl) pa_nil)))))), ?_⟩
    refine ⟨_, rfl, x, CJ, dx, _, _, rfl, hx, T.cl, T.nW, jf_writers, ?_⟩
    refine ⟨_, rfl, x, CJ, dx, _, _, rfl, hx, T.cl, T.nR, jf_writes, ?_⟩
    refine ⟨_, rfl, x, CJ, dx, _, _, rfl, hx, T.cl, T.nB, jf_before, ?_⟩
    refine ⟨_, rfl, x, CJ, dx, _, _, rfl, hx, T.cl, T.nF, jf_falls, ?_⟩
    exact ⟨(show 4 ≤ sizeLine from by rw [sizeLine_eq]; decide), q⟩
def spLen (K : PySem.W.Frag) (CJ : Addr) : Sp := fun vs H Q _ => ∃ (x wr : Addr) (ws : List V) (va vb vc : V), vs = [.ref x] ∧ JobO CJ H x (.ref wr) va vb vc ∧ SqT K H wr ws ∧ Q (.int ws.length) H
theorem scLen : FnScope ["self"] ["self"] (defScope sLen) := ⟨rfl, rfl, rfl, by decide +kernel, rfl, by decide +kernel, by decide +kernel⟩
theorem ok_len {f : Addr} {fd : FuncData} (F : Fun K "__len__" "Job.__len__" sLen f fd) (B : Blt mg) (T : JobT K mg CJ) : FnOk P w K mg base CX0 1 f fd ["self"] (spLen K CJ) := by
  refine F.ok scLen (fun vs H Q E h => ?_) (fun cdv A outer s H vs Q E hr h => ?_)
  · obtain ⟨x, wr, ws, va, vb, vc, rfl, _⟩ := h
    rfl
  · obtain ⟨x, wr, ws, va, vb, vc, rfl, ⟨dx, hx⟩, hs, q⟩ := h
    refine ⟨_, pss_one (ps_ret (pe_callB call_len_seq (by rfl) B.len bo_len (pa_cons (pe_fld (pv 0) rfl) pa_nil))), ?_⟩
    exact ⟨_, rfl, x, CJ, dx, _, _, rfl, hx, T.cl, T.nW, jf_writers, wr, ws, rfl, .inr hs, q⟩
def spGet (K : PySem.W.Frag) (CJ CN : Addr) : Sp := fun vs H Q E => ∃ (x wr : Addr) (ws : List V) (va vb vc nv : V) (dn : D), vs = [.ref x, nv] ∧ JobO CJ H x (.ref wr) va vb vc ∧ SqT K H wr ws ∧ Dp K H nv dn ∧
  ((∃ (k : Nat) (y : V), nv = .int k ∧ dn = .int k ∧ ws[k]? = some y ∧ Q y H) ∨ (isNum 0 ((ws.length : Int) - 1) dn = false ∧ E (.ref CN) none H))
theorem scGet : FnScope ["self", "number"] ["self", "number"] (defScope sGet) := ⟨rfl, rfl, rfl, by decide +kernel, rfl, by decide +kernel, by decide +kernel⟩
theorem isNum_at {n k : Nat} (h : k < n) : isNum 0 ((n : Int) - 1) (.int k) = true := by
  show (decide ((0 : Int) ≤ (k : Int)) && decide ((k : Int) ≤ (n : Int) - 1)) = true
  rw [decide_eq_true (by omega), decide_eq_true (by omega)]
  rfl
theorem ok_get {f fN CN : Addr} {fd fdN : FuncData} (F : Fun K "__getitem__" "Job.__getitem__" sGet f fd) (B : Blt mg) (T : JobT K mg CJ) (TN : NumT K mg CN) (GN : FnOk P w K mg base CX0 1 fN fdN ["thing", "low", "high"] (spNum K)) (kN : PySem.W.keepIn K (.ref fN) = true) (gN : mg "is_number" = some (.ref fN))
    (bN : Binds K fdN ["thing", "low", "high"] []) : FnOk P w K mg base (L2.CX P w) 2 f fd ["self", "number"] (spGet K CJ CN) := by
  refine F.okX scGet (fun vs H Q E h => ?_) (fun cdv A outer s H vs Q E hr h => ?_)
  · obtain ⟨x, wr, ws, va, vb, vc, nv, dn, rfl, _⟩ := h
    rfl
  · obtain ⟨x, wr, ws, va, vb, vc, nv, dn, rfl, ⟨dx, hx⟩, hs, hd, q⟩ := h
    refine ⟨_, pss_cons (ps_if (pt_not (pt_val (pe_call GN hr rfl gN kN bN .nil pass0 (pa_cons (pv 1) (pa_cons pe_int (pa_cons (pe_op op_sub (pe_callB call_len_seq (by rfl) B.len bo_len (pa_cons (pe_fld (pv 0) rfl) pa_nil)) pe_int) pa_nil))))))
        (pss_one (ps_raise rfl (takes_of rfl rfl rfl rfl) (pmk_own PySem.F.excBase_ValueError TN.ex TN.gN TN.kp (raises_own TN.sb TN.ty) rfl))) pss_nil)
      (pss_one (ps_ret (pe_ix ix_tup (pe_fld (pv 0) rfl) (pv 1) (fun _ _ => rfl)))), ?_⟩
    refine ⟨_, rfl, _, rfl, x, CJ, dx, _, _, rfl, hx, T.cl, T.nW, jf_writers, wr, ws, rfl, .inr hs, _, _, rfl, rfl, ?_⟩
    refine ⟨nv, dn, 0, (ws.length : Int) - 1, rfl, hd, _, rfl, ?_⟩
    rcases q with ⟨k, y, rfl, rfl, hy, q⟩ | ⟨hn, q⟩
    · have hk : k < ws.length := (List.getElem?_eq_some_iff.mp hy).1
      rw [isNum_at hk]
      exact iteF ⟨_, rfl, x, CJ, dx, _, _, rfl, hx, T.cl, T.nW, jf_writers, _, rfl, wr, ws, k, y, rfl, rfl, hs, atI_nat hy, q⟩
    · rw [hn]
      exact iteT q
def spEq (K : PySem.W.Frag) (CJ : Addr) : Sp := fun vs H Q _ => ∃ (x : Addr) (vw va vb vc y : V), vs = [.ref x, y] ∧ JobO CJ H x vw va vb vc ∧
  ((∃ i, y = .int i ∧ Q (.bl false) H) ∨ ∃ (z : Addr) (uw ua ub uc : V) (dw da db dc ew ea eb ec : D), y = .ref z ∧ JobO CJ H z uw ua ub uc ∧ DpAll K H [vw, va, vb, vc] [dw, da, db, dc] ∧ DpAll K H [uw, ua, ub, uc] [ew, ea, eb, ec] ∧
    SeqAt.shaped (.tuple [dw, da, db, dc]) = true ∧ SeqAt.shaped (.tuple [ew, ea, eb, ec]) = true ∧ ∀ H', Ex H H' → Q (.bl (PyData.eqv (.tuple [dw, da, db, dc]) (.tuple [ew, ea, eb, ec]))) H')
theorem scEq : FnScope ["self", "other"] ["self", "other"] (defScope sEq) := ⟨rfl, rfl, rfl, by decide +kernel, rfl, by decide +kernel, by decide +kernel⟩
theorem ok_eq {f f4 : Addr} {fd fd4 : FuncData} (F : Fun K "__eq__" "Job.__eq__" sEq f fd) (B : Blt mg) (T : JobT K mg CJ) (TI : JobI K CJ) (G4 : FnOk P w K mg base CX0 1 f4 fd4 ["self"] (spFour CJ)) (m4 : Meth K CJ "four" f4) (b4 : Binds K fd4 ["self"] []) :
    FnOk P w K mg base CX0 2 f fd ["self", "other"] (spEq K CJ) := by
  refine F.ok scEq (fun vs H Q E h => ?_) (fun cdv A outer s H vs Q E hr h => ?_)
  · obtain ⟨x, vw, va, vb, vc, y, rfl, _⟩ := h
    rfl
  · obtain ⟨x, vw, va, vb, vc, y, rfl, ⟨dx, hx⟩, q⟩ := h
    refine ⟨_, pss_one (ps_ret (pe_and (pe_callB call_isi (by rfl) B.isi bo_isi (pa_cons (pv 1) (pa_cons (pe_glob (v := .ref CJ) (by rfl) T.gJ rfl) pa_nil)))
      (pe_one (pe_cmpR (op_eqD hr.units) (pe_meth0 (pv 0) T.cl m4 G4 hr b4 .nil pass0) (pe_meth0 (pv 1) T.cl m4 G4 hr b4 .nil pass0) (nomark _))))), ?_⟩
    rcases q with ⟨i, rfl, q⟩ | ⟨z, uw, ua, ub, uc, dw, da, db, dc, ew, ea, eb, ec, rfl, ⟨dz, hz⟩, h1, h2, s1, s2, q⟩
    · exact ⟨_, rfl, .int i, .ref CJ, _, _, _, rfl, .own CJ, .base (.int i), TI.ki, _, rfl, iteF q⟩
    · refine ⟨_, rfl, .ref z, .ref CJ, _, _, _, rfl, .own CJ, .base (.ins hz T.cl TI.ca TI.cn TI.ct TI.cm), kit_self, _, rfl, iteT ?_⟩
      refine ⟨_, rfl, x, dx, _, rfl, hx, jf_no (by decide +kernel) (by decide +kernel) (by decide +kernel) (by decide +kernel), x, vw, va, vb, vc, rfl, ⟨dx, hx⟩, fun t ht => ?_⟩
      have e1 : Ex H (upd H t (.tup [vw, va, vb, vc])) := Ex.new ht
      refine ⟨_, rfl, z, dz, _, rfl, e1 _ _ hz, jf_no (by decide +kernel) (by decide +kernel) (by decide +kernel) (by decide +kernel), z, uw, ua, ub, uc, rfl, ⟨dz, e1 _ _ hz⟩, fun t2 ht2 => ?_⟩
      have e2 := Ex.new (o := .tup [uw, ua, ub, uc]) ht2
      have e3 := e1.trans e2
      refine ⟨.tuple [dw, da, db, dc], .tuple [ew, ea, eb, ec], .tup (SqT.of (e2 _ _ upd_same)) (dps_ex e3 h1), .tup (SqT.of upd_same) (dps_ex e3 h2), s1, s2, q _ e3⟩
end
end K1

/-! K1k: Job's but, with_writer. -/
namespace K1
open PySem L2 Evl RZ StX
/-! ### a new job -/
theorem ex_made {H : Hp} {C x dx : Addr} (h1 : H x = none) (h2 : H dx = none) (n : dx ≠ x) : Ex H (upd (upd H dx (.own x)) x (.ins C dx [])) :=
  (Ex.new h2).trans (Ex.new (by rw [upd_ne n.symm]; exact h1))
theorem kept_ex {H H1 H' : Hp} {x : Addr} (e : Ex H H1) (h1 : H x = none) (k : ∀ b o, b ≠ x → H1 b = some o → H' b = some o) : Ex H H' := fun b o q => k b o (fun z => by rw [z, h1] at q; cases q) (e b o q)
theorem ex_free {H H' : Hp} {a : Addr} (e : Ex H H') (h : H' a = none) : H a = none := by
  cases q : H a with
  | none => rfl
  | some o =>
    rw [e a o q] at h
    cases h
/-! ### names of rules -/
def badNames : List Str := ["writers", "", "Falls"]
def badName : D → Bool
  | .str z => badNames.contains z
  | _ => true
def ruleNames : List Str := ["writes", "before", "falls"]
structure RulD (K : PySem.W.Frag) (w : World) (mg : Str → Option Value) : Prop where
  ex : ∃ (a : Addr) (es : Array DictEntry) (n : Nat), mg "RULES" = some (.ref a) ∧ KDict K w a es n ∧ (∀ z ∈ badNames, PySem.W.nsIn K a z = some none) ∧ ∀ z ∈ ruleNames, ∃ u, PySem.W.nsIn K a z = some (some u)
def sw {α : Type} (nm k : Str) (t a : α) : α := if nm = k then t else a
/-! ### dict(zip(PARTS, four)) -/
def pKeys : List Key := [.inr "writers", .inr "writes", .inr "before", .inr "falls"]
theorem pKeys_map : pKeys.map kV = partNames.map V.str := rfl
theorem key_ne {x y : Str} (h : ¬ x = y) : ¬ (Sum.inr x : Key) = .inr y := fun e => h (Sum.inr.inj e)
section
variable {w a b c t : V} {nm : Str}
def pD (w a b c : V) : List (Key × V) := [(.inr "writers", w), (.inr "writes", a), (.inr "before", b), (.inr "falls", c)]
theorem pD_merge : mergeK [] (pKeys.zip [w, a, b, c]) = pD w a b c := by
  show putK (putK (putK (putK ([] : List (Key × V)) (Sum.inr "writers" : Key) w) (Sum.inr "writes" : Key) a) (Sum.inr "before" : Key) b) (Sum.inr "falls" : Key) c = _
  have e1 : putK ([] : List (Key × V)) (.inr "writers") w = [(.inr "writers", w)] := putK_new w rfl
  rw [e1]
  have e2 : putK [((.inr "writers" : Key), w)] (.inr "writes") a = [(.inr "writers", w), (.inr "writes", a)] := putK_new a (by rw [valV_neg (key_ne n_wr)]; rfl)
  rw [e2]
  have e3 : putK [((.inr "writers" : Key), w), (.inr "writes", a)] (.inr "before") b = [(.inr "writers", w), (.inr "writes", a), (.inr "before", b)] :=
    putK_new b (by rw [valV_neg (key_ne n_wb), valV_neg (key_ne n_rb)]; rfl)
  rw [e3]
  exact putK_new c (by rw [valV_neg (key_ne n_wf), valV_neg (key_ne n_rf), valV_neg (key_ne n_bf)]; rfl)
theorem pD_writers : valV (pD w a b c) (.inr "writers") = some w := valV_pos rfl
theorem pD_writes : valV (pD w a b c) (.inr "writes") = some a := by
  unfold pD
  rw [valV_neg (key_ne n_wr)]
  exact valV_pos rfl
theorem pD_before : valV (pD w a b c) (.inr "before") = some b := by
  unfold pD
  rw [valV_neg (key_ne n_wb), valV_neg (key_ne n_rb)]
  exact valV_pos rfl
theorem pD_falls : valV (pD w a b c) (.inr "falls") = some c := by
  unfold pD
  rw [valV_neg (key_ne n_wf), valV_neg (key_ne n_rf), valV_neg (key_ne n_bf)]
  exact valV_pos rfl
theorem pD_put {k : Str} {x : V} (h : valV (pD w a b c) (.inr k) = some x) : valV (putK (pD w a b c) (.inr nm) t) (.inr k) = some (sw nm k t x) := by
  rw [valV_put]
  unfold sw
  by_cases e : nm = k
  · rw [if_pos e, if_pos (by rw [e])]
  · rw [if_neg e, if_neg (key_ne (fun z => e z.symm)), h]
theorem rule_ne {nm : Str} (h : nm ∈ ruleNames) : ¬ nm = "writers" := by
  have q : nm = "writes" ∨ nm = "before" ∨ nm = "falls" := by simpa [ruleNames] using h
  rcases q with rfl | rfl | rfl
  · exact n_rw
  · exact n_bw
  · exact n_fw
end
section
variable {P : Program} {w : World} {K : PySem.W.Frag} {mg : Str → Option Value} {base : Heap} {CJ CB : Addr}
def spBut (K : PySem.W.Frag) (CJ CB : Addr) : Sp := fun vs H Q E => ∃ (x : Addr) (vw va vb vc nv tv : V) (dn : D), vs = [.ref x, nv, tv] ∧ JobO CJ H x vw va vb vc ∧ Dp K H nv dn ∧
  ((badName dn = true ∧ ∀ dd H', Ex H H' → H' dd = some (.xd [(("part" : Str), V.non)]) → E (.ref CB) (some dd) H') ∨
    ∃ (nm : Str) (dw da db dc dt : D), nv = .str nm ∧ dn = .str nm ∧ nm ∈ ruleNames ∧ Dp K H vw dw ∧ Dp K H va da ∧ Dp K H vb db ∧ Dp K H vc dc ∧ Dp K H tv dt ∧
      (firstBad dw (sw nm "writes" dt da) (sw nm "before" dt db) (sw nm "falls" dt dc) = none → ∀ H' y, Ex H H' → JobO CJ H' y vw (sw nm "writes" tv va) (sw nm "before" tv vb) (sw nm "falls" tv vc) → Q (.ref y) H') ∧
      (∀ n, firstBad dw (sw nm "writes" dt da) (sw nm "before" dt db) (sw nm "falls" dt dc) = some n → ∀ dd H', Ex H H' → H' dd = some (.xd [(("part" : Str), V.str n)]) → E (.ref CB) (some dd) H'))
theorem dp_sw {H : Hp} {nm k : Str} {t a : V} {dt da : D} (h1 : Dp K H t dt) (h2 : Dp K H a da) : Dp K H (sw nm k t a) (sw nm k dt da) := by
  unfold sw
  by_cases e : nm = k
  · rw [if_pos e, if_pos e]; exact h1
  · rw [if_neg e, if_neg e]; exact h2
def bN4 : List Str := ["self", "name", "thing", "parts"]
theorem scBut : FnScope bN4 ["self", "name", "thing"] (defScope sBut) := ⟨rfl, rfl, rfl, by decide +kernel, rfl, by decide +kernel, by decide +kernel⟩
abbrev jKs : List Str := ["writes", "before", "falls"]
theorem kb_job {fI : Addr} {fdI : FuncData} (FI : FunD K "__init__" "Job.__init__" (defArgs sInit) (defBody sInit) (defScope sInit) [] jKw fI fdI) :
    ∃ mv : List Value, KBn K fdI jP 2 jKs (fun us ws => us ++ ws) (fun vs zs => vs ++ zs) := by
  obtain ⟨mv, h⟩ := FI.kbinds0 (ps := jP) 2 jKs [] (fun us _ ws => us ++ ws) (by decide) (fun _ h => absurd h List.not_mem_nil) (fun r1 _ r3 => r1.append r3) fun D doc pm an cdv ct us mv ws l1 l2 l3 => match us, mv, ws, l1, l2, l3 with
    | [_, _], [], [_, _, _], _, _, _ => rfl
  exact ⟨mv, h⟩
theorem ok_but {f f4 fI cI cc cda : Addr} {fd fd4 fdI : FuncData} (F : Fun K "but" "Job.but" sBut f fd) (B : Blt mg) (T : JobT K mg CJ) (TB : PySem.BadX.BadTxt P K mg CB cI cc cda) (PA : Par K mg) (RD : RulD K w mg)
    (G4 : FnOk P w K mg base CX0 1 f4 fd4 ["self"] (spFour CJ)) (m4 : Meth K CJ "four" f4) (b4 : Binds K fd4 ["self"] []) (GI : FnOk P w K mg base (L2.CX P w) 5 fI fdI jP (spJob K CJ CB)) (M : Mk K CJ fI)
    (FI : FunD K "__init__" "Job.__init__" (defArgs sInit) (defBody sInit) (defScope sInit) [] jKw fI fdI) : FnOk P w K mg base (L2.CX P w) 7 f fd ["self", "name", "thing"] (spBut K CJ CB) := by
  obtain ⟨aP, gP, sP⟩ := PA.ex
  obtain ⟨aR, es, n, gR, KD, kb, kr⟩ := RD.ex
  obtain ⟨mv, kbn⟩ := kb_job FI
  refine F.okX scBut (fun vs H Q E h => ?_) (fun cdv A outer s H vs Q E hr h => ?_)
  · obtain ⟨x, vw, va, vb, vc, nv, tv, dn, rfl, _⟩ := h
    rfl
  · obtain ⟨x, vw, va, vb, vc, nv, tv, dn, rfl, ⟨dx, hx⟩, hd, q⟩ := h
    have hu : (cxOf (L2.CX P w) P w K mg base bN4 "Job.but" (defScope sBut) f cdv A outer s H E).A.units + 1 < cLine := by
      have z := hr.un
      show (A.deeper _).units + 1 < cLine
      omega
    refine ⟨_, pss_cons (ps_if (PW.pt (pw_or (pt_not (pt_val (pe_callB call_isi (by rfl) B.isi bo_isi (pa_cons (pv 1) (pa_cons (pe_bltn (v := .ty "str") (by rfl) B.str bo_str rfl) pa_nil)))))
          (pw_or1 (pt_cmpR (op_notIn_kd KD) (pv 1) (pe_glob (v := .ref aR) (by rfl) gR rfl) (by rfl)))))
        (pss_one (ps_raiseBad rfl TB hr (takes_of rfl rfl rfl rfl) (pa_cons pe_non pa_nil))) pss_nil)
      (pss_cons (ps_set (i := 3) scBut.nd rfl (Or.inl rfl) (pe_dictZip rfl (by rfl) B.dict (by rfl) B.zip (pa_cons (pe_glob (v := .ref aP) (by rfl) gP rfl) (pa_cons (pe_meth0 (pv 0) T.cl m4 G4 (hr.mono (by decide)) b4 .nil pass0) pa_nil))))
      (pss_cons (ps_dput hu (pv 3) (pv 1) (pv 2) rfl)
      (pss_one (ps_ret (pe_makeK M GI hr rfl T.gJ kbn (passes_call (takes_of rfl rfl rfl rfl) fun _ _ _ _ h => h) (pa_cons (pe_dget hu (pv 3) pe_str (fun _ _ => rfl)) pa_nil)
        (pk_cons (pe_dget hu (pv 3) pe_str (fun _ _ => rfl)) (pk_cons (pe_dget hu (pv 3) pe_str (fun _ _ => rfl)) (pk_cons (pe_dget hu (pv 3) pe_str (fun _ _ => rfl)) pk_nil)))))))), ?_⟩
    refine ⟨_, rfl, nv, _, _, _, _, rfl, .ty "str", dp_ty hd, kit_ty (kit_str dn), _, rfl, ?_⟩
    rcases q with ⟨hb, q⟩ | ⟨nm, dw, da, db, dc, dt, rfl, rfl, hn, ew, ea, eb, ec, et, q, qe⟩
    · have fin : ∀ (D : Ends) (σ : L2.St), tRaiseBad CB (fun cls d _ H => E cls d H) (tCons (tC .non) tNil) D σ H := fun D σ => ⟨_, rfl, fun d h => q d _ (Ex.new h) upd_same⟩
      cases dn with
      | str z =>
        cases hd
        refine iteF ⟨_, rfl, z, _, rfl, rfl, kb z (by simpa [badName] using hb), _, rfl, iteT (fin _ _)⟩
      | none => exact iteT (iteT (fin _ _))
      | bool _ => exact iteT (iteT (fin _ _))
      | int _ => exact iteT (iteT (fin _ _))
      | list _ => exact iteT (iteT (fin _ _))
      | tuple _ => exact iteT (iteT (fin _ _))
      | dict _ => exact iteT (iteT (fin _ _))
    · obtain ⟨u, eu⟩ := kr nm hn
      refine iteF ⟨_, rfl, nm, _, rfl, rfl, eu, _, rfl, iteF ?_⟩
      refine ⟨_, rfl, x, dx, _, rfl, hx, jf_no (by decide +kernel) (by decide +kernel) (by decide +kernel) (by decide +kernel), x, vw, va, vb, vc, rfl, ⟨dx, hx⟩, fun t ht => ?_⟩
      have e1 : Ex H (upd H t (.tup [vw, va, vb, vc])) := Ex.new ht
      refine ⟨aP, t, pKeys, [vw, va, vb, vc], rfl, sP _, SqT.of upd_same, rfl, fun p hp => ?_⟩
      rw [pD_merge]
      have e2 := Ex.new (o := .dK (pD vw va vb vc)) hp
      refine ⟨_, rfl, _, rfl, _, rfl, p, _, rfl, DPut.k (k := .inr nm) upd_same (show 4 < sizeLine by rw [sizeLine_eq]; decide), ?_⟩
      have hp2 : (upd (upd (upd H t (.tup [vw, va, vb, vc])) p (.dK (pD vw va vb vc))) p (.dK (putK (pD vw va vb vc) (.inr nm) tv))) p = some (.dK (putK (pD vw va vb vc) (.inr nm) tv)) := upd_same
      have e3 : Ex H (upd (upd (upd H t (.tup [vw, va, vb, vc])) p (.dK (pD vw va vb vc))) p (.dK (putK (pD vw va vb vc) (.inr nm) tv))) := (e1.trans e2).mut (ex_free e1 hp)
      refine ⟨_, rfl, p, vw, rfl, .inl ⟨_, .inr "writers", .inl hp2, rfl, ?_⟩, ?_⟩
      · have z := pD_put (nm := nm) (t := tv) (pD_writers (w := vw) (a := va) (b := vb) (c := vc))
        unfold sw at z
        rw [if_neg (rule_ne hn)] at z
        exact z.symm
      refine ⟨_, rfl, p, _, rfl, .inl ⟨_, .inr "writes", .inl hp2, rfl, (pD_put pD_writes).symm⟩, ?_⟩
      refine ⟨_, rfl, p, _, rfl, .inl ⟨_, .inr "before", .inl hp2, rfl, (pD_put pD_before).symm⟩, ?_⟩
      refine ⟨_, rfl, p, _, rfl, .inl ⟨_, .inr "falls", .inl hp2, rfl, (pD_put pD_falls).symm⟩, ?_⟩
      refine ⟨rfl, rfl, fun y dy hy hdy ny => ?_⟩
      have e4 := e3.trans (ex_made (C := CJ) hy hdy ny)
      refine ⟨y, dy, _, _, _, _, dw, _, _, _, rfl, upd_same, dp_ex e4 ew, dp_sw (dp_ex e4 et) (dp_ex e4 ea), dp_sw (dp_ex e4 et) (dp_ex e4 eb), dp_sw (dp_ex e4 et) (dp_ex e4 ec), fun hf H' k hy' => ⟨rfl, q hf H' y ?_ ⟨dy, hy'⟩⟩, fun n hf dd H' e hdd => qe n hf dd H' (e4.trans e) hdd⟩
      exact kept_ex e4 (ex_free e3 hy) k
end
end K1

/-! K1l: Job's with_writer. -/
namespace K1
open PySem L2 Evl RZ StX
theorem cut_take {xs : List V} {k : Nat} (h : k ≤ xs.length) : cutV xs none (some (k : Int)) = xs.take k := by
  unfold cutV
  rw [HT.sIx_none, HT.sIx_nat, List.drop_zero, Nat.sub_zero, Nat.min_eq_left h]
theorem cut_drop {xs : List V} {k : Nat} (h : k ≤ xs.length) : cutV xs (some (k : Int)) none = xs.drop k := by
  unfold cutV
  rw [HT.sIx_none, HT.sIx_nat, Nat.min_eq_left h, List.take_of_length_le (by rw [List.length_drop]; exact Nat.le_refl _)]
theorem cut_whole {xs : List V} {lo hi : Option Int} (h : HT.sIx xs.length 0 lo = 0 ∧ HT.sIx xs.length xs.length hi = xs.length) : cutV xs lo hi = xs := by
  unfold cutV
  rw [h.1, h.2, List.drop_zero, Nat.sub_zero, List.take_length]
theorem slA_any {K : PySem.W.Frag} {a : Addr} {xs : List V} {lo hi : Option Int} {H : Hp} {Q : VK} (hs : SqT K H a xs) (q : ∀ r H', Ex H H' → SqT K H' r (cutV xs lo hi) → Q (.ref r) H') : rSlA K (.ref a) lo hi H Q :=
  ⟨a, xs, rfl, hs, fun h => q a H (Ex.refl H) (by rw [cut_whole h]; exact hs), fun _ p hp => q p _ (Ex.new hp) (SqT.of upd_same)⟩
theorem dps_append {K : PySem.W.Frag} {H : Hp} : ∀ {vs : List V} {ds : List D} {us : List V} {es : List D}, DpAll K H vs ds → DpAll K H us es → DpAll K H (vs ++ us) (ds ++ es)
  | [], [], _, _, .nil, h => h
  | _ :: _, _ :: _, _, _, .cons a r, h => .cons a (dps_append r h)
theorem dps_take {K : PySem.W.Frag} {H : Hp} : ∀ (k : Nat) {vs : List V} {ds : List D}, DpAll K H vs ds → DpAll K H (vs.take k) (ds.take k)
  | 0, _, _, _ => .nil
  | k + 1, [], [], .nil => .nil
  | k + 1, _ :: _, _ :: _, .cons a r => .cons a (dps_take k r)
theorem dps_drop {K : PySem.W.Frag} {H : Hp} : ∀ (k : Nat) {vs : List V} {ds : List D}, DpAll K H vs ds → DpAll K H (vs.drop k) (ds.drop k)
  | 0, _, _, h => h
  | k + 1, [], [], .nil => .nil
  | k + 1, _ :: _, _ :: _, .cons _ r => dps_drop k r
section
variable {P : Program} {w : World} {K : PySem.W.Frag} {mg : Str → Option Value} {base : Heap} {CJ CB CN : Addr}
def spWith (K : PySem.W.Frag) (CJ CB CN : Addr) : Sp := fun vs H Q E => ∃ (x wr : Addr) (ws : List V) (va vb vc nv tv : V) (dn : D), vs = [.ref x, nv, tv] ∧ JobO CJ H x (.ref wr) va vb vc ∧ SqT K H wr ws ∧ ws.length ≤ 10 ∧ Dp K H nv dn ∧
  ((isNum 0 ((ws.length : Int) - 1) dn = false ∧ E (.ref CN) none H) ∨
    ∃ (k : Nat) (dws : List D) (da db dc dt : D), nv = .int k ∧ dn = .int k ∧ k < ws.length ∧ DpAll K H ws dws ∧ Dp K H va da ∧ Dp K H vb db ∧ Dp K H vc dc ∧ Dp K H tv dt ∧
      (firstBad (.tuple (dws.take k ++ dt :: dws.drop (k + 1))) da db dc = none → ∀ H' y r, Ex H H' → Dp K H' r (.tuple (dws.take k ++ dt :: dws.drop (k + 1))) → JobO CJ H' y r va vb vc → Q (.ref y) H') ∧
      (∀ n, firstBad (.tuple (dws.take k ++ dt :: dws.drop (k + 1))) da db dc = some n → ∀ dd H', Ex H H' → H' dd = some (.xd [(("part" : Str), V.str n)]) → E (.ref CB) (some dd) H'))
def wN4 : List Str := ["self", "number", "writer", "writers"]
theorem scWith : FnScope wN4 ["self", "number", "writer"] (defScope sWith) := ⟨rfl, rfl, rfl, by decide +kernel, rfl, by decide +kernel, by decide +kernel⟩
theorem ok_with {f fN fI : Addr} {fd fdN fdI : FuncData} (F : Fun K "with_writer" "Job.with_writer" sWith f fd) (B : Blt mg) (T : JobT K mg CJ) (TN : NumT K mg CN) (GN : FnOk P w K mg base CX0 1 fN fdN ["thing", "low", "high"] (spNum K)) (kN : PySem.W.keepIn K (.ref fN) = true) (gN : mg "is_number" = some (.ref fN))
    (bN : Binds K fdN ["thing", "low", "high"] []) (GI : FnOk P w K mg base (L2.CX P w) 5 fI fdI jP (spJob K CJ CB)) (M : Mk K CJ fI)
    (FI : FunD K "__init__" "Job.__init__" (defArgs sInit) (defBody sInit) (defScope sInit) [] jKw fI fdI) : FnOk P w K mg base (L2.CX P w) 7 f fd ["self", "number", "writer"] (spWith K CJ CB CN) := by
  obtain ⟨mv, kbn⟩ := kb_job FI
  refine F.okX scWith (fun vs H Q E h => ?_) (fun cdv A outer s H vs Q E hr h => ?_)
  · obtain ⟨x, wr, ws, va, vb, vc, nv, tv, dn, rfl, _⟩ := h
    rfl
  · obtain ⟨x, wr, ws, va, vb, vc, nv, tv, dn, rfl, ⟨dx, hx⟩, hs, hl, hd, q⟩ := h
    refine ⟨_, pss_cons (ps_if (pt_not (pt_val (pe_call GN (hr.mono (by decide)) rfl gN kN bN .nil pass0 (pa_cons (pv 1) (pa_cons pe_int (pa_cons (pe_op op_sub (pe_callB call_len_seq (by rfl) B.len bo_len (pa_cons (pe_fld (pv 0) rfl) pa_nil)) pe_int) pa_nil))))))
        (pss_one (ps_raise rfl (takes_of rfl rfl rfl rfl) (pmk_own PySem.F.excBase_ValueError TN.ex TN.gN TN.kp (raises_own TN.sb TN.ty) rfl))) pss_nil)
      (pss_cons (ps_set (i := 3) scWith.nd rfl (Or.inl rfl) (pe_tup (pa_star (pe_slice sl_tupA (pe_fld (pv 0) rfl) po_none (po_some (pv 1))) (pa_cons (pv 2) (pa_star (pe_slice sl_tupA (pe_fld (pv 0) rfl) (po_some (pe_op op_add (pv 1) pe_int)) po_none) pa_nil)))))
      (pss_one (ps_ret (pe_makeK M GI hr rfl T.gJ kbn (passes_call (takes_of rfl rfl rfl rfl) fun _ _ _ _ h => h) (pa_cons (pv 3) pa_nil)
        (pk_cons (pe_fld (pv 0) rfl) (pk_cons (pe_fld (pv 0) rfl) (pk_cons (pe_fld (pv 0) rfl) pk_nil))))))), ?_⟩
    refine ⟨_, rfl, _, rfl, x, CJ, dx, _, _, rfl, hx, T.cl, T.nW, jf_writers, wr, ws, rfl, .inr hs, _, _, rfl, rfl, ?_⟩
    refine ⟨nv, dn, 0, (ws.length : Int) - 1, rfl, hd, _, rfl, ?_⟩
    rcases q with ⟨hn, q⟩ | ⟨k, dws, da, db, dc, dt, rfl, rfl, hk, ew, ea, eb, ec, et, q, qe⟩
    · rw [hn]
      exact iteT q
    · rw [isNum_at hk]
      refine iteF ?_
      refine ⟨_, rfl, x, CJ, dx, _, _, rfl, hx, T.cl, T.nW, jf_writers, _, rfl, _, rfl, slA_any hs fun r1 H1 x1 h1 => ?_⟩
      rw [cut_take (Nat.le_of_lt hk)] at h1
      refine ⟨r1, _, rfl, .inl h1, _, rfl, ?_⟩
      refine ⟨_, rfl, x, CJ, dx, _, _, rfl, x1 _ _ hx, T.cl, T.nW, jf_writers, _, rfl, _, _, rfl, rfl, _, rfl, ?_⟩
      unfold tNoPart
      dsimp only
      refine slA_any (lo := some ((k : Int) + 1)) (hi := none) (ex_t x1 hs) fun r2 H2 x2 h2 => ?_
      have h2' : SqT K H2 r2 (ws.drop (k + 1)) := by
        have e : cutV ws (some ((k : Int) + 1)) none = ws.drop (k + 1) := cut_drop (k := k + 1) hk
        rw [e] at h2
        exact h2
      have hz : (ws.take k ++ (tv :: (ws.drop (k + 1) ++ []))).length ≤ sizeLine := by
        rw [List.append_nil, List.length_append, List.length_cons, List.length_take, List.length_drop, sizeLine_eq]
        omega
      refine ⟨r2, _, rfl, .inl h2', hz, fun t ht => ?_⟩
      have x3 := (x1.trans x2).trans (Ex.new (o := .tup (ws.take k ++ (tv :: (ws.drop (k + 1) ++ [])))) ht)
      have hx3 := x3 _ _ hx
      refine ⟨_, rfl, _, rfl, x, CJ, dx, _, _, rfl, hx3, T.cl, T.nR, jf_writes, ?_⟩
      refine ⟨_, rfl, x, CJ, dx, _, _, rfl, hx3, T.cl, T.nB, jf_before, ?_⟩
      refine ⟨_, rfl, x, CJ, dx, _, _, rfl, hx3, T.cl, T.nF, jf_falls, ?_⟩
      refine ⟨rfl, rfl, fun y dy hy hdy ny => ?_⟩
      have x4 := ex_made (C := CJ) hy hdy ny
      have x5 := x3.trans x4
      have dw : Dp K (upd H2 t (.tup (ws.take k ++ (tv :: (ws.drop (k + 1) ++ []))))) (.ref t) (.tuple (dws.take k ++ dt :: dws.drop (k + 1))) := by
        refine .tup (SqT.of upd_same) (dps_ex x3 ?_)
        rw [List.append_nil]
        exact dps_append (dps_take k ew) (.cons et (dps_drop (k + 1) ew))
      refine ⟨y, dy, _, _, _, _, _, da, db, dc, rfl, upd_same, dp_ex x4 dw, dp_ex x5 ea, dp_ex x5 eb, dp_ex x5 ec, fun hf H' kk hy' => ⟨rfl, ?_⟩, fun n hf dd H' e hdd => qe n hf dd H' (x5.trans e) hdd⟩
      have x6 := kept_ex x4 hy kk
      exact q hf H' y (.ref t) (x3.trans x6) (dp_ex x6 dw) ⟨dy, hy'⟩
end
end K1

/-! K1m: the law's draws. -/
namespace K1
open PySem L2 Evl RZ
/-! ### what stands still while the law draws -/
/-- without the draw list at dl and the tables of code -/
def St (dl : Addr) (H : Hp) : Hp := fun b => if b = dl then none else match H b with
  | some (.tbl _) => none
  | o => o
def NoTbl : HO → Prop
  | .tbl _ => False
  | _ => True
theorem st_some {dl : Addr} {H : Hp} {b : Addr} {o : HO} (h : St dl H b = some o) : b ≠ dl ∧ H b = some o ∧ NoTbl o := by
  unfold St at h
  by_cases e : b = dl
  · rw [if_pos e] at h; cases h
  · rw [if_neg e] at h
    refine ⟨e, ?_⟩
    cases q : H b with
    | none => rw [q] at h; cases h
    | some u =>
      rw [q] at h
      cases u with
      | tbl ps => cases h
      | _ => cases h; exact ⟨rfl, trivial⟩
theorem st_mk {dl : Addr} {H : Hp} {b : Addr} {o : HO} (n : b ≠ dl) (h : H b = some o) (t : NoTbl o) : St dl H b = some o := by
  unfold St
  rw [if_neg n, h]
  cases o with
  | tbl ps => exact t.elim
  | _ => rfl
theorem st_le {dl : Addr} {H : Hp} : Ex (St dl H) H := fun b o h => (st_some h).2.1
def But (dl : Addr) (H H' : Hp) : Prop := ∀ b o, b ≠ dl → H b = some o → H' b = some o
theorem But.refl {dl : Addr} {H : Hp} : But dl H H := fun _ _ _ h => h
theorem But.trans {dl : Addr} {H H1 H2 : Hp} (a : But dl H H1) (b : But dl H1 H2) : But dl H H2 := fun x o n h => b x o n (a x o n h)
theorem Ex.but {dl : Addr} {H H' : Hp} (e : Ex H H') : But dl H H' := fun b o _ h => e b o h
theorem But.upd {dl : Addr} {H H' : Hp} {o : HO} (e : But dl H H') : But dl H (upd H' dl o) := fun b u n h => by
  rw [upd_ne n]
  exact e b u n h
theorem But.st {dl : Addr} {H H' : Hp} (e : But dl H H') : Ex (St dl H) (St dl H') := fun b o h => by
  obtain ⟨n, q, t⟩ := st_some h
  exact st_mk n (e b o n q) t
theorem ex_st {dl : Addr} {H H' : Hp} (e : Ex H H') : Ex (St dl H) (St dl H') := (Ex.but e).st
theorem st_new {dl p : Addr} {H : Hp} {o : HO} (n : p ≠ dl) (t : NoTbl o) : St dl (upd H p o) p = some o := st_mk n upd_same t
/-- the draw list at dl: the script at sc, whose numbers are ns -/
def Drw (K : PySem.W.Frag) (dl sc : Addr) (ns : List Int) (H : Hp) : Prop := ∃ n : Int, H dl = some (.lst [.ref sc, .int n]) ∧ SqL K (St dl H) sc (ns.map V.int)
section
variable {K : PySem.W.Frag} {dl sc : Addr} {ns : List Int} {H H' : Hp}
theorem Drw.ne (h : Drw K dl sc ns H) {p : Addr} (hp : H p = none) : p ≠ dl := fun e => by
  obtain ⟨n, h1, _⟩ := h
  rw [e, h1] at hp
  cases hp
theorem Drw.ex (h : Drw K dl sc ns H) (e : Ex H H') : Drw K dl sc ns H' := let ⟨n, h1, h2⟩ := h; ⟨n, e _ _ h1, ex_l (ex_st e) h2⟩
/-- a thing that H does not know is changed -/
theorem Drw.mut (h0 : Drw K dl sc ns H) (h : Drw K dl sc ns H') (b : But dl H H') {p : Addr} {o : HO} (hp : H p = none) : Drw K dl sc ns (upd H' p o) ∧ But dl H (upd H' p o) := by
  have b2 : But dl H (upd H' p o) := fun a u n e => by
    rw [upd_ne (ne_of_none e hp)]
    exact b a u n e
  obtain ⟨n, h1, _⟩ := h
  obtain ⟨_, _, h2⟩ := id h0
  exact ⟨⟨n, (upd_ne (h0.ne hp).symm).trans h1, ex_l b2.st h2⟩, b2⟩
theorem Drw.tup (h : Drw K dl sc ns H) {p : Addr} {xs : List V} (hp : H p = none) : Drw K dl sc ns (upd H p (.tup xs)) ∧ Ex H (upd H p (.tup xs)) ∧ SqT K (St dl (upd H p (.tup xs))) p xs :=
  ⟨h.ex (Ex.new hp), Ex.new hp, SqT.of (st_new (h.ne hp) trivial)⟩
theorem Drw.lst (h : Drw K dl sc ns H) {p : Addr} {xs : List V} (hp : H p = none) : Drw K dl sc ns (upd H p (.lst xs)) ∧ Ex H (upd H p (.lst xs)) ∧ SqL K (St dl (upd H p (.lst xs))) p xs :=
  ⟨h.ex (Ex.new hp), Ex.new hp, SqL.of (st_new (h.ne hp) trivial)⟩
end
section
variable {P : Program} {w : World} {K : PySem.W.Frag} {mg : Str → Option Value} {base : Heap}
/-! ### _law_number -/
theorem lay_ints : ∀ ns : List Int, PyData.canLayAll0 (ns.map PyData.int) = true
  | [] => by simp [PyData.canLayAll0]
  | n :: ns => by simp [PyData.canLayAll0, PyData.canLay0, lay_ints ns]
theorem depth_ints : ∀ ns : List Int, PyData.depthAll (ns.map PyData.int) = 0
  | [] => by simp [PyData.depthAll]
  | n :: ns => by simp [PyData.depthAll, PyData.depth, depth_ints ns]
theorem shaped_ints (ns : List Int) : SeqAt.shaped (.list (ns.map PyData.int)) = true := by
  unfold SeqAt.shaped
  simp [PyData.canLay0, PyData.depth, lay_ints, depth_ints]
theorem dps_int {H : Hp} : ∀ ns : List Int, DpAll K H (ns.map V.int) (ns.map PyData.int)
  | [] => .nil
  | n :: ns => .cons (.int n) (dps_int ns)
theorem eqv_nil (ns : List Int) : PyData.eqv (.list (ns.map PyData.int)) (.list []) = ns.isEmpty := by
  cases ns <;> simp [PyData.eqv, PyData.eqvAll]
def spNumber (K : PySem.W.Frag) : Sp := fun vs H Q _ => ∃ (sc : Addr) (i : Int) (ns : List Int), vs = [.ref sc, .int i] ∧ SqL K H sc (ns.map V.int) ∧ ∀ r H', Ex H H' → Q (.int r) H'
def nN8 : List Str := ["_law_script", "_law_index", "_law_cells", "_law_cell", "_law_low", "_law_high", "_law_total", "_law_blend"]
theorem scNumber : FnScope nN8 ["_law_script", "_law_index"] (defScope sNumber) := ⟨rfl, rfl, rfl, by decide +kernel, rfl, by decide +kernel, by decide +kernel⟩
theorem mod_bd {a b : Int} (h : 0 < b) (hb : b < 18446744073709551616) : -18446744073709551616 < a % b ∧ a % b < 18446744073709551616 := by
  have h1 := Int.emod_nonneg a (show b ≠ 0 by omega)
  have h2 := Int.emod_lt_of_pos a h
  omega
theorem cut_map {ns : List Int} {lo hi : Option Int} : cutV (ns.map V.int) lo hi = ((ns.drop (HT.sIx ns.length 0 lo)).take (HT.sIx ns.length ns.length hi - HT.sIx ns.length 0 lo)).map V.int := by
  unfold cutV
  rw [List.length_map, List.map_take, List.map_drop]
theorem number_tail {f : Addr} {cdv : Value} {A : Around} {outer : List Env} {s : Shared} {H : Hp} {E : XK} {Q : VK} {sc : Addr} {i : Int} (B : Blt mg) (q : ∀ r H', Ex H H' → Q (.int r) H') :
    ∃ t, PSs (cxOf CX0 P w K mg base nN8 "_law_number" (defScope sNumber) f cdv A outer s H E).nox ((defBody sNumber).drop 1) t ∧
      ∀ (r : Addr) (ms : List Int) (H' : Hp), Ex H H' → SqL K H' r (ms.map V.int) → 0 < ms.length → ms.length < 1000 → t { nx := fun _ H' => Q .non H', rt := Q } [some (.ref sc), some (.int i), some (.ref r), none, none, none, none, none] H' := by
  refine ⟨_, pss_cons (ps_set (i := 3) scNumber.nd rfl (Or.inl rfl) (pe_op op_add (pe_ix ix_list (pv 2) (pe_op op_mod (pe_callTy call_int1 (by rfl) B.int bo_int (pa_cons (pv 1) pa_nil)) (pe_callB call_len_seq (by rfl) B.len bo_len (pa_cons (pv 2) pa_nil))) (fun _ _ => rfl))
          (pe_op op_mul pe_int (pe_op op_fdiv (pv 1) (pe_callB call_len_seq (by rfl) B.len bo_len (pa_cons (pv 2) pa_nil))))))
      (pss_cons (ps_par (i := 4) (j := 5) rfl scNumber.nd rfl rfl (by decide) rfl rfl (pa_cons (pe_op op_mod (pe_callTy call_int1 (by rfl) B.int bo_int (pa_cons (pv 3) pa_nil)) pe_int)
          (pa_cons (pe_op op_mod (pe_callTy call_int1 (by rfl) B.int bo_int (pa_cons (pe_op op_fdiv (pv 3) pe_int) pa_nil)) pe_int) pa_nil)) rfl)
      (pss_cons (ps_set (i := 6) scNumber.nd rfl (Or.inl rfl) (pe_op op_mod (pe_callTy call_int1 (by rfl) B.int bo_int (pa_cons (pe_callB (cr_sum rfl) (by rfl) B.sum bo_sum (pa_cons (pv 2) pa_nil)) pa_nil)) pe_int))
      (pss_cons (ps_set (i := 7) scNumber.nd rfl (Or.inl rfl) (pe_op op_mod (pe_callTy call_int1 (by rfl) B.int bo_int (pa_cons (pe_op op_add (pe_op op_add (pe_op op_mul (pe_op op_add (pv 4) (pe_op op_mul pe_int (pv 1))) pe_int) (pe_op op_mul pe_int (pv 5))) (pv 6)) pa_nil)) pe_int))
      (pss_one (ps_ret (pe_op op_add (pe_op op_mul (pe_op op_mod (pe_callTy call_int1 (by rfl) B.int bo_int (pa_cons (pe_op op_mul (pv 7) (pe_op op_add (pe_op op_add (pv 7) (pe_op op_mul pe_int (pv 1))) pe_int)) pa_nil)) pe_int) pe_int) (pv 5))))))), fun r ms H' x1 sq h0 h1 => ?_⟩
  have hl : (ms.map V.int).length = ms.length := List.length_map ..
  have hp : (0 : Int) < ((ms.map V.int).length : Int) := by rw [hl]; omega
  have hb : ((ms.map V.int).length : Int) < 1073741824 := by rw [hl]; omega
  obtain ⟨j, hj, hjl⟩ : ∃ j : Nat, i % ((ms.map V.int).length : Int) = j ∧ j < ms.length := by
    have g1 := Int.emod_nonneg i (show ((ms.map V.int).length : Int) ≠ 0 by omega)
    have g2 := Int.emod_lt_of_pos i hp
    refine ⟨(i % ((ms.map V.int).length : Int)).toNat, by omega, ?_⟩
    rw [← hl]
    omega
  have at1 : atI (ms.map V.int) (i % ((ms.map V.int).length : Int)) = some (.int ms[j]) := by
    rw [hj]
    refine atI_nat ?_
    rw [List.getElem?_map, List.getElem?_eq_getElem hjl]
    rfl
  have b64 : ∀ {a b : Int}, 0 < b → b < 18446744073709551616 → -(2 ^ 64) < a % b ∧ a % b < 2 ^ 64 := fun {a b} u v => mod_bd u v
  refine ⟨_, rfl, _, rfl, .inl ⟨i, rfl, _, rfl, r, _, rfl, .inl sq, _, _, rfl, rfl, hp, r, _, _, _, rfl, rfl, sq, at1, ?_⟩⟩
  refine ⟨_, rfl, _, rfl, r, _, rfl, .inl sq, _, _, rfl, rfl, ⟨hp, hb⟩, _, _, rfl, rfl, .inl ⟨by decide, by decide⟩, _, _, rfl, rfl, ?_⟩
  refine ⟨_, rfl, .inl ⟨_, rfl, _, _, rfl, rfl, (by decide : (0 : Int) < 1000003), ?_⟩⟩
  refine ⟨_, rfl, _, _, rfl, rfl, ⟨(by decide : (0 : Int) < 1000003), (by decide : (1000003 : Int) < 1073741824)⟩, .inl ⟨_, rfl, _, _, rfl, rfl, (by decide : (0 : Int) < 999983), _, _, rfl, ?_⟩⟩
  refine ⟨_, rfl, r, ms, rfl, sq, .inl ⟨_, rfl, _, _, rfl, rfl, (by decide : (0 : Int) < 65521), ?_⟩⟩
  refine ⟨_, rfl, _, rfl, _, _, rfl, rfl, .inl ⟨by decide, by decide⟩, _, _, rfl, rfl, _, _, rfl, rfl, .inr ⟨by decide, by decide⟩, ?_⟩
  refine ⟨_, rfl, _, _, rfl, rfl, .inl ⟨by decide, by decide⟩, _, _, rfl, rfl, _, rfl, _, _, rfl, rfl, .inl ⟨_, rfl, _, _, rfl, rfl, (by decide : (0 : Int) < 2147483647), ?_⟩⟩
  refine ⟨_, rfl, _, rfl, _, rfl, _, _, rfl, rfl, .inl ⟨by decide, by decide⟩, _, _, rfl, rfl, _, _, rfl, rfl, _, _, rfl, rfl, .inl (b64 (by decide) (by decide)), .inl ⟨_, rfl, _, _, rfl, rfl, (by decide : (0 : Int) < 2147483629), ?_⟩⟩
  refine ⟨_, _, rfl, rfl, .inr ⟨by decide, by decide⟩, _, rfl, _, _, rfl, rfl, q _ _ x1⟩
theorem ok_number {f : Addr} {fd : FuncData} (F : Fun K "_law_number" "_law_number" sNumber f fd) (B : Blt mg) : FnOk P w K mg base CX0 1 f fd ["_law_script", "_law_index"] (spNumber K) := by
  refine F.ok scNumber (fun vs H Q E h => ?_) (fun cdv A outer s H vs Q E hr h => ?_)
  · obtain ⟨sc, i, ns, rfl, _⟩ := h
    rfl
  · obtain ⟨sc, i, ns, rfl, hs, q⟩ := h
    obtain ⟨t, pt, qt⟩ := number_tail (P := P) (w := w) (K := K) (base := base) (f := f) (cdv := cdv) (A := A) (outer := outer) (s := s) (E := E) (sc := sc) (i := i) B q
    refine ⟨_, pss_cons (ps_set (i := 2) scNumber.nd rfl (Or.inl rfl) (pe_ifExp (pt_cmpR (op_neD hr.units) (pv 0) (pe_lst pa_nil) (nomark _)) (pe_slice sl_list (pv 0) po_none (po_some pe_int)) (pe_lst (pa_cons pe_int pa_nil)))) pt, ?_⟩
    have sN : ∀ l : List Int, SeqAt.shaped (.list (l.map PyData.int)) = true := shaped_ints
    refine ⟨_, rfl, Nat.zero_le _, fun l hl => ⟨.list (ns.map PyData.int), .list [], .lst (ex_l (Ex.new hl) hs) (dps_int ns), .lst (SqL.of upd_same) .nil, sN ns, sN [], _, rfl, ?_⟩⟩
    have x0 : Ex H (upd H l (.lst [])) := Ex.new hl
    rw [eqv_nil]
    refine ite2 (fun c1 => ?_) (fun c1 => ?_)
    · refine ⟨_, rfl, _, rfl, sc, _, rfl, ex_l x0 hs, fun r hr => ?_⟩
      rw [cut_map]
      have e63 : HT.sIx ns.length ns.length (some 63) = min 63 ns.length := HT.sIx_nat _ _ 63
      have hn : ns.length ≠ 0 := fun z => by
        rw [List.length_eq_zero_iff.mp z] at c1
        cases c1
      refine qt r _ _ (x0.trans (Ex.new hr)) (SqL.of upd_same) ?_ ?_
      · rw [List.length_take, List.length_drop, e63, HT.sIx_none]
        omega
      · rw [List.length_take, List.length_drop, e63, HT.sIx_none]
        omega
    · refine ⟨(show 1 ≤ sizeLine from by rw [sizeLine_eq]; decide), fun r hr => qt r [5] _ (x0.trans (Ex.new hr)) (SqL.of upd_same) (by decide) (by decide)⟩
end
end K1

/-! K1n: _law_take, _law_pick. -/
namespace K1
open PySem L2 Evl RZ
section
variable {P : Program} {w : World} {K : PySem.W.Frag} {mg : Str → Option Value} {base : Heap}
def spTake (K : PySem.W.Frag) : Sp := fun vs H Q _ => ∃ (dl sc : Addr) (ns : List Int) (m : Int), vs = [.ref dl, .int m] ∧ 0 < m ∧ Drw K dl sc ns H ∧ ∀ r H', 0 ≤ r → r < m → But dl H H' → Drw K dl sc ns H' → Q (.int r) H'
theorem scTake : FnScope ["_law_draw", "_law_many"] ["_law_draw", "_law_many"] (defScope sTake) := ⟨rfl, rfl, rfl, by decide +kernel, rfl, by decide +kernel, by decide +kernel⟩
theorem ok_take {f fn : Addr} {fd fdn : FuncData} (F : Fun K "_law_take" "_law_take" sTake f fd) (B : Blt mg) (G : FnOk P w K mg base CX0 1 fn fdn ["_law_script", "_law_index"] (spNumber K)) (k : PySem.W.keepIn K (.ref fn) = true) (g : mg "_law_number" = some (.ref fn)) (b : Binds K fdn ["_law_script", "_law_index"] []) :
    FnOk P w K mg base CX0 2 f fd ["_law_draw", "_law_many"] (spTake K) := by
  refine F.ok scTake (fun vs H Q E h => ?_) (fun cdv A outer s H vs Q E hr h => ?_)
  · obtain ⟨dl, sc, ns, m, rfl, _⟩ := h
    rfl
  · obtain ⟨dl, sc, ns, m, rfl, hm, ⟨n, hdl, hsc⟩, q⟩ := h
    refine ⟨_, pss_cons (ps_asg (pe_op op_add (pe_ix ix_list (pv 0) pe_int (fun _ _ => rfl)) pe_int) (pg_sub (pv 0) pe_int set_list))
      (pss_one (ps_ret (pe_op op_mod (pe_callTy call_int1 (by rfl) B.int bo_int (pa_cons (pe_call G hr rfl g k b .nil pass0 (pa_cons (pe_ix ix_list (pv 0) pe_int (fun _ _ => rfl)) (pa_cons (pe_callTy call_int1 (by rfl) B.int bo_int (pa_cons (pe_ix ix_list (pv 0) pe_int (fun _ _ => rfl)) pa_nil)) pa_nil))) pa_nil)) (pv 1)))), ?_⟩
    have b1 : But dl H (upd H dl (.lst [.ref sc, .int (n + 1)])) := But.refl.upd
    have hsc1 : SqL K (upd H dl (.lst [.ref sc, .int (n + 1)])) sc (ns.map V.int) := ex_l ((But.st b1).trans st_le) hsc
    refine ⟨_, rfl, dl, [.ref sc, .int n], 1, .int n, rfl, rfl, SqL.of hdl, rfl, _, _, rfl, rfl, ?_⟩
    refine ⟨_, rfl, dl, [.ref sc, .int n], 1, 1, rfl, rfl, hdl, rfl, ?_⟩
    refine ⟨_, rfl, dl, [.ref sc, .int (n + 1)], 0, .ref sc, rfl, rfl, SqL.of upd_same, rfl, _, rfl, dl, [.ref sc, .int (n + 1)], 1, .int (n + 1), rfl, rfl, SqL.of upd_same, rfl, .inl ⟨_, rfl, ?_⟩⟩
    refine ⟨sc, n + 1, ns, rfl, hsc1, fun r H' e => .inl ⟨_, rfl, _, rfl, _, _, rfl, rfl, hm, ?_⟩⟩
    have b2 := b1.trans (Ex.but (dl := dl) e)
    exact q _ H' (Int.emod_nonneg r (by omega)) (Int.emod_lt_of_pos r hm) b2 ⟨n + 1, e _ _ upd_same, ex_l (But.st b2) hsc⟩
def spPick (K : PySem.W.Frag) : Sp := fun vs H Q _ => ∃ (dl sc : Addr) (ns : List Int) (th : Addr) (xs : List V), vs = [.ref dl, .ref th] ∧ SqL K (St dl H) th xs ∧ xs ≠ [] ∧ Drw K dl sc ns H ∧ ∀ (k : Nat) x H', xs[k]? = some x → But dl H H' → Drw K dl sc ns H' → Q x H'
theorem scPick : FnScope ["_law_draw", "_law_things"] ["_law_draw", "_law_things"] (defScope sPick) := ⟨rfl, rfl, rfl, by decide +kernel, rfl, by decide +kernel, by decide +kernel⟩
theorem ok_pick {f fn : Addr} {fd fdn : FuncData} (F : Fun K "_law_pick" "_law_pick" sPick f fd) (B : Blt mg) (G : FnOk P w K mg base CX0 2 fn fdn ["_law_draw", "_law_many"] (spTake K)) (k : PySem.W.keepIn K (.ref fn) = true) (g : mg "_law_take" = some (.ref fn)) (b : Binds K fdn ["_law_draw", "_law_many"] []) :
    FnOk P w K mg base CX0 3 f fd ["_law_draw", "_law_things"] (spPick K) := by
  refine F.ok scPick (fun vs H Q E h => ?_) (fun cdv A outer s H vs Q E hr h => ?_)
  · obtain ⟨dl, sc, ns, th, xs, rfl, _⟩ := h
    rfl
  · obtain ⟨dl, sc, ns, th, xs, rfl, hs, hne, hD, q⟩ := h
    refine ⟨_, pss_one (ps_ret (pe_ix ix_list (pv 1) (pe_call G hr rfl g k b .nil pass0 (pa_cons (pv 0) (pa_cons (pe_callB call_len_seq (by rfl) B.len bo_len (pa_cons (pv 1) pa_nil)) pa_nil))) (fun _ _ => rfl))), ?_⟩
    have hl : (0 : Int) < (xs.length : Int) := by
      cases xs with
      | nil => exact absurd rfl hne
      | cons x xs => rw [List.length_cons]; omega
    refine ⟨_, rfl, _, rfl, _, rfl, th, xs, rfl, .inl (ex_l st_le hs), dl, sc, ns, _, rfl, hl, hD, fun r H' h0 h1 hb hD' => ?_⟩
    obtain ⟨j, rfl⟩ := Int.eq_ofNat_of_zero_le h0
    have hj : j < xs.length := by omega
    have e : xs[j]? = some xs[j] := List.getElem?_eq_getElem hj
    exact ⟨th, xs, _, _, rfl, rfl, ex_l ((But.st hb).trans st_le) hs, atI_nat e, q j _ H' e hb hD'⟩
end
end K1

/-! K1o: _law_writer. -/
namespace K1
open PySem L2 Evl RZ
def lineSets : List (List Int) := [[1], [2], [1, 1], [3], [2, 1], [1, 2]]
def gw (ls : List Int) (a b c : Str) : D := .tuple [.tuple (ls.map PyData.int), .str a, .str b, .str c]
/-- a drawn writer -/
def GoodW (d : D) : Prop := ∃ ls a b c, d = gw ls a b c ∧ ls ∈ lineSets ∧ a ∈ wPlace ∧ b ∈ wKeep ∧ c ∈ wOpen
theorem pick_str {ws : List Str} {k : Nat} {x : V} (h : (ws.map V.str)[k]? = some x) : ∃ a ∈ ws, x = .str a := by
  rw [List.getElem?_map] at h
  cases e : ws[k]? with
  | none => rw [e] at h; cases h
  | some a =>
    rw [e] at h
    exact ⟨a, List.mem_of_getElem? e, (Option.some.inj h).symm⟩
theorem catA {K : PySem.W.Frag} {a b : Addr} {xs ys : List V} {H : Hp} {Q : VK} (ha : SqT K H a xs) (hb : SqT K H b ys) (hz : xs.length + ys.length ≤ 1000) (hx : xs ≠ []) (hy : ys ≠ []) (q : ∀ p, H p = none → Q (.ref p) (upd H p (.tup (xs ++ ys)))) : rCatA K (.ref a) (.ref b) H Q :=
  ⟨a, b, xs, ys, rfl, rfl, ha, hb, Nat.le_trans hz (by rw [sizeLine_eq]; decide), fun h => absurd h hx, fun _ h => absurd h hy, fun _ _ => q⟩
theorem sz8 {n : Nat} (h : n ≤ 1000) : n ≤ sizeLine := Nat.le_trans h (by rw [sizeLine_eq]; decide)
section
variable {P : Program} {w : World} {K : PySem.W.Frag} {mg : Str → Option Value} {base : Heap}
def spWriter (K : PySem.W.Frag) : Sp := fun vs H Q _ => ∃ (dl sc : Addr) (ns : List Int) (m : Int), vs = [.ref dl, .int m] ∧ (m = 2 ∨ m = 3) ∧ Drw K dl sc ns H ∧ ∀ r H' d, GoodW d → Dp K (St dl H') r d → But dl H H' → Drw K dl sc ns H' → Q r H'
def rN4 : List Str := ["_law_draw", "_law_most", "_law_lines", "_law_words"]
theorem scDrawW : FnScope rN4 ["_law_draw", "_law_most"] (defScope sWriter) := ⟨rfl, rfl, rfl, by decide +kernel, rfl, by decide +kernel, by decide +kernel⟩
theorem writer_tail {f fp : Addr} {fdp : FuncData} {cdv : Value} {A : Around} {outer : List Env} {s : Shared} {H : Hp} {E : XK} {Q : VK} {dl sc : Addr} {ns : List Int} {m : Int} (G : FnOk P w K mg base CX0 3 fp fdp ["_law_draw", "_law_things"] (spPick K)) (k : PySem.W.keepIn K (.ref fp) = true) (g : mg "_law_pick" = some (.ref fp)) (b : Binds K fdp ["_law_draw", "_law_things"] [])
    (hr : Room 3 (A.deeper (PyProof.Rows.envOfC "_law_writer" (defScope sWriter) s.heap.objs.size f cdv))) (q : ∀ r H' d, GoodW d → Dp K (St dl H') r d → But dl H H' → Drw K dl sc ns H' → Q r H') :
    ∃ t, PSs (cxOf CX0 P w K mg base rN4 "_law_writer" (defScope sWriter) f cdv A outer s H E).nox ((defBody sWriter).drop 2) t ∧
      ∀ (r : Addr) (ls : List Int) (H' : Hp), But dl H H' → Drw K dl sc ns H' → SqT K (St dl H') r (ls.map V.int) → ls ∈ lineSets → t { nx := fun _ H' => Q .non H', rt := Q } [some (.ref dl), some (.int m), some (.ref r), none] H' := by
  refine ⟨_, pss_cons (ps_set (i := 3) scDrawW.nd rfl (Or.inl rfl) (pe_tup (pa_cons (pe_call G hr rfl g k b .nil pass0 (pa_cons (pv 0) (pa_cons (pe_lst (pa_cons pe_str (pa_cons pe_str (pa_cons pe_str pa_nil)))) pa_nil)))
        (pa_cons (pe_call G hr rfl g k b .nil pass0 (pa_cons (pv 0) (pa_cons (pe_lst (pa_cons pe_str (pa_cons pe_str (pa_cons pe_str pa_nil)))) pa_nil))) pa_nil))))
    (pss_one (ps_ret (pe_op op_catA (pe_op op_catA (pe_tup (pa_cons (pv 2) pa_nil)) (pv 3)) (pe_tup (pa_cons (pe_call G hr rfl g k b .nil pass0 (pa_cons (pv 0) (pa_cons (pe_lst (pa_cons pe_str (pa_cons pe_str (pa_cons pe_str pa_nil)))) pa_nil))) pa_nil))))),
    fun r ls H1 b1 D1 sq hls => ?_⟩
  refine ⟨_, rfl, sz8 (by decide), fun l1 hl1 => ?_⟩
  obtain ⟨D2, e2, s2⟩ := D1.lst (xs := wPlace.map V.str) hl1
  have b2 := b1.trans (Ex.but e2)
  refine ⟨dl, sc, ns, l1, wPlace.map V.str, rfl, s2, by decide, D2, fun k1 x1 H3 hk1 b3 D3 => ?_⟩
  obtain ⟨a, ha, rfl⟩ := pick_str hk1
  have b3' := b2.trans b3
  refine ⟨_, rfl, sz8 (by decide), fun l2 hl2 => ?_⟩
  obtain ⟨D4, e4, s4⟩ := D3.lst (xs := wKeep.map V.str) hl2
  refine ⟨dl, sc, ns, l2, wKeep.map V.str, rfl, s4, by decide, D4, fun k2 x2 H5 hk2 b5 D5 => ?_⟩
  obtain ⟨b, hb, rfl⟩ := pick_str hk2
  refine ⟨sz8 (show 2 ≤ 1000 by decide), fun t1 ht1 => ?_⟩
  obtain ⟨D6, e6, s6⟩ := D5.tup (xs := [.str a, .str b]) ht1
  have q6 := (Ex.but (dl := dl) e2).trans (b3.trans ((Ex.but e4).trans (b5.trans (Ex.but e6))))
  have sq6 := ex_t (But.st q6) sq
  refine ⟨_, rfl, sz8 (show 1 ≤ 1000 by decide), fun t2 ht2 => ?_⟩
  obtain ⟨D7, e7, s7⟩ := D6.tup (xs := [.ref r]) ht2
  refine ⟨_, rfl, ?_⟩
  refine catA (xs := [V.ref r]) (ys := [V.str a, V.str b]) (ex_t st_le s7) (ex_t ((ex_st e7).trans st_le) s6) (show 3 ≤ 1000 by decide) (by simp) (by simp) fun t3 ht3 => ?_
  obtain ⟨D8, e8, s8⟩ := D7.tup (xs := [.ref r] ++ [.str a, .str b]) ht3
  refine ⟨_, rfl, sz8 (by decide), fun l3 hl3 => ?_⟩
  obtain ⟨D9, e9, s9⟩ := D8.lst (xs := (["empties", "leaves", "leaves"] : List Str).map V.str) hl3
  refine ⟨dl, sc, ns, l3, (["empties", "leaves", "leaves"] : List Str).map V.str, rfl, s9, by decide, D9, fun k3 x3 H10 hk3 b10 D10 => ?_⟩
  obtain ⟨c, hc, rfl⟩ := pick_str hk3
  refine ⟨sz8 (show 1 ≤ 1000 by decide), fun t4 ht4 => ?_⟩
  obtain ⟨D11, e11, s11⟩ := D10.tup (xs := [.str c]) ht4
  have q11 := (Ex.but (dl := dl) e9).trans (b10.trans (Ex.but e11))
  refine catA (xs := [V.ref r] ++ [V.str a, V.str b]) (ys := [V.str c]) (ex_t ((But.st q11).trans st_le) s8) (ex_t st_le s11) (show 4 ≤ 1000 by decide) (by simp) (by simp) fun t5 ht5 => ?_
  obtain ⟨D12, e12, s12⟩ := D11.tup (xs := [.ref r] ++ [.str a, .str b] ++ [.str c]) ht5
  have q12 := (Ex.but (dl := dl) e7).trans ((Ex.but e8).trans (q11.trans (Ex.but e12)))
  have sq12 := ex_t (But.st q12) sq6
  refine q (.ref t5) _ (gw ls a b c) ⟨ls, a, b, c, rfl, hls, ha, hb, by simpa [wOpen] using hc⟩ (.tup s12 (.cons (.tup sq12 (dps_int ls)) (.cons (.str a) (.cons (.str b) (.cons (.str c) .nil))))) (b1.trans (q6.trans q12)) D12
theorem ok_drawW {f fp : Addr} {fd fdp : FuncData} (F : Fun K "_law_writer" "_law_writer" sWriter f fd) (B : Blt mg) (G : FnOk P w K mg base CX0 3 fp fdp ["_law_draw", "_law_things"] (spPick K)) (k : PySem.W.keepIn K (.ref fp) = true) (g : mg "_law_pick" = some (.ref fp)) (b : Binds K fdp ["_law_draw", "_law_things"] []) :
    FnOk P w K mg base CX0 4 f fd ["_law_draw", "_law_most"] (spWriter K) := by
  refine F.ok scDrawW (fun vs H Q E h => ?_) (fun cdv A outer s H vs Q E hr h => ?_)
  · obtain ⟨dl, sc, ns, m, rfl, _⟩ := h
    rfl
  · obtain ⟨dl, sc, ns, m, rfl, hm, D0, q⟩ := h
    obtain ⟨t, pt, qt⟩ := writer_tail (P := P) (w := w) (K := K) (base := base) (f := f) (cdv := cdv) (A := A) (outer := outer) (s := s) (E := E) (m := m) G k g b hr q
    refine ⟨_, pss_cons (ps_set (i := 2) scDrawW.nd rfl (Or.inl rfl) (pe_call G hr rfl g k b .nil pass0 (pa_cons (pv 0) (pa_cons (pe_lst ((pa_cons (pe_tup (pa_cons pe_int (pa_nil))) (pa_cons (pe_tup (pa_cons pe_int (pa_nil))) (pa_cons (pe_tup (pa_cons pe_int (pa_cons pe_int (pa_nil)))) (pa_cons (pe_tup (pa_cons pe_int (pa_nil))) (pa_cons (pe_tup (pa_cons pe_int (pa_cons pe_int (pa_nil)))) (pa_cons (pe_tup (pa_cons pe_int (pa_nil))) (pa_cons (pe_tup (pa_cons pe_int (pa_cons pe_int (pa_nil)))) (pa_cons (pe_tup (pa_cons pe_int (pa_cons pe_int (pa_nil)))) pa_nil)))))))))) pa_nil))))
      (pss_cons (ps_set (i := 2) scDrawW.nd rfl (Or.inl rfl) (pe_ifExp (pt_cmpR op_le (pe_callB (cr_sumT rfl) (by rfl) B.sum bo_sum (pa_cons (pv 2) pa_nil)) (pv 1) (nomark _)) (pv 2) (pe_tup (pa_cons (pv 1) pa_nil)))) pt), ?_⟩
    refine ⟨_, rfl, ?_⟩
    refine ⟨sz8 (show 1 ≤ 1000 by decide), fun p0 h0 => ?_⟩
    obtain ⟨D1, e1, s1⟩ := D0.tup (xs := ([1] : List Int).map V.int) h0
    refine ⟨sz8 (show 1 ≤ 1000 by decide), fun p1 h1 => ?_⟩
    obtain ⟨D2, e2, s2⟩ := D1.tup (xs := ([2] : List Int).map V.int) h1
    refine ⟨sz8 (show 2 ≤ 1000 by decide), fun p2 h2 => ?_⟩
    obtain ⟨D3, e3, s3⟩ := D2.tup (xs := ([1, 1] : List Int).map V.int) h2
    refine ⟨sz8 (show 1 ≤ 1000 by decide), fun p3 h3 => ?_⟩
    obtain ⟨D4, e4, s4⟩ := D3.tup (xs := ([2] : List Int).map V.int) h3
    refine ⟨sz8 (show 2 ≤ 1000 by decide), fun p4 h4 => ?_⟩
    obtain ⟨D5, e5, s5⟩ := D4.tup (xs := ([1, 1] : List Int).map V.int) h4
    refine ⟨sz8 (show 1 ≤ 1000 by decide), fun p5 h5 => ?_⟩
    obtain ⟨D6, e6, s6⟩ := D5.tup (xs := ([3] : List Int).map V.int) h5
    refine ⟨sz8 (show 2 ≤ 1000 by decide), fun p6 h6 => ?_⟩
    obtain ⟨D7, e7, s7⟩ := D6.tup (xs := ([2, 1] : List Int).map V.int) h6
    refine ⟨sz8 (show 2 ≤ 1000 by decide), fun p7 h7 => ?_⟩
    obtain ⟨D8, e8, s8⟩ := D7.tup (xs := ([1, 2] : List Int).map V.int) h7
    refine ⟨sz8 (show 8 ≤ 1000 by decide), fun l hl => ?_⟩
    obtain ⟨D9, e9, s9⟩ := D8.lst (xs := [V.ref p0, V.ref p1, V.ref p2, V.ref p3, V.ref p4, V.ref p5, V.ref p6, V.ref p7]) hl
    have g8 := e9
    have g7 := e8.trans g8
    have g6 := e7.trans g7
    have g5 := e6.trans g6
    have g4 := e5.trans g5
    have g3 := e4.trans g4
    have g2 := e3.trans g3
    have g1 := e2.trans g2
    have g0 := e1.trans g1
    refine ⟨dl, sc, ns, l, [V.ref p0, V.ref p1, V.ref p2, V.ref p3, V.ref p4, V.ref p5, V.ref p6, V.ref p7], rfl, s9, by simp, D9, fun k x H' hk b1 D' => ?_⟩
    obtain ⟨r, ls, rfl, hls, sq⟩ : ∃ (r : Addr) (ls : List Int), x = .ref r ∧ ls ∈ lineSets ∧ SqT K (St dl H') r (ls.map V.int) := by
      match k, hk with
      | 0, hk => cases hk; exact ⟨p0, [1], rfl, by decide, ex_t ((ex_st g1).trans (But.st b1)) s1⟩
      | 1, hk => cases hk; exact ⟨p1, [2], rfl, by decide, ex_t ((ex_st g2).trans (But.st b1)) s2⟩
      | 2, hk => cases hk; exact ⟨p2, [1, 1], rfl, by decide, ex_t ((ex_st g3).trans (But.st b1)) s3⟩
      | 3, hk => cases hk; exact ⟨p3, [2], rfl, by decide, ex_t ((ex_st g4).trans (But.st b1)) s4⟩
      | 4, hk => cases hk; exact ⟨p4, [1, 1], rfl, by decide, ex_t ((ex_st g5).trans (But.st b1)) s5⟩
      | 5, hk => cases hk; exact ⟨p5, [3], rfl, by decide, ex_t ((ex_st g6).trans (But.st b1)) s6⟩
      | 6, hk => cases hk; exact ⟨p6, [2, 1], rfl, by decide, ex_t ((ex_st g7).trans (But.st b1)) s7⟩
      | 7, hk => cases hk; exact ⟨p7, [1, 2], rfl, by decide, ex_t ((ex_st g8).trans (But.st b1)) s8⟩
      | k + 8, hk => cases hk
    have bb := (Ex.but (dl := dl) g0).trans b1
    refine ⟨_, rfl, r, ls, rfl, ex_t st_le sq, _, rfl, _, _, rfl, rfl, _, rfl, ite2 (fun _ => ?_) (fun _ => ?_)⟩
    · exact ⟨_, rfl, qt r ls H' bb D' sq hls⟩
    · refine ⟨_, rfl, sz8 (show 1 ≤ 1000 by decide), fun z hz => ?_⟩
      obtain ⟨D10, e10, s10⟩ := D'.tup (xs := ([m] : List Int).map V.int) hz
      refine qt z [m] _ (bb.trans (Ex.but e10)) D10 s10 ?_
      rcases hm with rfl | rfl <;> decide
end
end K1

/-! K1p: _law_parts. -/
namespace K1
open PySem L2 Evl RZ
/-- the parts of a drawn job -/
structure PartsAt (K : PySem.W.Frag) (S : Hp) (t wt : Addr) (wvs : List V) (ws : List D) (a : Str) (b : Int) (c : Str) : Prop where
  top : SqT K S t [.ref wt, .str a, .int b, .str c]
  wts : SqT K S wt wvs
  dps : DpAll K S wvs ws
  len : ws.length = 1 ∨ ws.length = 2
  good : ∀ d ∈ ws, GoodW d
  ha : a ∈ rWrites
  hb : b = 0 ∨ b = 1 ∨ b = 2
  hc : c ∈ rFalls
theorem PartsAt.ex {K : PySem.W.Frag} {S S' : Hp} {t wt : Addr} {wvs : List V} {ws : List D} {a : Str} {b : Int} {c : Str} (h : PartsAt K S t wt wvs ws a b c) (e : Ex S S') : PartsAt K S' t wt wvs ws a b c :=
  ⟨ex_t e h.top, ex_t e h.wts, dps_ex e h.dps, h.len, h.good, h.ha, h.hb, h.hc⟩
/-! ### data without lists stands while a list changes -/
mutual
def noL : D → Bool
  | .list _ => false
  | .tuple ds => noLs ds
  | _ => true
def noLs : List D → Bool
  | [] => true
  | d :: ds => noL d && noLs ds
end
theorem sqt_but {K : PySem.W.Frag} {S S' : Hp} {l a : Addr} {ys xs : List V} (hl : S l = some (.lst ys)) (k : ∀ b o, b ≠ l → S b = some o → S' b = some o) (h : SqT K S a xs) : SqT K S' a xs := by
  rcases h with h | h
  · left
    rcases h with h | ⟨o, h⟩
    · exact .inl (k a _ (fun e => by rw [e, hl] at h; cases h) h)
    · exact .inr ⟨o, k a _ (fun e => by rw [e, hl] at h; cases h) h⟩
  · exact .inr h
mutual
theorem dp_but {K : PySem.W.Frag} {S S' : Hp} {l : Addr} {ys : List V} (hl : S l = some (.lst ys)) (k : ∀ b o, b ≠ l → S b = some o → S' b = some o) : ∀ {d : D} {v : V}, noL d = true → Dp K S v d → Dp K S' v d
  | .none, _, _, .non => .non
  | .bool _, _, _, .bl b => .bl b
  | .int _, _, _, .int i => .int i
  | .str _, _, _, .str x => .str x
  | .list _, _, h, _ => by simp [noL] at h
  | .tuple ds, _, h, .tup s a => .tup (sqt_but hl k s) (dps_but hl k (by simpa [noL] using h) a)
theorem dps_but {K : PySem.W.Frag} {S S' : Hp} {l : Addr} {ys : List V} (hl : S l = some (.lst ys)) (k : ∀ b o, b ≠ l → S b = some o → S' b = some o) : ∀ {ds : List D} {vs : List V}, noLs ds = true → DpAll K S vs ds → DpAll K S' vs ds
  | [], _, _, .nil => .nil
  | d :: ds, _, h, .cons e a => by
    have h' : noL d = true ∧ noLs ds = true := by simpa [noLs] using h
    exact .cons (dp_but hl k h'.1 e) (dps_but hl k h'.2 a)
end
theorem noL_ints : ∀ ls : List Int, noLs (ls.map PyData.int) = true
  | [] => by simp [noLs]
  | n :: ls => by simp [noLs, noL, noL_ints ls]
theorem noL_good {d : D} (h : GoodW d) : noL d = true := by
  obtain ⟨ls, a, b, c, rfl, _⟩ := h
  simp [gw, noL, noLs, noL_ints]
section
variable {P : Program} {w : World} {K : PySem.W.Frag} {mg : Str → Option Value} {base : Heap}
def spParts (K : PySem.W.Frag) : Sp := fun vs H Q _ => ∃ (dl sc : Addr) (ns : List Int), vs = [.ref dl, .int 3] ∧ Drw K dl sc ns H ∧ ∀ t wt wvs ws a b c H', PartsAt K (St dl H') t wt wvs ws a b c → But dl H H' → Drw K dl sc ns H' → Q (.ref t) H'
def pN4 : List Str := ["_law_draw", "_law_most", "_law_writers", "_law_rules"]
theorem scParts : FnScope pN4 ["_law_draw", "_law_most"] (defScope sParts) := ⟨rfl, rfl, rfl, by decide +kernel, rfl, by decide +kernel, by decide +kernel⟩
theorem parts_tail {f fp : Addr} {fdp : FuncData} {cdv : Value} {A : Around} {outer : List Env} {s : Shared} {H : Hp} {E : XK} {Q : VK} {dl sc : Addr} {ns : List Int} (B : Blt mg) (G : FnOk P w K mg base CX0 3 fp fdp ["_law_draw", "_law_things"] (spPick K)) (k : PySem.W.keepIn K (.ref fp) = true) (g : mg "_law_pick" = some (.ref fp)) (b : Binds K fdp ["_law_draw", "_law_things"] [])
    (hr : Room 3 (A.deeper (PyProof.Rows.envOfC "_law_parts" (defScope sParts) s.heap.objs.size f cdv))) (q : ∀ t wt wvs ws a b c H', PartsAt K (St dl H') t wt wvs ws a b c → But dl H H' → Drw K dl sc ns H' → Q (.ref t) H') :
    ∃ t, PSs (cxOf CX0 P w K mg base pN4 "_law_parts" (defScope sParts) f cdv A outer s H E).nox ((defBody sParts).drop 2) t ∧
      ∀ (l : Addr) (wvs : List V) (ws : List D) (H' : Hp), But dl H H' → Drw K dl sc ns H' → SqL K (St dl H') l wvs → DpAll K (St dl H') wvs ws → (ws.length = 1 ∨ ws.length = 2) → (∀ d ∈ ws, GoodW d) → t { nx := fun _ H' => Q .non H', rt := Q } [some (.ref dl), some (.int 3), some (.ref l), none] H' := by
  refine ⟨_, pss_cons (ps_set (i := 3) scParts.nd rfl (Or.inl rfl) (pe_tup (pa_cons (pe_call G hr rfl g k b .nil pass0 (pa_cons (pv 0) (pa_cons (pe_lst (pa_cons pe_str (pa_cons pe_str (pa_cons pe_str pa_nil)))) pa_nil)))
        (pa_cons (pe_call G hr rfl g k b .nil pass0 (pa_cons (pv 0) (pa_cons (pe_lst (pa_cons pe_int (pa_cons pe_int (pa_cons pe_int (pa_cons pe_int pa_nil))))) pa_nil))) pa_nil))))
    (pss_one (ps_ret (pe_op op_catA (pe_op op_catA (pe_tup (pa_cons (pe_callTy call_tuple_of (by rfl) B.tuple bo_tuple (pa_cons (pv 2) pa_nil)) pa_nil)) (pv 3)) (pe_tup (pa_cons (pe_call G hr rfl g k b .nil pass0 (pa_cons (pv 0) (pa_cons (pe_lst (pa_cons pe_str (pa_cons pe_str (pa_cons pe_str pa_nil)))) pa_nil))) pa_nil))))),
    fun l wvs ws H1 b1 D1 sq dp hlen hgood => ?_⟩
  refine ⟨_, rfl, sz8 (show 3 ≤ 1000 by decide), fun l1 hl1 => ?_⟩
  obtain ⟨D2, e2, s2⟩ := D1.lst (xs := (["pieces", "whole", "whole"] : List Str).map V.str) hl1
  refine ⟨dl, sc, ns, l1, (["pieces", "whole", "whole"] : List Str).map V.str, rfl, s2, by decide, D2, fun k1 x1 H3 hk1 b3 D3 => ?_⟩
  obtain ⟨a, ha, rfl⟩ := pick_str hk1
  refine ⟨_, rfl, sz8 (show 4 ≤ 1000 by decide), fun l2 hl2 => ?_⟩
  obtain ⟨D4, e4, s4⟩ := D3.lst (xs := [V.int 0, V.int 0, V.int 1, V.int 2]) hl2
  refine ⟨dl, sc, ns, l2, [V.int 0, V.int 0, V.int 1, V.int 2], rfl, s4, by decide, D4, fun k2 x2 H5 hk2 b5 D5 => ?_⟩
  obtain ⟨b, hb, rfl⟩ : ∃ b : Int, (b = 0 ∨ b = 1 ∨ b = 2) ∧ x2 = .int b := by
    match k2, hk2 with
    | 0, hk => cases hk; exact ⟨0, .inl rfl, rfl⟩
    | 1, hk => cases hk; exact ⟨0, .inl rfl, rfl⟩
    | 2, hk => cases hk; exact ⟨1, .inr (.inl rfl), rfl⟩
    | 3, hk => cases hk; exact ⟨2, .inr (.inr rfl), rfl⟩
    | k + 4, hk => cases hk
  refine ⟨sz8 (show 2 ≤ 1000 by decide), fun t1 ht1 => ?_⟩
  obtain ⟨D6, e6, s6⟩ := D5.tup (xs := [V.str a, V.int b]) ht1
  have q6 := (Ex.but (dl := dl) e2).trans (b3.trans ((Ex.but e4).trans (b5.trans (Ex.but e6))))
  have sq6 := ex_l ((But.st q6).trans st_le) sq
  have dp6 := dps_ex (But.st q6) dp
  refine ⟨_, rfl, l, wvs, rfl, .inl ⟨sq6, fun wt hwt => ?_⟩⟩
  obtain ⟨D7, e7, s7⟩ := D6.tup (xs := wvs) hwt
  refine ⟨sz8 (show 1 ≤ 1000 by decide), fun t2 ht2 => ?_⟩
  obtain ⟨D8, e8, s8⟩ := D7.tup (xs := [V.ref wt]) ht2
  refine ⟨_, rfl, ?_⟩
  refine catA (xs := [V.ref wt]) (ys := [V.str a, V.int b]) (ex_t st_le s8) (ex_t ((ex_st (e7.trans e8)).trans st_le) s6) (show 3 ≤ 1000 by decide) (by simp) (by simp) fun t3 ht3 => ?_
  obtain ⟨D9, e9, s9⟩ := D8.tup (xs := [V.ref wt] ++ [V.str a, V.int b]) ht3
  refine ⟨_, rfl, sz8 (show 3 ≤ 1000 by decide), fun l3 hl3 => ?_⟩
  obtain ⟨D10, e10, s10⟩ := D9.lst (xs := (["none", "none", "some"] : List Str).map V.str) hl3
  refine ⟨dl, sc, ns, l3, (["none", "none", "some"] : List Str).map V.str, rfl, s10, by decide, D10, fun k3 x3 H11 hk3 b11 D11 => ?_⟩
  obtain ⟨c, hc, rfl⟩ := pick_str hk3
  refine ⟨sz8 (show 1 ≤ 1000 by decide), fun t4 ht4 => ?_⟩
  obtain ⟨D12, e12, s12⟩ := D11.tup (xs := [V.str c]) ht4
  have q12 := (Ex.but (dl := dl) e10).trans (b11.trans (Ex.but e12))
  refine catA (xs := [V.ref wt] ++ [V.str a, V.int b]) (ys := [V.str c]) (ex_t ((But.st q12).trans st_le) s9) (ex_t st_le s12) (show 4 ≤ 1000 by decide) (by simp) (by simp) fun t5 ht5 => ?_
  obtain ⟨D13, e13, s13⟩ := D12.tup (xs := [V.ref wt] ++ [V.str a, V.int b] ++ [V.str c]) ht5
  have q13 := (Ex.but (dl := dl) e8).trans ((Ex.but e9).trans (q12.trans (Ex.but e13)))
  have q14 := (Ex.but (dl := dl) e7).trans q13
  refine q t5 wt wvs ws a b c _ ⟨s13, ex_t (But.st q13) s7, dps_ex (But.st q14) dp6, hlen, hgood, by simpa [rWrites] using ha, hb, ?_⟩ (b1.trans (q6.trans q14)) D13
  simpa [rFalls] using hc
theorem ok_parts {f fp fw ft : Addr} {fd fdp fdw fdt : FuncData} (F : Fun K "_law_parts" "_law_parts" sParts f fd) (B : Blt mg) (G : FnOk P w K mg base CX0 3 fp fdp ["_law_draw", "_law_things"] (spPick K)) (k : PySem.W.keepIn K (.ref fp) = true) (g : mg "_law_pick" = some (.ref fp)) (b : Binds K fdp ["_law_draw", "_law_things"] [])
    (GW : FnOk P w K mg base CX0 4 fw fdw ["_law_draw", "_law_most"] (spWriter K)) (kW : PySem.W.keepIn K (.ref fw) = true) (gW : mg "_law_writer" = some (.ref fw)) (bW : Binds K fdw ["_law_draw", "_law_most"] [])
    (GT : FnOk P w K mg base CX0 2 ft fdt ["_law_draw", "_law_many"] (spTake K)) (kT : PySem.W.keepIn K (.ref ft) = true) (gT : mg "_law_take" = some (.ref ft)) (bT : Binds K fdt ["_law_draw", "_law_many"] []) : FnOk P w K mg base CX0 5 f fd ["_law_draw", "_law_most"] (spParts K) := by
  refine F.ok scParts (fun vs H Q E h => ?_) (fun cdv A outer s H vs Q E hr h => ?_)
  · obtain ⟨dl, sc, ns, rfl, _⟩ := h
    rfl
  · obtain ⟨dl, sc, ns, rfl, D0, q⟩ := h
    obtain ⟨t, pt, qt⟩ := parts_tail (P := P) (w := w) (K := K) (base := base) (f := f) (cdv := cdv) (A := A) (outer := outer) (s := s) (E := E) B G k g b (hr.mono (by decide)) q
    refine ⟨_, pss_cons (ps_set (i := 2) scParts.nd rfl (Or.inl rfl) (pe_lst (pa_cons (pe_call GW hr rfl gW kW bW .nil pass0 (pa_cons (pv 0) (pa_cons (pv 1) pa_nil))) pa_nil)))
      (pss_cons (ps_if (pt_cmpR op_gt (pe_call GT (hr.mono (by decide)) rfl gT kT bT .nil pass0 (pa_cons (pv 0) (pa_cons pe_int pa_nil))) pe_int (nomark _))
        (pss_one (ps_expr (pe_bm PySem.F.plainAttrs_list PySem.F.slot_list_append PySem.F.type_list_append mt_append (pv 2) (pa_cons (pe_call GW hr rfl gW kW bW .nil pass0 (pa_cons (pv 0)
          (pa_cons (pe_ifExp (PW.pt (pw_and (pt_cmpR op_gt (pv 1) pe_int (nomark _)) (pw_and1 (pt_cmpR op_eq (pe_call GT (hr.mono (by decide)) rfl gT kT bT .nil pass0 (pa_cons (pv 0) (pa_cons pe_int pa_nil))) pe_int (nomark _)))))
            pe_int (pe_callB (call_min2 rfl) (by rfl) B.min bo_min (pa_cons (pv 1) (pa_cons pe_int pa_nil)))) pa_nil))) pa_nil)))) pss_nil) pt), ?_⟩
    refine ⟨_, rfl, _, rfl, dl, sc, ns, 3, rfl, .inr rfl, D0, fun r1 H1 d1 g1 dp1 b1 D1 => ?_⟩
    refine ⟨sz8 (show 1 ≤ 1000 by decide), fun l hl => ?_⟩
    obtain ⟨D2, e2, s2⟩ := D1.lst (xs := [r1]) hl
    have nl := D1.ne hl
    have hl2 : (upd H1 l (.lst [r1])) l = some (.lst [r1]) := upd_same
    have dp2 := dp_ex (ex_st (dl := dl) e2) dp1
    have hH : H l = none := by
      cases z : H l with
      | none => rfl
      | some o => rw [b1 l o nl z] at hl; cases hl
    refine ⟨_, rfl, dl, sc, ns, 5, rfl, by decide, D2, fun r H3 h0 h1 b3 D3 => ?_⟩
    refine ⟨_, _, rfl, rfl, _, rfl, ite2 (fun _ => ?_) (fun _ => ?_)⟩
    · refine ⟨_, rfl, .inl ⟨rfl, _, SqL.of (b3 l _ nl hl2)⟩, _, rfl, ?_⟩
      refine ⟨_, rfl, _, _, rfl, rfl, _, rfl, iteT ?_⟩
      refine ⟨_, rfl, dl, sc, ns, 2, rfl, by decide, D3, fun r' H4 h0' h1' b4 D4 => ?_⟩
      refine ⟨rfl, _, rfl, ?_⟩
      have two : ∀ (r2 : V) (H5 : Hp) (d2 : D), GoodW d2 → Dp K (St dl H5) r2 d2 → But dl H4 H5 → Drw K dl sc ns H5 → t { nx := fun _ H' => Q .non H', rt := Q } [some (.ref dl), some (.int 3), some (.ref l), none] (upd H5 l (.lst ([r1] ++ [r2]))) := fun r2 H5 d2 g2 dp5 b5 D5 => by
        have bb := b3.trans (b4.trans b5)
        have b6 : But dl H (upd H5 l (.lst ([r1] ++ [r2]))) := (D0.mut D5 (b1.trans ((Ex.but e2).trans bb)) hH).2
        have D6 : Drw K dl sc ns (upd H5 l (.lst ([r1] ++ [r2]))) := (D0.mut D5 (b1.trans ((Ex.but e2).trans bb)) hH).1
        -- what was known before the list was made stays
        have b7 : But dl H1 (upd H5 l (.lst ([r1] ++ [r2]))) := (D1.mut D5 ((Ex.but e2).trans bb) hl).2
        have hl5 : St dl H5 l = some (.lst [r1]) := st_mk nl ((b3.trans (b4.trans b5)) l _ nl hl2) trivial
        refine qt l ([r1] ++ [r2]) [d1, d2] _ b6 D6 (SqL.of (st_new nl trivial)) (.cons (dp_ex (But.st b7) dp1) (.cons (dp_but hl5 (fun x o n e => ?_) (noL_good g2) dp5) .nil)) (.inr rfl) (fun d hd => ?_)
        · obtain ⟨n1, n2, n3⟩ := st_some e
          exact st_mk n1 ((upd_ne n).trans n2) n3
        · rcases List.mem_cons.mp hd with rfl | hd
          · exact g1
          · rw [List.mem_singleton.mp hd]
            exact g2
      refine ite2 (fun _ => ?_) (fun _ => ?_)
      · refine ⟨dl, sc, ns, 2, rfl, .inl rfl, D4, fun r2 H5 d2 g2 dp5 b5 D5 => ?_⟩
        exact ⟨l, _, r2, rfl, rfl, (b3.trans (b4.trans b5)) l _ nl hl2, (show 1 < sizeLine by rw [sizeLine_eq]; decide), two r2 H5 d2 g2 dp5 b5 D5⟩
      · refine ⟨_, rfl, 3, 2, rfl, ?_⟩
        refine ⟨dl, sc, ns, 2, rfl, .inl rfl, D4, fun r2 H5 d2 g2 dp5 b5 D5 => ?_⟩
        exact ⟨l, _, r2, rfl, rfl, (b3.trans (b4.trans b5)) l _ nl hl2, (show 1 < sizeLine by rw [sizeLine_eq]; decide), two r2 H5 d2 g2 dp5 b5 D5⟩
    · have bb := b1.trans ((Ex.but e2).trans b3)
      exact qt l [r1] [d1] H3 bb D3 (ex_l (But.st b3) s2) (.cons (dp_ex (But.st b3) dp2) .nil) (.inl rfl) (fun d hd => by rw [List.mem_singleton.mp hd]; exact g1)
end
end K1

/-! K1q: try: .. except x as n: .. except y: .. ; nothing passes. -/
namespace K1
open PySem PySem.Spec PyProof.Rows L2
abbrev TSx := Addr → Value → Option Addr → TS
/-- what the two clauses wish: the first catches, or the second -/
def w2 (K : PySem.W.Frag) (c1 c2 : Value) (i L : Nat) (t1 t2 : TSx) (D : Ends) : WX := fun cls d σ H =>
  (PySem.W.exmOne K cls c1 = some true ∧ ∀ a, H a = none → σ.length = L → t1 a cls d { nx := fun σ' H' => D.nx (σ'.set i none) H', rt := D.rt, bk := fun σ' H' => D.bk (σ'.set i none) H', ct := fun σ' H' => D.ct (σ'.set i none) H' } (σ.set i (some (.ref a))) H) ∨
    (PySem.W.exmOne K cls c1 = some false ∧ PySem.W.exmOne K cls c2 = some true ∧ ∀ a, H a = none → t2 a cls d D σ H)
section
variable {X : Cx} {x y n : Str} {c1 c2 : Value} {i : Nat} {body su1 su2 : List Stmt} {b1 b2 : Stmt} {np1 np2 pos p1 p2 : Pos} {tb : WX → TS} {t1 t2 : TSx}
theorem ps_try_two (hs : X.stack = X.env :: X.outer) (hf : X.env.frame = some X.env.locals) (hN : X.N.Nodup) (hi : X.N[i]? = some n) (hln : X.env.kindOf n = some .local) (k1 : Names X x c1) (k2 : Names X y c2)
    (hb : ∀ (W : WX) (pn : List (Addr × Obj)) (xe : Value → Shared → Prop), Takes (X.tr pn xe) W → PSs (X.tr pn xe) body (tb W))
    (h1 : ∀ (a : Addr) (oe : Obj) (cls : Value) (d : Option Addr) (pn : List (Addr × Obj)), Zc cls d oe → (∃ vs, oe.data = .fields vs) → PSs (X.suite a ((a, oe) :: pn)) (b1 :: su1) (t1 a cls d))
    (h2 : ∀ (a : Addr) (oe : Obj) (cls : Value) (d : Option Addr) (pn : List (Addr × Obj)), Zc cls d oe → (∃ vs, oe.data = .fields vs) → PSs (X.suite a ((a, oe) :: pn)) (b2 :: su2) (t2 a cls d)) :
    PS X (.Try body [.ExceptHandler (some (.Name x np1)) (some n) (b1 :: su1) p1, .ExceptHandler (some (.Name y np2)) none (b2 :: su2) p2] [] [] pos) (fun D σ H => tb (w2 X.K c1 c2 i X.N.length t1 t2 D) D σ H) := by
  refine ⟨fun pins s σ H D I h => ?_⟩
  have ok := I.ok
  have hfr : X.A.frames = some (X.env :: X.outer) := ok.frames.trans (by rw [hs])
  refine wpAny_Try_except ?_
  have body := hb (w2 X.K c1 c2 i X.N.length t1 t2 D) (X.pn ++ pins) (fun e s₁ => wpAny (model X.prog X.w) X.A (noteFrame e X.env) (fun _ s₂ => wpAny (model X.prog X.w) X.A (setFlight e none) (fun _ s₃ =>
    wpAny (model X.prog X.w) X.A (handleBy e X.env [.ExceptHandler (some (.Name x np1)) (some n) (b1 :: su1) p1, .ExceptHandler (some (.Name y np2)) none (b2 :: su2) p2]) (SP X pins D) X.xe s₃) X.xe s₂) X.xe s₁) (fun u s' xx => ?_)
  · refine wpAny_mono (body.run [] s σ H D (I.toTry _) h) (fun fl s1 q => ?_) (fun e s1 q => q)
    cases fl with
    | next =>
      obtain ⟨σ', H', J, q⟩ := q
      exact wpAny_execs_nil ⟨σ', H', J.ofTry ok, q⟩
    | brk =>
      obtain ⟨σ', H', J, q⟩ := q
      exact ⟨σ', H', J.ofTry ok, q⟩
    | cont =>
      obtain ⟨σ', H', J, q⟩ := q
      exact ⟨σ', H', J.ofTry ok, q⟩
    | ret u =>
      obtain ⟨v, σ', H', J, r, q⟩ := q
      exact ⟨v, σ', H', J.ofTry ok, r, q⟩
  · obtain ⟨a, B, sI, pins', σ', H', cls, d, rfl, J', nb, up, sky, na, os, ag, ww⟩ := xx
    have J : Inv X pins σ' H' sI := J'.ofTry ok
    show wpAny (model X.prog X.w) X.A (noteFrame (.ref a) X.env) _ _ _
    have sky2 : Sky B (X.env :: X.outer) a (Zc cls d) X.env.locals s'.heap := hs ▸ (show Sky B X.stack a (Zc cls d) X.env.locals s'.heap from sky)
    refine Sky.land Zc.steady hfr hf sky2 fun h3 fl3 up3 => ?_
    have land : ∀ {h4 : Heap}, HandSPX.FlyingZ B (X.env :: X.outer) a (Zc cls d) h4 → s'.heap.UpToSlots h4 → ∃ oe, h4.get? a = some oe ∧ Zc cls d oe ∧ (∃ vs, oe.data = .fields vs) ∧ Inv (X.suite a ((a, oe) :: (X.pn ++ pins))) [] σ' H' { s' with heap := h4 } ∧ Inv X pins σ' H' { s' with heap := h4 } := fun {h4} fl u4 => by
      have J4 : Inv X pins σ' H' { s' with heap := h4 } := J.landed nb fl.1 (up.trans u4) os ag
      obtain ⟨oe, vs, he, hz, hd⟩ := fl.there
      have off : a ∉ frs (X.env :: X.outer) := fun hm => by
        obtain ⟨_, o', e', hnf⟩ := fl.2.2.1.mem hm
        rw [he] at e'
        cases e'
        exact hnf _ hd
      refine ⟨oe, he, hz, ⟨vs, hd⟩, J4.suite he hd na (fun z => off (List.mem_filterMap.mpr ⟨X.env, List.mem_cons_self, by rw [hf, z]⟩)) (fun hm => ?_), J4⟩
      obtain ⟨e, he', q⟩ := List.mem_filterMap.mp hm
      exact off (List.mem_filterMap.mpr ⟨e, List.mem_cons_of_mem _ he', q⟩)
    obtain ⟨oe3, he3, hz3, hd3, S3, J3⟩ := land fl3 up3
    have LT : PySem.W.Looks (model X.prog X.w) h3 (typeOf (.ref a)) cls := fun A Q E s k q => wpAny_typeOf_ref (k _ _ he3) (by rw [hz3.1]; exact q)
    have name : ∀ {z : Str} {c : Value} {np : Pos} {Q : Value → Shared → Prop} {E : Value → Shared → Prop}, Names X z c → Q c { s' with heap := h3 } → wpAny (model X.prog X.w) (X.A.mark (some (.ref a))) (eval (.Name z np) X.env) Q E { s' with heap := h3 } := fun {z c np Q E} hc q => by
      obtain ⟨hg, hdb, hm | ⟨hm, hv, hn⟩⟩ := hc
      · exact ld_glob (X := X.suite a ((a, oe3) :: (X.pn ++ pins))) S3 hg hm q hdb
      · exact ld_blt (X := X.suite a ((a, oe3) :: (X.pn ++ pins))) S3 hg hm hv q hn hdb
    have hloc : Loc X.env.scope n := .inl hln
    refine wpAny_handleBy_cons (codeAny_handlers_test ?_) (by intro q; cases q)
    rcases ww with ⟨e1, q1⟩ | ⟨e1, e2, q2⟩
    · refine name k1 ((PySem.W.exm_one (M := model X.prog X.w) J3.kIn LT e1).here ?_)
      refine codeAny_handlers_suite_as (HandSPX.lands_againZ fl3 fun h4 fl4 up4 => ?_)
      obtain ⟨oe4, he4, hz4, hd4, S4, J4⟩ := land fl4 (up3.trans up4)
      refine store_ok (X := X.suite a ((a, oe4) :: (X.pn ++ pins))) (v := .ref a) S4 hN hi hloc rfl (fun s5 S5 => ?_) (.inr hln)
      refine wpAny_mono ((h1 a oe4 cls d (X.pn ++ pins) hz4 hd4).run [] s5 _ H' _ S5 (q1 a na J.len)) (fun fl s6 hsp => ?_) (fun _ _ z => False.elim z)
      cases fl with
      | next =>
        obtain ⟨σ6, H6, S6, q6⟩ := hsp
        exact gone_ok (S6.unsuite ok) hN hi hln fun s7 J7 => ⟨_, _, J7, q6⟩
      | brk =>
        obtain ⟨σ6, H6, S6, q6⟩ := hsp
        exact gone_ok (S6.unsuite ok) hN hi hln fun s7 J7 => ⟨_, _, J7, q6⟩
      | cont =>
        obtain ⟨σ6, H6, S6, q6⟩ := hsp
        exact gone_ok (S6.unsuite ok) hN hi hln fun s7 J7 => ⟨_, _, J7, q6⟩
      | ret u =>
        obtain ⟨v6, σ6, H6, S6, r6, q6⟩ := hsp
        exact gone_ok (S6.unsuite ok) hN hi hln fun s7 J7 => ⟨_, _, _, J7, r6, q6⟩
    · refine name k1 ((PySem.W.exm_one (M := model X.prog X.w) J3.kIn LT e1).here ?_)
      show wpAny _ X.A (handleBy (.ref a) X.env [_]) _ _ _
      refine wpAny_handleBy_cons (codeAny_handlers_test ?_) (by intro q; cases q)
      refine name k2 ((PySem.W.exm_one (M := model X.prog X.w) J3.kIn LT e2).here ?_)
      refine codeAny_handlers_suite (HandSPX.lands_againZ fl3 fun h4 fl4 up4 => ?_)
      obtain ⟨oe4, he4, hz4, hd4, S4, J4⟩ := land fl4 (up3.trans up4)
      refine wpAny_mono ((h2 a oe4 cls d (X.pn ++ pins) hz4 hd4).run [] _ _ H' _ S4 (q2 a na)) (fun fl s6 hsp => ?_) (fun _ _ z => False.elim z)
      cases fl with
      | next =>
        obtain ⟨σ6, H6, S6, q6⟩ := hsp
        exact ⟨_, _, S6.unsuite ok, q6⟩
      | brk =>
        obtain ⟨σ6, H6, S6, q6⟩ := hsp
        exact ⟨_, _, S6.unsuite ok, q6⟩
      | cont =>
        obtain ⟨σ6, H6, S6, q6⟩ := hsp
        exact ⟨_, _, S6.unsuite ok, q6⟩
      | ret u =>
        obtain ⟨v6, σ6, H6, S6, r6, q6⟩ := hsp
        exact ⟨_, _, _, S6.unsuite ok, r6, q6⟩
end
end K1

/-! K1r: _law_made, _law_wrong. -/
namespace K1
open PySem L2 Evl LamX
section
variable {P : Program} {w : World} {K : PySem.W.Frag} {mg : Str → Option Value} {base : Heap} {CJ CB CN : Addr}
/-! ### _law_made -/
def spMade (K : PySem.W.Frag) (CJ CB : Addr) : Sp := fun vs H Q E => ∃ (t : Addr) (vw va vb vc : V) (dw da db dc : D), vs = [.ref t] ∧ SqT K H t [vw, va, vb, vc] ∧ Dp K H vw dw ∧ Dp K H va da ∧ Dp K H vb db ∧ Dp K H vc dc ∧
  (firstBad dw da db dc = none → ∀ H' y, Ex H H' → JobO CJ H' y vw va vb vc → Q (.ref y) H') ∧
  (∀ n, firstBad dw da db dc = some n → ∀ dd H', Ex H H' → H' dd = some (.xd [(("part" : Str), V.str n)]) → E (.ref CB) (some dd) H')
theorem scMade : FnScope ["_law_parts_here"] ["_law_parts_here"] (defScope sMade) := ⟨rfl, rfl, rfl, by decide +kernel, rfl, by decide +kernel, by decide +kernel⟩
theorem ok_made {f fI : Addr} {fd fdI : FuncData} (F : Fun K "_law_made" "_law_made" sMade f fd) (T : JobT K mg CJ) (GI : FnOk P w K mg base (L2.CX P w) 5 fI fdI jP (spJob K CJ CB)) (M : Mk K CJ fI)
    (FI : FunD K "__init__" "Job.__init__" (defArgs sInit) (defBody sInit) (defScope sInit) [] jKw fI fdI) : FnOk P w K mg base (L2.CX P w) 7 f fd ["_law_parts_here"] (spMade K CJ CB) := by
  obtain ⟨mv, kbn⟩ := kb_job FI
  refine F.okX scMade (fun vs H Q E h => ?_) (fun cdv A outer s H vs Q E hr h => ?_)
  · obtain ⟨t, vw, va, vb, vc, dw, da, db, dc, rfl, _⟩ := h
    rfl
  · obtain ⟨t, vw, va, vb, vc, dw, da, db, dc, rfl, ht, ew, ea, eb, ec, q, qe⟩ := h
    refine ⟨_, pss_one (ps_ret (pe_makeK M GI hr rfl T.gJ kbn (passes_call (takes_of rfl rfl rfl rfl) fun _ _ _ _ h => h) (pa_cons (pe_ix ix_tup (pv 0) pe_int (fun _ _ => rfl)) pa_nil)
        (pk_cons (pe_ix ix_tup (pv 0) pe_int (fun _ _ => rfl)) (pk_cons (pe_ix ix_tup (pv 0) pe_int (fun _ _ => rfl)) (pk_cons (pe_ix ix_tup (pv 0) pe_int (fun _ _ => rfl)) pk_nil))))), ?_⟩
    refine ⟨_, rfl, t, _, 0, vw, rfl, rfl, ht, rfl, ?_⟩
    refine ⟨_, rfl, t, _, 1, va, rfl, rfl, ht, rfl, ?_⟩
    refine ⟨_, rfl, t, _, 2, vb, rfl, rfl, ht, rfl, ?_⟩
    refine ⟨_, rfl, t, _, 3, vc, rfl, rfl, ht, rfl, ?_⟩
    refine ⟨rfl, rfl, fun y dy hy hdy ny => ?_⟩
    have e4 := ex_made (C := CJ) hy hdy ny
    refine ⟨y, dy, _, _, _, _, dw, da, db, dc, rfl, upd_same, dp_ex e4 ew, dp_ex e4 ea, dp_ex e4 eb, dp_ex e4 ec, fun hf H' k hy' => ⟨rfl, q hf H' y (kept_ex e4 hy k) ⟨dy, hy'⟩⟩, fun n hf dd H' e hdd => qe n hf dd H' (e4.trans e) hdd⟩
end
/-! ### _law_wrong -/
/-- what an except clause's class asks -/
structure ExcM (K : PySem.W.Frag) (CB CN : Addr) : Prop where
  bb : PySem.W.exmOne K (.ref CB) (.ref CB) = some true
  nb : PySem.W.exmOne K (.ref CN) (.ref CB) = some false
  nn : PySem.W.exmOne K (.ref CN) (.ref CN) = some true
/-- wrong(ask): the part told, "number", or "" -/
def wrE (CB CN : Addr) (Q : VK) : XK := fun cls d H' => (cls = .ref CB ∧ ∃ dd v, d = some dd ∧ H' dd = some (.xd [(("part" : Str), v)]) ∧ Q v H') ∨ (cls = .ref CN ∧ Q (.str "number") H')
def TTw (CB CN : Addr) : (XK → Hp → VK → Prop) → Hp → VK → Prop := fun tl H Q => tl (wrE CB CN Q) H (fun _ H' => Q (.str "") H')
def gN2 : List Str := ["_law_ask", "error"]
theorem scWrong : FnScope gN2 ["_law_ask"] (defScope sWrong) := ⟨rfl, rfl, rfl, by decide +kernel, rfl, by decide +kernel, by decide +kernel⟩
theorem wrong_gives {X : Cx} {CB CN fI cc cda g : Addr} {cdg : Value} {q : Str} (TB : PySem.BadX.BadTxt X.prog X.K X.mg CB fI cc cda) (TN : NumT X.K X.mg CN) (EM : ExcM X.K CB CN) : GivesTo X gN2 "_law_wrong" (defScope sWrong) g cdg (defBody sWrong) "_law_ask" q (TTw CB CN) := by
  intro f c' s H Q tl act hc h
  refine ⟨_, pss_cons (ps_try_two (X := (cxOf C8.CX0 X.prog X.w X.K X.mg X.base gN2 "_law_wrong" (defScope sWrong) g cdg X.A X.stack s H C8.E0).nox) (n := "error") (i := 1) (c1 := .ref CB) (c2 := .ref CN)
      (tb := fun W D σ H => ∃ Ech : XK, (∀ cls d σ' H', Ech cls d H' → W cls d σ' H') ∧ σ[0]? = some (some (.ref f)) ∧ H c' = some (CodeO c' q) ∧ tl Ech H (fun _ H' => D.nx σ H'))
      rfl rfl scWrong.nd rfl rfl ⟨rfl, by decide, .inl TB.gC⟩ ⟨rfl, by decide, .inl TN.gN⟩ (fun W pn xe tk => ?_)
      (fun a oe cls d pn hz hf => pss_one (ps_ret (pe_byPart TB hz hf (pv 1)))) (fun a oe cls d pn hz hf => pss_one (ps_ret pe_str))) (pss_one (ps_ret pe_str)), ?_⟩
  · refine ⟨fun pins s' σ H' D I h' => ?_⟩
    obtain ⟨Ech, hW, h1, h2, h3⟩ := h'
    exact (pss_one (ps_expr (act W pn xe Ech _ _ tk hW))).run pins s' σ H' D I ⟨h1, h2, h3⟩
  · refine ⟨wrE CB CN Q, fun cls d σ' H' hw => ?_, rfl, hc, h⟩
    rcases hw with ⟨rfl, dd, v, rfl, hdd, hq⟩ | ⟨rfl, hq⟩
    · refine .inl ⟨EM.bb, fun a na hl => ?_⟩
      have hi : (σ'.set 1 (some (V.ref a)))[1]? = some (some (V.ref a)) := List.getElem?_set_self (by rw [hl]; show 1 < 2; decide)
      exact ⟨_, hi, rfl, rfl, dd, v, rfl, hdd, hq⟩
    · exact .inr ⟨EM.nb, EM.nn, fun a na => hq⟩
end K1

/-! K1s: readings that evaluate to data. -/
namespace K1
open PySem L2 Evl LamX
/-- te evaluates to the data d, whose objects stand still -/
def Evd (K : PySem.W.Frag) (dl : Addr) (te : TE) (σ : L2.St) (H : Hp) (d : D) : Prop := ∀ H1, Ex H H1 → ∀ Q : VK, (∀ v H2, Ex H1 H2 → Dp K (St dl H2) v d → Q v H2) → te σ H1 Q
def EvdA (K : PySem.W.Frag) (dl : Addr) (ta : TA) (σ : L2.St) (H : Hp) (ds : List D) : Prop := ∀ H1, Ex H H1 → ∀ Q : List V → Hp → Prop, (∀ vs H2, Ex H1 H2 → DpAll K (St dl H2) vs ds → Q vs H2) → ta σ H1 Q
/-- te evaluates to a list that stands -/
def EvdL (K : PySem.W.Frag) (dl : Addr) (te : TE) (σ : L2.St) (H : Hp) (ds : List D) : Prop := ∀ H1, Ex H H1 → ∀ Q : VK, (∀ p vs H2, Ex H1 H2 → St dl H2 p = some (.lst vs) → DpAll K (St dl H2) vs ds → Q (.ref p) H2) → te σ H1 Q
theorem dps_rep {K : PySem.W.Frag} {H : Hp} {vs : List V} {ds : List D} (h : DpAll K H vs ds) : ∀ n : Nat, DpAll K H (List.replicate n vs).flatten (List.replicate n ds).flatten
  | 0 => .nil
  | n + 1 => by
    rw [List.replicate_succ, List.replicate_succ, List.flatten_cons, List.flatten_cons]
    exact dps_append h (dps_rep h n)
theorem dps_nil {K : PySem.W.Frag} {H : Hp} {vs : List V} {ds : List D} (h : DpAll K H vs ds) (n : ds ≠ []) : vs ≠ [] := fun e => by
  subst e
  cases h
  exact n rfl
/-- the draw list stands -/
def HasL (dl : Addr) (H : Hp) : Prop := ∃ xs, H dl = some (.lst xs)
theorem HasL.ne {dl p : Addr} {H H' : Hp} (h : HasL dl H) (e : Ex H H') (hp : H' p = none) : p ≠ dl := fun z => by
  obtain ⟨o, ho⟩ := h
  rw [z, e _ _ ho] at hp
  cases hp
section
variable {K : PySem.W.Frag} {dl : Addr} {ta tb te : TE} {tA tB : TA} {σ : L2.St} {H : Hp} {d : D} {ds es : List D}
theorem Evd.mono {H' : Hp} (e : Ex H H') (h : Evd K dl te σ H d) : Evd K dl te σ H' d := fun H1 a Q q => h H1 (e.trans a) Q q
theorem ed_var {i : Nat} {v : V} (hi : σ[i]? = some (some v)) (h : Dp K (St dl H) v d) : Evd K dl (tVar i) σ H d := fun H1 e Q q => ⟨v, hi, q v H1 (Ex.refl H1) (dp_ex (ex_st e) h)⟩
theorem ed_int {i : Int} : Evd K dl (tC (.int i)) σ H (.int i) := fun H1 _ Q q => q _ H1 (Ex.refl H1) (.int i)
theorem ed_str {z : Str} : Evd K dl (tC (.str z)) σ H (.str z) := fun H1 _ Q q => q _ H1 (Ex.refl H1) (.str z)
theorem ed_bl {b : Bool} : Evd K dl (tC (.bl b)) σ H (.bool b) := fun H1 _ Q q => q _ H1 (Ex.refl H1) (.bl b)
theorem ed_non : Evd K dl (tC .non) σ H .none := fun H1 _ Q q => q _ H1 (Ex.refl H1) .non
theorem ea0 : EvdA K dl tNil σ H [] := fun H1 _ Q q => q _ H1 (Ex.refl H1) .nil
theorem ea1 (h : Evd K dl te σ H d) (r : EvdA K dl tA σ H ds) : EvdA K dl (tCons te tA) σ H (d :: ds) := fun H1 e Q q =>
  h H1 e _ fun v H2 e2 hv => r H2 (e.trans e2) _ fun vs H3 e3 hvs => q _ H3 (e2.trans e3) (.cons (dp_ex (ex_st e3) hv) hvs)
theorem ed_tup (hd : HasL dl H) (h : EvdA K dl tA σ H ds) (hl : ds.length ≤ 1000 := by first | decide | exact Nat.le_of_ble_eq_true rfl) : Evd K dl (tTup tA) σ H (.tuple ds) := fun H1 e Q q =>
  h H1 e _ fun vs H2 e2 hvs => ⟨sz8 (by rw [dps_len hvs]; exact hl), fun p hp => q _ _ (e2.trans (Ex.new hp)) (.tup (SqT.of (st_new (hd.ne (e.trans e2) hp) trivial)) (dps_ex (ex_st (Ex.new hp)) hvs))⟩
theorem ed_lst (hd : HasL dl H) (h : EvdA K dl tA σ H ds) (hl : ds.length ≤ 1000 := by first | decide | exact Nat.le_of_ble_eq_true rfl) : Evd K dl (tLst tA) σ H (.list ds) := fun H1 e Q q =>
  h H1 e _ fun vs H2 e2 hvs => ⟨sz8 (by rw [dps_len hvs]; exact hl), fun p hp => q _ _ (e2.trans (Ex.new hp)) (.lst (SqL.of (st_new (hd.ne (e.trans e2) hp) trivial)) (dps_ex (ex_st (Ex.new hp)) hvs))⟩
theorem el_lst (hd : HasL dl H) (h : EvdA K dl tA σ H ds) (hl : ds.length ≤ 1000 := by first | decide | exact Nat.le_of_ble_eq_true rfl) : EvdL K dl (tLst tA) σ H ds := fun H1 e Q q =>
  h H1 e _ fun vs H2 e2 hvs => ⟨sz8 (by rw [dps_len hvs]; exact hl), fun p hp => q _ vs _ (e2.trans (Ex.new hp)) (st_new (hd.ne (e.trans e2) hp) trivial) (dps_ex (ex_st (Ex.new hp)) hvs)⟩
theorem el_var {i : Nat} {p : Addr} {vs : List V} (hi : σ[i]? = some (some (.ref p))) (hp : St dl H p = some (.lst vs)) (h : DpAll K (St dl H) vs ds) : EvdL K dl (tVar i) σ H ds := fun H1 e Q q => ⟨_, hi, q p vs H1 (Ex.refl H1) (ex_st e _ _ hp) (dps_ex (ex_st e) h)⟩
theorem ed_cat (hd : HasL dl H) (h1 : Evd K dl ta σ H (.tuple ds)) (h2 : Evd K dl tb σ H (.tuple es)) (n1 : ds ≠ [] := by first | exact List.cons_ne_nil _ _ | simp) (n2 : es ≠ [] := by first | exact List.cons_ne_nil _ _ | simp) (hl : ds.length + es.length ≤ 1000 := by first | decide | exact Nat.le_of_ble_eq_true rfl) : Evd K dl (tOp (rCatA K) ta tb) σ H (.tuple (ds ++ es)) := fun H1 e Q q =>
  h1 H1 e _ fun v H2 e2 hv => h2 H2 (e.trans e2) _ fun u H3 e3 hu => by
    cases hv with
    | tup s1 a1 =>
      cases hu with
      | tup s2 a2 =>
        have a1' := dps_ex (ex_st (dl := dl) e3) a1
        refine catA (ex_t ((ex_st e3).trans st_le) s1) (ex_t st_le s2) (by rw [dps_len a1, dps_len a2]; exact hl) (dps_nil a1 n1) (dps_nil a2 n2) fun p hp => q _ _ ((e2.trans e3).trans (Ex.new hp)) (.tup (SqT.of (st_new (hd.ne ((e.trans e2).trans e3) hp) trivial)) (dps_ex (ex_st (Ex.new hp)) (dps_append a1' a2)))
theorem ed_rep {k : Int} (hd : HasL dl H) (h1 : Evd K dl ta σ H (.tuple ds)) (n1 : ds ≠ [] := by first | exact List.cons_ne_nil _ _ | simp) (hl : ds.length ≤ 1000 := by first | decide | exact Nat.le_of_ble_eq_true rfl) (k2 : 2 ≤ k := by decide) (kz : k ≤ 1000 := by decide) : Evd K dl (tOp (rRepT K) ta (tC (.int k))) σ H (.tuple (List.replicate k.toNat ds).flatten) := fun H1 e Q q =>
  h1 H1 e _ fun v H2 e2 hv => by
    cases hv with
    | @tup a xs _ s1 a1 =>
      exact ⟨a, k, xs, rfl, rfl, ex_t st_le s1, dps_nil a1 n1, k2, kz, by rw [dps_len a1]; exact hl, fun p hp => q _ _ (e2.trans (Ex.new hp)) (.tup (SqT.of (st_new (hd.ne (e.trans e2) hp) trivial)) (dps_ex (ex_st (Ex.new hp)) (dps_rep a1 _)))⟩
theorem el_cat (hd : HasL dl H) (h1 : EvdL K dl ta σ H ds) (h2 : EvdL K dl tb σ H es) (hl : ds.length + es.length ≤ 1000 := by first | decide | exact Nat.le_of_ble_eq_true rfl) : EvdL K dl (tOp rCat ta tb) σ H (ds ++ es) := fun H1 e Q q =>
  h1 H1 e _ fun p1 v1 H2 e2 l1 a1 => h2 H2 (e.trans e2) _ fun p2 v2 H3 e3 l2 a2 =>
    ⟨p1, p2, v1, v2, rfl, rfl, (st_some (ex_st e3 _ _ l1)).2.1, (st_some l2).2.1, sz8 (by rw [dps_len a1, dps_len a2]; exact hl), fun p hp => q p _ _ ((e2.trans e3).trans (Ex.new hp)) (st_new (hd.ne ((e.trans e2).trans e3) hp) trivial) (dps_ex (ex_st (Ex.new hp)) (dps_append (dps_ex (ex_st e3) a1) a2))⟩
/-! ### statements -/
theorem seq_set {i : Nat} {A : TS} {D : Ends} (h : te σ H fun x H1 => A D (σ.set i (some x)) H1) : tSeq (tAsg te (gName i)) A D σ H := h
/-- name = data -/
theorem st_set {i : Nat} {A : TS} {D : Ends} (h : Evd K dl te σ H d) (q : ∀ v H1, Ex H H1 → Dp K (St dl H1) v d → A D (σ.set i (some v)) H1) : tSeq (tAsg te (gName i)) A D σ H := h H (Ex.refl H) _ fun v H1 e hv => q v H1 e hv
theorem st_setL {i : Nat} {A : TS} {D : Ends} (h : EvdL K dl te σ H ds) (q : ∀ p vs H1, Ex H H1 → St dl H1 p = some (.lst vs) → DpAll K (St dl H1) vs ds → A D (σ.set i (some (.ref p))) H1) : tSeq (tAsg te (gName i)) A D σ H := h H (Ex.refl H) _ fun p vs H1 e hp hv => q p vs H1 e hp hv
theorem st_par {i j : Nat} {A : TS} {d1 d2 : PyData} {D : Ends} (h : EvdA K dl (tCons ta (tCons tb tNil)) σ H [d1, d2]) (q : ∀ v w H1, Ex H H1 → Dp K (St dl H1) v d1 → Dp K (St dl H1) w d2 → A D ((σ.set i (some v)).set j (some w)) H1) : tSeq (tPar i j (tCons ta (tCons tb tNil))) A D σ H := by
  show tCons ta (tCons tb tNil) σ H fun vs H1 => ∃ v w, vs = [v, w] ∧ A D ((σ.set i (some v)).set j (some w)) H1
  refine h H (Ex.refl H) _ fun vs H1 e hv => ?_
  cases hv with
  | cons h1 r =>
    cases r with
    | cons h2 r =>
      cases r
      exact ⟨_, _, rfl, q _ _ H1 e h1 h2⟩
end
/-! ### lambdas keep -/
theorem extN_st {dl : Addr} {H H' : Hp} (e : ExtN H H') : Ex (St dl H) (St dl H') := fun b o h => by
  obtain ⟨n, q, t⟩ := st_some h
  refine st_mk n (e b o q fun ps z => ?_) t
  rw [z] at t
  exact t
theorem extN_has {dl : Addr} {H H' : Hp} (e : ExtN H H') (h : HasL dl H) : HasL dl H' := let ⟨xs, q⟩ := h; ⟨xs, e _ _ q fun ps z => by cases z⟩
theorem HasL.ex {dl : Addr} {H H' : Hp} (e : Ex H H') (h : HasL dl H) : HasL dl H' := let ⟨xs, q⟩ := h; ⟨xs, e _ _ q⟩
end K1

/-! K1t: calls of _law_wrong with a lambda. -/
namespace K1
open PySem L2 Evl LamX
theorem pe_wrong {X : Cx} {T : List (Addr × Str)} {CB CN fI cc cda g c P : Addr} {fd : FuncData} {k : Nat} {q : Str} {params : Arguments} {body : Expr} {scope : Scope} {t : XK → TE} {p lpos pos : Pos} (FW : Fun X.K "_law_wrong" "_law_wrong" sWrong g fd) (gW : X.mg "_law_wrong" = some (.ref g)) (bW : Binds X.K fd ["_law_ask"] [])
    (TB : PySem.BadX.BadTxt X.prog X.K X.mg CB fI cc cda) (TN : NumT X.K X.mg CN) (EM : ExcM X.K CB CN) (TA : TabB X.base X.mg c P) (hr : Room (k + 2) X.A) (hmT : (P, q) ∈ T) (hu : ∀ p ∈ T, p.1 = P → p.2 = q)
    (hbody : ∀ (A : Around) (outer : List Env) (s : Shared) (H : Hp) (E : XK) (f c' : Addr), Room k (A.deeper (lamEnv X scope s.heap.objs.size f c')) → PE (lamCx X A outer s H E scope f c') body (t E))
    (L : LamS X.env.scope scope) (hg : Gl X "_law_wrong" := by rfl) (hcode : X.env.code = .ref c := by rfl) (hq : X.env.qual ++ "<lambda>" = q := by rfl) (hdef : defaultsOf params X.env = ([], []) := by rfl)
    (hbind : ∀ (q : Str) (cl : List (Str × Addr)) (pm cv ctv : Value), bindArgs (PySem.W.kla_fn "<lambda>" q params body scope cl pm cv ctv) ⟨[], []⟩ = pure [] := by intros; rfl) :
    PE X (.Call (.Name "_law_wrong" p) [.Lambda params body scope lpos] [] pos) (tLam T (TTw CB CN) t) := by
  obtain ⟨oc, od, kV, doc, pm, an, cdv, ct, osl, rfl, lk, hcd⟩ := FW.ex
  subst hq
  exact pe_lamcall hg gW FW.kp lk hcd bW scWrong rfl (.inl rfl) (wrong_gives TB TN EM) TA hcode hmT hu hr L hdef hbind hbody
section
variable {K : PySem.W.Frag} {CJ CB CN dl : Addr} {σ : L2.St} {H : Hp} {T : List (Addr × Str)}
/-- wrong(lambda: Job((x,))), x in slot i -/
abbrev tJob1 (K : PySem.W.Frag) (CJ CB : Addr) (i : Nat) (E : XK) : TE := tMake CJ (spJob K CJ CB) [.str "whole", .int 0, .str "none"] E (tCons (tTup (tCons (tVar i) tNil)) tNil)
def told1 (d : PyData) : Str := if writersOk (.tuple [d]) = true then "" else "writers"
theorem fb_def {d : PyData} (h : writersOk d = true) : firstBad d (.str "whole") (.int 0) (.str "none") = none := fb_no h (by decide +kernel) (by decide +kernel) (by decide +kernel)
theorem r_job1 {i : Nat} {v : V} {d : PyData} {Q : VK} (hT : Tabs T H) (hi : σ[i]? = some (some v)) (hv : Dp K (St dl H) v d) (q : ∀ H', Ex (St dl H) (St dl H') → Tabs T H' → (∀ b o, H b = some o → NoTbl o → H' b = some o) → Q (.str (told1 d)) H') :
    tLam T (TTw CB CN) (fun E => tJob1 K CJ CB i E) σ H Q := by
  refine ⟨hT, fun H1 eN T1 => ?_⟩
  refine ⟨v, hi, sz8 (show 1 ≤ 1000 by decide), fun t ht x dx hx hdx nx => ?_⟩
  have e1 := (Ex.new (o := .tup [v]) ht).trans (ex_made (C := CJ) hx hdx nx)
  have hv1 : Dp K H1 v d := dp_ex ((extN_st (dl := dl) eN).trans st_le) hv
  have dw : Dp K (upd (upd (upd H1 t (.tup [v])) dx (.own x)) x (.ins CJ dx [])) (.ref t) (.tuple [d]) := .tup (SqT.of (ex_made (C := CJ) hx hdx nx _ _ upd_same)) (.cons (dp_ex e1 hv1) .nil)
  have keep : ∀ {H' : Hp}, Ex H1 H' → ∀ b o, H b = some o → NoTbl o → H' b = some o := fun e b o h n => e _ _ (eN _ _ h fun ps z => by rw [z] at n; exact n)
  refine ⟨x, dx, .ref t, _, _, _, .tuple [d], .str "whole", .int 0, .str "none", rfl, upd_same, dw, .str _, .int 0, .str _, fun hf H' kk hx' => ⟨rfl, ?_⟩, fun n hf dd H' e hdd => ?_⟩
  · have e2 : Ex H1 H' := kept_ex e1 (ex_free (Ex.new (o := .tup [v]) ht) hx) kk
    have q' := q H' ((extN_st eN).trans (ex_st e2)) (T1.ext e2) (keep e2)
    unfold told1 at q'
    have hw : writersOk (.tuple [d]) = true := by
      cases hw : writersOk (.tuple [d]) with
      | true => rfl
      | false => rw [fb_w hw] at hf; cases hf
    rw [if_pos hw] at q'
    exact q'
  · have hw : writersOk (.tuple [d]) = false := by
      cases hw : writersOk (.tuple [d]) with
      | false => rfl
      | true => rw [fb_def hw] at hf; cases hf
    rw [fb_w hw] at hf
    cases hf
    have e2 := e1.trans e
    have q' := q H' ((extN_st eN).trans (ex_st e2)) (T1.ext e2) (keep e2)
    unfold told1 at q'
    rw [if_neg (by rw [hw]; exact Bool.false_ne_true)] at q'
    exact .inl ⟨rfl, dd, _, rfl, hdd, q'⟩
/-- wrong(lambda: Job(x)), x in slot i -/
abbrev tJob0 (K : PySem.W.Frag) (CJ CB : Addr) (i : Nat) (E : XK) : TE := tMake CJ (spJob K CJ CB) [.str "whole", .int 0, .str "none"] E (tCons (tVar i) tNil)
def told0 (d : PyData) : Str := if writersOk d = true then "" else "writers"
theorem r_job0 {i : Nat} {v : V} {d : PyData} {Q : VK} (hT : Tabs T H) (hi : σ[i]? = some (some v)) (hv : Dp K (St dl H) v d) (q : ∀ H', Ex (St dl H) (St dl H') → Tabs T H' → (∀ b o, H b = some o → NoTbl o → H' b = some o) → Q (.str (told0 d)) H') :
    tLam T (TTw CB CN) (fun E => tJob0 K CJ CB i E) σ H Q := by
  refine ⟨hT, fun H1 eN T1 => ?_⟩
  refine ⟨v, hi, fun x dx hx hdx nx => ?_⟩
  have e1 := ex_made (C := CJ) hx hdx nx
  have hv1 : Dp K H1 v d := dp_ex ((extN_st (dl := dl) eN).trans st_le) hv
  have keep : ∀ {H' : Hp}, Ex H1 H' → ∀ b o, H b = some o → NoTbl o → H' b = some o := fun e b o h n => e _ _ (eN _ _ h fun ps z => by rw [z] at n; exact n)
  refine ⟨x, dx, v, _, _, _, d, .str "whole", .int 0, .str "none", rfl, upd_same, dp_ex e1 hv1, .str _, .int 0, .str _, fun hf H' kk hx' => ⟨rfl, ?_⟩, fun n hf dd H' e hdd => ?_⟩
  · have e2 : Ex H1 H' := kept_ex e1 hx kk
    have q' := q H' ((extN_st eN).trans (ex_st e2)) (T1.ext e2) (keep e2)
    unfold told0 at q'
    have hw : writersOk d = true := by
      cases hw : writersOk d with
      | true => rfl
      | false => rw [fb_w hw] at hf; cases hf
    rw [if_pos hw] at q'
    exact q'
  · have hw : writersOk d = false := by
      cases hw : writersOk d with
      | false => rfl
      | true => rw [fb_def hw] at hf; cases hf
    rw [fb_w hw] at hf
    cases hf
    have e2 := e1.trans e
    have q' := q H' ((extN_st eN).trans (ex_st e2)) (T1.ext e2) (keep e2)
    unfold told0 at q'
    rw [if_neg (by rw [hw]; exact Bool.false_ne_true)] at q'
    exact .inl ⟨rfl, dd, _, rfl, hdd, q'⟩
end
/-- an item of the law's lists of writers: what is tried, and 1 where it is right -/
def okItem (one : Bool) : PyData → Bool
  | .tuple [d, .int g] => (writersOk (if one then .tuple [d] else d) == decide (g = 1))
  | _ => false
theorem item_of {one : Bool} {K : PySem.W.Frag} {S : Hp} {x : V} {e : PyData} (h : okItem one e = true) (hd : Dp K S x e) : ∃ (p : Addr) (v : V) (d : PyData) (g : Int), x = .ref p ∧ SqT K S p [v, .int g] ∧ Dp K S v d ∧ writersOk (if one then .tuple [d] else d) = decide (g = 1) := by
  unfold okItem at h
  split at h
  · rename_i d g
    cases hd with
    | @tup a xs _ s1 a1 =>
      cases a1 with
      | cons h1 r =>
        cases r with
        | cons h2 r =>
          cases r
          cases h2
          exact ⟨_, _, d, g, rfl, s1, h1, beq_iff_eq.mp h⟩
  · cases h
theorem told1_eq {d : PyData} {g : Int} (h : writersOk (.tuple [d]) = decide (g = 1)) : decide (V.str (told1 d) = V.str "") = decide (V.int g = V.int 1) := by
  unfold told1
  rw [h]
  by_cases e : g = 1
  · rw [decide_eq_true e, if_pos rfl, e]
    decide +kernel
  · rw [decide_eq_false e, if_neg Bool.false_ne_true, decide_eq_false (show ¬ V.int g = V.int 1 from fun z => e (by injection z))]
    decide +kernel
theorem told0_eq {d : PyData} {g : Int} (h : writersOk d = decide (g = 1)) : decide (V.str (told0 d) = V.str "") = decide (V.int g = V.int 1) := by
  unfold told0
  rw [h]
  by_cases e : g = 1
  · rw [decide_eq_true e, if_pos rfl, e]
    decide +kernel
  · rw [decide_eq_false e, if_neg Bool.false_ne_true, decide_eq_false (show ¬ V.int g = V.int 1 from fun z => e (by injection z))]
    decide +kernel
/-! ### a list that one fills -/
theorem st_mut {dl a : Addr} {S H : Hp} {o : HO} (e : Ex S (St dl H)) (h : S a = none) : Ex S (St dl (upd H a o)) := fun b u q => by
  obtain ⟨n1, n2, n3⟩ := st_some (e b u q)
  exact st_mk n1 ((upd_ne (ne_of_none q h)).trans n2) n3
theorem tabs_mut {T : List (Addr × Str)} {H : Hp} {a : Addr} {xs : List V} {o : HO} (t : Tabs T H) (h : H a = some (.lst xs)) : Tabs T (upd H a o) := fun p hp => by
  obtain ⟨ps, h1, h2, h3⟩ := t p hp
  refine ⟨ps, (upd_ne fun z => ?_).trans h1, h2, fun pos cv hc => ?_⟩
  · rw [z, h] at h1
    cases h1
  · obtain ⟨c, e1, e2⟩ := h3 pos cv hc
    refine ⟨c, e1, (upd_ne fun z => ?_).trans e2⟩
    rw [z, h] at e2
    unfold CodeO at e2
    cases e2
theorem HasL.mut {dl a : Addr} {H : Hp} {o : HO} (h : HasL dl H) (n : a ≠ dl) : HasL dl (upd H a o) := let ⟨xs, q⟩ := h; ⟨xs, (upd_ne n.symm).trans q⟩
theorem st_none {dl a : Addr} {H : Hp} (h : H a = none) : St dl H a = none := by
  unfold St
  split
  · rfl
  · rw [h]
end K1

/-! K1u: _law_writers_right (its statements' terms are printed by gen_wr.py). -/
namespace K1
open PySem L2 Evl LamX
def wrW : List PyData := [(.str "end"), (.str "part"), (.str "leaves")]
def wrThree : List PyData := ([(.tuple [(.int 3)])] ++ wrW)
def wrTwo : List PyData := ([(.tuple [(.int 2)])] ++ wrW)
def wrG0 : List PyData := [(.tuple [(.tuple ([(.tuple [(.int 4)])] ++ wrW)), (.int 0)]), (.tuple [(.tuple ([(.tuple (List.replicate (4 : Int).toNat [(.int 1)]).flatten)] ++ wrW)), (.int 0)]), (.tuple [(.tuple ([(.tuple [(.int 3), (.int 1)])] ++ wrW)), (.int 1)]), (.tuple [(.tuple ([(.tuple [(.int 1), (.int 1), (.int 2)])] ++ wrW)), (.int 1)]), (.tuple [(.tuple ([(.tuple [(.int 2), (.int 3)])] ++ wrW)), (.int 0)])]
def wrG1 : List PyData := [(.tuple [(.tuple ([(.tuple [(.int 0)])] ++ wrW)), (.int 0)]), (.tuple [(.tuple ([(.tuple [])] ++ wrW)), (.int 0)]), (.tuple [(.tuple ([(.list [(.int 1)])] ++ wrW)), (.int 0)]), (.tuple [(.tuple ([(.tuple [(.bool true)])] ++ wrW)), (.int 0)]), (.tuple [(.tuple ([(.int 1)] ++ wrW)), (.int 0)])]
def wrG2 : List PyData := [(.tuple [(.tuple [(.tuple [(.int 1)]), (.str "End"), (.str "part"), (.str "leaves")]), (.int 0)]), (.tuple [(.tuple [(.tuple [(.int 1)]), (.str "end"), (.str "parts"), (.str "leaves")]), (.int 0)]), (.tuple [(.tuple [(.tuple [(.int 1)]), (.str "end"), (.str "part"), (.str "empty")]), (.int 0)])]
def wrG3 : List PyData := [(.tuple [(.tuple [(.tuple [(.int 1)]), (.str "end"), (.str "part")]), (.int 0)]), (.tuple [(.tuple (([(.tuple [(.int 1)])] ++ wrW) ++ [(.str "x")])), (.int 0)]), (.tuple [(.list [(.tuple [(.int 1)]), (.str "end"), (.str "part"), (.str "leaves")]), (.int 0)]), (.tuple [.none, (.int 0)])]
def wrG4 : List PyData := [(.tuple [(.tuple [(.tuple [(.int 1)]), (.str "end"), (.str "part"), .none]), (.int 0)]), (.tuple [(.tuple ([(.tuple [(.int 3)])] ++ wrW)), (.int 1)]), (.tuple [(.tuple ([(.tuple [(.int 1)])] ++ wrW)), (.int 1)])]
def wrGood : List PyData := wrG0 ++ wrG1 ++ wrG2 ++ wrG3 ++ wrG4
def wrRows : List PyData := [(.tuple [(.tuple (List.replicate (3 : Int).toNat [(.tuple wrTwo)]).flatten), (.int 1)]), (.tuple [(.tuple [(.tuple wrThree), (.tuple wrThree)]), (.int 1)]), (.tuple [(.tuple [(.tuple wrThree), (.tuple wrThree), (.tuple ([(.tuple [(.int 1)])] ++ wrW))]), (.int 0)]), (.tuple [(.tuple (List.replicate (4 : Int).toNat [(.tuple wrTwo)]).flatten), (.int 0)]), (.tuple [(.tuple []), (.int 0)]), (.tuple [(.list [(.tuple wrTwo)]), (.int 0)]), (.tuple [(.tuple wrTwo), (.int 0)])]
theorem wrGood_ok : wrGood.all (okItem true) = true := by decide +kernel
theorem wrRows_ok : wrRows.all (okItem false) = true := by decide +kernel
def uN : List Str := ["_law_draw", "_law_words", "_law_good", "_law_writer_here", "_law_is_good", "_law_three", "_law_two", "_law_rows", "_law_row"]
theorem scWR : FnScope uN ["_law_draw"] (defScope sWR) := ⟨rfl, rfl, rfl, by decide +kernel, rfl, by decide +kernel, by decide +kernel⟩
section
variable {P : Program} {w : World} {K : PySem.W.Frag} {mg : Str → Option Value} {base : Heap} {CJ CB CN : Addr}
def spWR (T : List (Addr × Str)) : Sp := fun vs H Q _ => ∃ dl : Addr, vs = [.ref dl] ∧ HasL dl H ∧ Tabs T H ∧ ∀ H', Q (.bl true) H'
theorem ok_WR {f fI cI cc cda fW c PT : Addr} {fdI fdW : FuncData} {oc kV doc pm ct : Value} {od an : Option Addr} {osl : Array (Option Value)} {T : List (Addr × Str)} {q : Str}
    (lk : K.lookup f = some ⟨oc, od, .func (PySem.W.fnOf "_law_writers_right" "_law_writers_right" (defArgs sWR) (defBody sWR) (defScope sWR) .none kV doc pm an (.ref c) ct), osl⟩) (hcd : PySem.W.codeIn K (.ref c) "_law_writers_right" = true)
    (B : Blt mg) (JT : JobT K mg CJ) (TB : PySem.BadX.BadTxt P K mg CB cI cc cda) (TN : NumT K mg CN) (EM : ExcM K CB CN) (TA : TabB base mg c PT) (hmT : (PT, q) ∈ T) (hu : ∀ p ∈ T, p.1 = PT → p.2 = q) (hq : "_law_writers_right.<locals>.<lambda>" = q)
    (FW : Fun K "_law_wrong" "_law_wrong" sWrong fW fdW) (gW : mg "_law_wrong" = some (.ref fW)) (bW : Binds K fdW ["_law_ask"] [])
    (GI : FnOk P w K mg base (L2.CX P w) 5 fI fdI jP (spJob K CJ CB)) (M : Mk K CJ fI) {dsI : List Value} (bI : Binds K fdI jP dsI) (vI : Vals [.str "whole", .int 0, .str "none"] dsI) :
    FnOk P w K mg base CX0 9 f (PySem.W.fnOf "_law_writers_right" "_law_writers_right" (defArgs sWR) (defBody sWR) (defScope sWR) .none kV doc pm an (.ref c) ct) ["_law_draw"] (spWR T) := by
  refine fn_of lk hcd scWR (fun vs H Q E h => ?_) (fun A outer s H vs Q E hr h => ?_)
  · obtain ⟨dl, rfl, _⟩ := h
    rfl
  · obtain ⟨dl, rfl, L0, T0, k⟩ := h
    suffices z : ∃ t, PSs (cxOf CX0 P w K mg base uN "_law_writers_right" (defScope sWR) f (.ref c) A outer s H E).nox (defBody sWR) t ∧ t { nx := fun _ H' => Q .non H', rt := Q } (L2.start uN [.ref dl]) H by
      obtain ⟨t, h1, h2⟩ := z
      exact ⟨t, h1.nox, h2⟩
    refine ⟨_, pss_cons (ps_set (i := 1) scWR.nd rfl (Or.inl rfl) (pe_tup (pa_cons pe_str (pa_cons pe_str (pa_cons pe_str pa_nil)))))
      (pss_cons (ps_set (i := 2) scWR.nd rfl (Or.inl rfl) (pe_lst (pa_cons (pe_tup (pa_cons (pe_op op_catA (pe_tup (pa_cons (pe_tup (pa_cons pe_int pa_nil)) pa_nil)) (pv 1)) (pa_cons pe_int pa_nil))) (pa_cons (pe_tup (pa_cons (pe_op op_catA (pe_tup (pa_cons (pe_op op_repT (pe_tup (pa_cons pe_int pa_nil)) pe_int) pa_nil)) (pv 1)) (pa_cons pe_int pa_nil))) (pa_cons (pe_tup (pa_cons (pe_op op_catA (pe_tup (pa_cons (pe_tup (pa_cons pe_int (pa_cons pe_int pa_nil))) pa_nil)) (pv 1)) (pa_cons pe_int pa_nil))) (pa_cons (pe_tup (pa_cons (pe_op op_catA (pe_tup (pa_cons (pe_tup (pa_cons pe_int (pa_cons pe_int (pa_cons pe_int pa_nil)))) pa_nil)) (pv 1)) (pa_cons pe_int pa_nil))) (pa_cons (pe_tup (pa_cons (pe_op op_catA (pe_tup (pa_cons (pe_tup (pa_cons pe_int (pa_cons pe_int pa_nil))) pa_nil)) (pv 1)) (pa_cons pe_int pa_nil))) pa_nil)))))))
      (pss_cons (ps_set (i := 2) scWR.nd rfl (Or.inl rfl) (pe_op op_cat (pv 2) (pe_lst (pa_cons (pe_tup (pa_cons (pe_op op_catA (pe_tup (pa_cons (pe_tup (pa_cons pe_int pa_nil)) pa_nil)) (pv 1)) (pa_cons pe_int pa_nil))) (pa_cons (pe_tup (pa_cons (pe_op op_catA (pe_tup (pa_cons (pe_tup pa_nil) pa_nil)) (pv 1)) (pa_cons pe_int pa_nil))) (pa_cons (pe_tup (pa_cons (pe_op op_catA (pe_tup (pa_cons (pe_lst (pa_cons pe_int pa_nil)) pa_nil)) (pv 1)) (pa_cons pe_int pa_nil))) (pa_cons (pe_tup (pa_cons (pe_op op_catA (pe_tup (pa_cons (pe_tup (pa_cons pe_bl pa_nil)) pa_nil)) (pv 1)) (pa_cons pe_int pa_nil))) (pa_cons (pe_tup (pa_cons (pe_op op_catA (pe_tup (pa_cons pe_int pa_nil)) (pv 1)) (pa_cons pe_int pa_nil))) pa_nil))))))))
      (pss_cons (ps_set (i := 2) scWR.nd rfl (Or.inl rfl) (pe_op op_cat (pv 2) (pe_lst (pa_cons (pe_tup (pa_cons (pe_tup (pa_cons (pe_tup (pa_cons pe_int pa_nil)) (pa_cons pe_str (pa_cons pe_str (pa_cons pe_str pa_nil))))) (pa_cons pe_int pa_nil))) (pa_cons (pe_tup (pa_cons (pe_tup (pa_cons (pe_tup (pa_cons pe_int pa_nil)) (pa_cons pe_str (pa_cons pe_str (pa_cons pe_str pa_nil))))) (pa_cons pe_int pa_nil))) (pa_cons (pe_tup (pa_cons (pe_tup (pa_cons (pe_tup (pa_cons pe_int pa_nil)) (pa_cons pe_str (pa_cons pe_str (pa_cons pe_str pa_nil))))) (pa_cons pe_int pa_nil))) pa_nil))))))
      (pss_cons (ps_set (i := 2) scWR.nd rfl (Or.inl rfl) (pe_op op_cat (pv 2) (pe_lst (pa_cons (pe_tup (pa_cons (pe_tup (pa_cons (pe_tup (pa_cons pe_int pa_nil)) (pa_cons pe_str (pa_cons pe_str pa_nil)))) (pa_cons pe_int pa_nil))) (pa_cons (pe_tup (pa_cons (pe_op op_catA (pe_op op_catA (pe_tup (pa_cons (pe_tup (pa_cons pe_int pa_nil)) pa_nil)) (pv 1)) (pe_tup (pa_cons pe_str pa_nil))) (pa_cons pe_int pa_nil))) (pa_cons (pe_tup (pa_cons (pe_lst (pa_cons (pe_tup (pa_cons pe_int pa_nil)) (pa_cons pe_str (pa_cons pe_str (pa_cons pe_str pa_nil))))) (pa_cons pe_int pa_nil))) (pa_cons (pe_tup (pa_cons pe_non (pa_cons pe_int pa_nil))) pa_nil)))))))
      (pss_cons (ps_set (i := 2) scWR.nd rfl (Or.inl rfl) (pe_op op_cat (pv 2) (pe_lst (pa_cons (pe_tup (pa_cons (pe_tup (pa_cons (pe_tup (pa_cons pe_int pa_nil)) (pa_cons pe_str (pa_cons pe_str (pa_cons pe_non pa_nil))))) (pa_cons pe_int pa_nil))) (pa_cons (pe_tup (pa_cons (pe_op op_catA (pe_tup (pa_cons (pe_tup (pa_cons pe_int pa_nil)) pa_nil)) (pv 1)) (pa_cons pe_int pa_nil))) (pa_cons (pe_tup (pa_cons (pe_op op_catA (pe_tup (pa_cons (pe_tup (pa_cons pe_int pa_nil)) pa_nil)) (pv 1)) (pa_cons pe_int pa_nil))) pa_nil))))))
      (pss_cons (ps_for PassesOwn.never rfl (pi_list (pv 2)) (pg_tup rfl (pgs_cons (pg_name (i := 3) scWR.nd rfl (Or.inr rfl)) (pgs_cons (pg_name (i := 4) scWR.nd rfl (Or.inl rfl)) pgs_nil)))
        (pss_one (ps_if (pt_cmpR op_ne (pe_cmpR op_eq (pe_wrong FW gW bW TB TN EM TA hr hmT hu (t := fun E => tJob1 K CJ CB 3 E) (fun A outer s H E f c' hr' => pe_make M GI hr' rfl JT.gJ bI vI (passes_call (takes_of rfl rfl rfl rfl) fun _ _ _ _ h => h) (pa_cons (pe_tup (pa_cons (pv 3) pa_nil)) pa_nil)) (show LamS (defScope sWR) _ from lamS_by (by decide +kernel)) rfl rfl hq) pe_str (nomark _)) (pe_cmpR op_eq (pv 4) pe_int (nomark _)) (nomark _)) (pss_one (ps_ret pe_bl)) pss_nil)))
      (pss_cons (ps_par (i := 5) (j := 6) rfl scWR.nd rfl rfl (by decide) rfl rfl (pa_cons (pe_op op_catA (pe_tup (pa_cons (pe_tup (pa_cons pe_int pa_nil)) pa_nil)) (pv 1)) (pa_cons (pe_op op_catA (pe_tup (pa_cons (pe_tup (pa_cons pe_int pa_nil)) pa_nil)) (pv 1)) pa_nil)) rfl)
      (pss_cons (ps_set (i := 7) scWR.nd rfl (Or.inl rfl) (pe_lst (pa_cons (pe_tup (pa_cons (pe_op op_repT (pe_tup (pa_cons (pv 6) pa_nil)) pe_int) (pa_cons pe_int pa_nil))) (pa_cons (pe_tup (pa_cons (pe_tup (pa_cons (pv 5) (pa_cons (pv 5) pa_nil))) (pa_cons pe_int pa_nil))) (pa_cons (pe_tup (pa_cons (pe_tup (pa_cons (pv 5) (pa_cons (pv 5) (pa_cons (pe_op op_catA (pe_tup (pa_cons (pe_tup (pa_cons pe_int pa_nil)) pa_nil)) (pv 1)) pa_nil)))) (pa_cons pe_int pa_nil))) (pa_cons (pe_tup (pa_cons (pe_op op_repT (pe_tup (pa_cons (pv 6) pa_nil)) pe_int) (pa_cons pe_int pa_nil))) (pa_cons (pe_tup (pa_cons (pe_tup pa_nil) (pa_cons pe_int pa_nil))) (pa_cons (pe_tup (pa_cons (pe_lst (pa_cons (pv 6) pa_nil)) (pa_cons pe_int pa_nil))) (pa_cons (pe_tup (pa_cons (pv 6) (pa_cons pe_int pa_nil))) pa_nil)))))))))
      (pss_one (ps_ret (pe_callB (cr_all rfl) (by rfl) B.all bo_all (pa_cons
        (pe_lc (own := [("_law_row", 8), ("_law_is_good", 4)]) (g := gTup K 2 (gCons (gName 8) (gCons (gName 4) gNil))) (tt := tYes) (te := tOp rEq (tOp rEq (tLam T (TTw CB CN) fun E => tJob0 K CJ CB 8 E) (tC (.str ""))) (tOp rEq (tVar 4) (tC (.int 1)))) rfl scWR.nd (pi_list (pv 7))
          (blkOk_by (own := [("_law_row", 8), ("_law_is_good", 4)]) (N := uN) (sc := defScope sWR) (by decide +kernel))
          (fun _ _ _ _ _ => pg_tup rfl (pgs_cons (pg_name (i := 8) scWR.nd rfl (Or.inr rfl)) (pgs_cons (pg_name (i := 4) scWR.nd rfl (Or.inl rfl)) pgs_nil))) (fun _ _ _ _ _ => pts_nil)
          (fun _ _ _ _ _ => pe_cmpR op_eq (pe_cmpR op_eq (pe_wrong FW gW bW TB TN EM TA hr hmT hu (t := fun E => tJob0 K CJ CB 8 E) (fun A outer s H E f c' hr' => pe_make M GI hr' rfl JT.gJ bI vI (passes_call (takes_of rfl rfl rfl rfl) fun _ _ _ _ h => h) (pa_cons (pv 8) pa_nil)) (show LamS (relS _ (defScope sWR)) _ from lamS_by (by decide +kernel)) rfl rfl hq) pe_str (nomark _)) (pe_cmpR op_eq (pv 4) pe_int (nomark _)) (nomark _))) pa_nil)))))))))))), ?_⟩
    refine st_set (K := K) (d := .tuple wrW) (dl := dl) (ed_tup L0 (ea1 ed_str (ea1 ed_str (ea1 ed_str ea0)))) fun v1 H1 e1 W0 => ?_
    have L1 := L0.ex e1
    refine st_setL (K := K) (ds := wrG0) (dl := dl) (el_lst L1 (ea1 (ed_tup L1 (ea1 (ed_cat L1 (ed_tup L1 (ea1 (ed_tup L1 (ea1 ed_int ea0)) ea0)) (ed_var rfl W0)) (ea1 ed_int ea0))) (ea1 (ed_tup L1 (ea1 (ed_cat L1 (ed_tup L1 (ea1 (ed_rep L1 (ed_tup L1 (ea1 ed_int ea0))) ea0)) (ed_var rfl W0)) (ea1 ed_int ea0))) (ea1 (ed_tup L1 (ea1 (ed_cat L1 (ed_tup L1 (ea1 (ed_tup L1 (ea1 ed_int (ea1 ed_int ea0))) ea0)) (ed_var rfl W0)) (ea1 ed_int ea0))) (ea1 (ed_tup L1 (ea1 (ed_cat L1 (ed_tup L1 (ea1 (ed_tup L1 (ea1 ed_int (ea1 ed_int (ea1 ed_int ea0)))) ea0)) (ed_var rfl W0)) (ea1 ed_int ea0))) (ea1 (ed_tup L1 (ea1 (ed_cat L1 (ed_tup L1 (ea1 (ed_tup L1 (ea1 ed_int (ea1 ed_int ea0))) ea0)) (ed_var rfl W0)) (ea1 ed_int ea0))) ea0)))))) fun l0 x0 H2 e2 p0 a0 => ?_
    have L2 := L1.ex e2
    have W1 := dp_ex (ex_st (dl := dl) e2) W0
    refine st_setL (K := K) (ds := wrG0 ++ wrG1) (dl := dl) (el_cat L2 (el_var rfl p0 a0) (el_lst L2 (ea1 (ed_tup L2 (ea1 (ed_cat L2 (ed_tup L2 (ea1 (ed_tup L2 (ea1 ed_int ea0)) ea0)) (ed_var rfl W1)) (ea1 ed_int ea0))) (ea1 (ed_tup L2 (ea1 (ed_cat L2 (ed_tup L2 (ea1 (ed_tup L2 ea0) ea0)) (ed_var rfl W1)) (ea1 ed_int ea0))) (ea1 (ed_tup L2 (ea1 (ed_cat L2 (ed_tup L2 (ea1 (ed_lst L2 (ea1 ed_int ea0)) ea0)) (ed_var rfl W1)) (ea1 ed_int ea0))) (ea1 (ed_tup L2 (ea1 (ed_cat L2 (ed_tup L2 (ea1 (ed_tup L2 (ea1 ed_bl ea0)) ea0)) (ed_var rfl W1)) (ea1 ed_int ea0))) (ea1 (ed_tup L2 (ea1 (ed_cat L2 (ed_tup L2 (ea1 ed_int ea0)) (ed_var rfl W1)) (ea1 ed_int ea0))) ea0))))))) fun l1 x1 H3 e3 p1 a1 => ?_
    have L3 := L2.ex e3
    have W2 := dp_ex (ex_st (dl := dl) e3) W1
    refine st_setL (K := K) (ds := wrG0 ++ wrG1 ++ wrG2) (dl := dl) (el_cat L3 (el_var rfl p1 a1) (el_lst L3 (ea1 (ed_tup L3 (ea1 (ed_tup L3 (ea1 (ed_tup L3 (ea1 ed_int ea0)) (ea1 ed_str (ea1 ed_str (ea1 ed_str ea0))))) (ea1 ed_int ea0))) (ea1 (ed_tup L3 (ea1 (ed_tup L3 (ea1 (ed_tup L3 (ea1 ed_int ea0)) (ea1 ed_str (ea1 ed_str (ea1 ed_str ea0))))) (ea1 ed_int ea0))) (ea1 (ed_tup L3 (ea1 (ed_tup L3 (ea1 (ed_tup L3 (ea1 ed_int ea0)) (ea1 ed_str (ea1 ed_str (ea1 ed_str ea0))))) (ea1 ed_int ea0))) ea0))))) fun l2 x2 H4 e4 p2 a2 => ?_
    have L4 := L3.ex e4
    have W3 := dp_ex (ex_st (dl := dl) e4) W2
    refine st_setL (K := K) (ds := wrG0 ++ wrG1 ++ wrG2 ++ wrG3) (dl := dl) (el_cat L4 (el_var rfl p2 a2) (el_lst L4 (ea1 (ed_tup L4 (ea1 (ed_tup L4 (ea1 (ed_tup L4 (ea1 ed_int ea0)) (ea1 ed_str (ea1 ed_str ea0)))) (ea1 ed_int ea0))) (ea1 (ed_tup L4 (ea1 (ed_cat L4 (ed_cat L4 (ed_tup L4 (ea1 (ed_tup L4 (ea1 ed_int ea0)) ea0)) (ed_var rfl W3)) (ed_tup L4 (ea1 ed_str ea0))) (ea1 ed_int ea0))) (ea1 (ed_tup L4 (ea1 (ed_lst L4 (ea1 (ed_tup L4 (ea1 ed_int ea0)) (ea1 ed_str (ea1 ed_str (ea1 ed_str ea0))))) (ea1 ed_int ea0))) (ea1 (ed_tup L4 (ea1 ed_non (ea1 ed_int ea0))) ea0)))))) fun l3 x3 H5 e5 p3 a3 => ?_
    have L5 := L4.ex e5
    have W4 := dp_ex (ex_st (dl := dl) e5) W3
    refine st_setL (K := K) (ds := wrG0 ++ wrG1 ++ wrG2 ++ wrG3 ++ wrG4) (dl := dl) (el_cat L5 (el_var rfl p3 a3) (el_lst L5 (ea1 (ed_tup L5 (ea1 (ed_tup L5 (ea1 (ed_tup L5 (ea1 ed_int ea0)) (ea1 ed_str (ea1 ed_str (ea1 ed_non ea0))))) (ea1 ed_int ea0))) (ea1 (ed_tup L5 (ea1 (ed_cat L5 (ed_tup L5 (ea1 (ed_tup L5 (ea1 ed_int ea0)) ea0)) (ed_var rfl W4)) (ea1 ed_int ea0))) (ea1 (ed_tup L5 (ea1 (ed_cat L5 (ed_tup L5 (ea1 (ed_tup L5 (ea1 ed_int ea0)) ea0)) (ed_var rfl W4)) (ea1 ed_int ea0))) ea0))))) fun l4 x4 H6 e6 p4 a4 => ?_
    have L6 := L5.ex e6
    have W5 := dp_ex (ex_st (dl := dl) e6) W4
    have T6 := (((((T0.ext e1).ext e2).ext e3).ext e4).ext e5).ext e6
    have gok := List.all_eq_true.mp wrGood_ok
    refine ⟨_, rfl, l4, rfl, ⟨_, SqL.of (st_some p4).2.1⟩, for_list (K := K) (a := l4) (xs := x4) (fun i σ H' => (∃ o3 o4, σ = [some (.ref dl), some v1, some (.ref l4), o3, o4, none, none, none, none]) ∧ Ex (St dl H6) (St dl H') ∧ Tabs T H' ∧ HasL dl H')
      ⟨⟨_, _, rfl⟩, Ex.refl _, T6, L6⟩ (fun i σ H' _ ⟨_, e, _⟩ => SqL.of (st_some (e _ _ p4)).2.1) ?_ ?_⟩
    · rintro i x σ H' hx ⟨⟨o3, o4, rfl⟩, e, T', L'⟩
      obtain ⟨d0, hd0, dp0⟩ := dps_at a4 hx
      obtain ⟨p, v, d, g, rfl, sq, dv, hw⟩ := item_of (gok d0 (List.mem_of_getElem? hd0)) (dp_ex e dp0)
      refine ⟨p, [v, .int g], rfl, ex_t st_le sq, rfl, _, _, rfl, _, _, rfl, rfl, ?_⟩
      refine r_job1 (dl := dl) T' rfl dv fun H2 e2 T2 k2 => ?_
      refine ⟨rfl, _, rfl, rfl, rfl, _, rfl, ?_⟩
      rw [told1_eq hw, decide_eq_true (show V.bl (decide (V.int g = V.int 1)) = V.bl (decide (V.int g = V.int 1)) from rfl)]
      obtain ⟨ys, hys⟩ := L'
      exact iteF ⟨⟨_, _, rfl⟩, e.trans e2, T2, ⟨ys, k2 _ _ hys trivial⟩⟩
    · rintro σ H' ⟨⟨o3, o4, rfl⟩, e, T', L'⟩
      have W7 := dp_ex e W5
      refine st_par (K := K) (dl := dl) (ea1 (ed_cat L' (ed_tup L' (ea1 (ed_tup L' (ea1 ed_int ea0)) ea0)) (ed_var rfl W7)) (ea1 (ed_cat L' (ed_tup L' (ea1 (ed_tup L' (ea1 ed_int ea0)) ea0)) (ed_var rfl W7)) ea0)) fun v3 v2 H8 e8 h3 h2 => ?_
      have L8 := L'.ex e8
      have W8 := dp_ex (ex_st (dl := dl) e8) W7
      refine st_setL (K := K) (ds := wrRows) (dl := dl) (el_lst L8 (ea1 (ed_tup L8 (ea1 (ed_rep L8 (ed_tup L8 (ea1 (ed_var rfl h2) ea0))) (ea1 ed_int ea0))) (ea1 (ed_tup L8 (ea1 (ed_tup L8 (ea1 (ed_var rfl h3) (ea1 (ed_var rfl h3) ea0))) (ea1 ed_int ea0))) (ea1 (ed_tup L8 (ea1 (ed_tup L8 (ea1 (ed_var rfl h3) (ea1 (ed_var rfl h3) (ea1 (ed_cat L8 (ed_tup L8 (ea1 (ed_tup L8 (ea1 ed_int ea0)) ea0)) (ed_var rfl W8)) ea0)))) (ea1 ed_int ea0))) (ea1 (ed_tup L8 (ea1 (ed_rep L8 (ed_tup L8 (ea1 (ed_var rfl h2) ea0))) (ea1 ed_int ea0))) (ea1 (ed_tup L8 (ea1 (ed_tup L8 ea0) (ea1 ed_int ea0))) (ea1 (ed_tup L8 (ea1 (ed_lst L8 (ea1 (ed_var rfl h2) ea0)) (ea1 ed_int ea0))) (ea1 (ed_tup L8 (ea1 (ed_var rfl h2) (ea1 ed_int ea0))) ea0)))))))) fun l9 x9 H9 e9 p9 a9 => ?_
      have L9 := L8.ex e9
      have T9 := (T'.ext e8).ext e9
      have rok := List.all_eq_true.mp wrRows_ok
      refine ⟨_, rfl, l9, rfl, ⟨_, SqL.of (st_some p9).2.1⟩, fun D hD => ?_⟩
      have nD := L9.ne (Ex.refl _) hD
      refine lc_list (K := K) (a := l9) (xs := x9) (fun i H' => Ex (St dl H9) (St dl H') ∧ Tabs T H' ∧ HasL dl H' ∧ H' D = some (.lst ((List.replicate i true).map V.bl)) ∧ i ≤ x9.length)
        ⟨ex_st (Ex.new hD), T9.ext (Ex.new hD), L9.mut nD, upd_same, Nat.zero_le _⟩ (fun i H' _ ⟨e, _⟩ => SqL.of (st_some (e _ _ p9)).2.1) ?_ ?_
      · rintro i x H' hx ⟨e', T'', L'', hDl, hi⟩
        have hix : i < x9.length := (List.getElem?_eq_some_iff.mp hx).1
        have hlen : x9.length = 7 := dps_len a9
        obtain ⟨d0, hd0, dp0⟩ := dps_at a9 hx
        obtain ⟨p, v, d, g, rfl, sq, dv, hw⟩ := item_of (rok d0 (List.mem_of_getElem? hd0)) (dp_ex e' dp0)
        refine ⟨p, [v, .int g], rfl, ex_t st_le sq, rfl, _, _, rfl, _, _, rfl, rfl, wipe2 (by decide), ?_⟩
        refine r_job0 (dl := dl) T'' rfl dv fun H2 e2 T2 k2 => ?_
        refine ⟨rfl, _, rfl, rfl, rfl, ?_⟩
        have hw' : writersOk d = decide (g = 1) := hw
        rw [told0_eq hw', decide_eq_true (show V.bl (decide (V.int g = V.int 1)) = V.bl (decide (V.int g = V.int 1)) from rfl)]
        have hD2 := k2 D _ hDl trivial
        obtain ⟨ys, hys⟩ := L''
        refine ⟨_, hD2, sz_lt (by rw [List.length_map, List.length_replicate]; omega), st_mut (e'.trans e2) (st_none hD), tabs_mut T2 hD2, HasL.mut ⟨ys, k2 _ _ hys trivial⟩ nD, ?_, hix⟩
        rw [upd_same, List.replicate_succ', List.map_append]
        rfl
      · rintro H' ⟨e', T'', L'', hDl, hi⟩
        refine ⟨D, _, rfl, SqL.of hDl, ?_⟩
        rw [show (List.replicate x9.length true).all id = true from List.all_eq_true.mpr fun b hb => (List.eq_of_mem_replicate hb)]
        exact k H'
end
end K1


/-! K1v: more readings; the data of jobs with one odd part. -/
namespace K1
open PySem L2 Evl LamX
section
variable {K : PySem.W.Frag} {dl : Addr} {ta tb te : TE} {tA tB : TA} {σ : L2.St} {H : Hp} {d : PyData} {ds es : List PyData}
theorem ed_neg {i : Int} : Evd K dl (tUn (rU fun i => V.int (-i)) (tC (.int i))) σ H (.int (-i)) := fun H1 _ Q q => ⟨i, rfl, q _ H1 (Ex.refl H1) (.int _)⟩
theorem ed_catX (hd : HasL dl H) (h1 : Evd K dl ta σ H (.tuple ds)) (h2 : Evd K dl tb σ H (.tuple es)) (hl : ds.length + es.length ≤ 1000) : Evd K dl (tOp (rCatA K) ta tb) σ H (.tuple (ds ++ es)) := fun H1 e Q q =>
  h1 H1 e _ fun v H2 e2 hv => h2 H2 (e.trans e2) _ fun u H3 e3 hu => by
    cases hv with
    | @tup a xs _ s1 a1 =>
      cases hu with
      | @tup b ys _ s2 a2 =>
        have a1' := dps_ex (ex_st (dl := dl) e3) a1
        have l1 := dps_len a1
        have l2 := dps_len a2
        refine ⟨a, b, xs, ys, rfl, rfl, ex_t ((ex_st e3).trans st_le) s1, ex_t st_le s2, sz8 (by rw [l1, l2]; exact hl), fun z => ?_, fun _ z => ?_, fun _ _ p hp => q _ _ ((e2.trans e3).trans (Ex.new hp)) (.tup (SqT.of (st_new (hd.ne ((e.trans e2).trans e3) hp) trivial)) (dps_ex (ex_st (Ex.new hp)) (dps_append a1' a2)))⟩
        · subst z
          cases a1
          exact q _ _ (e2.trans e3) (.tup s2 a2)
        · subst z
          cases a2
          rw [List.append_nil] at q
          exact q _ _ (e2.trans e3) (.tup (ex_t (ex_st e3) s1) a1')
theorem ed_ix {k : Nat} (h : Evd K dl te σ H (.tuple ds)) (hk : ds[k]? = some d) (hb : Ev tb σ H (.int k)) : Evd K dl (tOp (rIxT K) te tb) σ H d := fun H1 e Q q =>
  h H1 e _ fun v H2 e2 hv => hb H2 (e.trans e2) _ fun H3 e3 => by
    cases hv with
    | @tup a xs _ s1 a1 =>
      have hl := dps_len a1
      have hk2 : k < xs.length := by rw [hl]; exact (List.getElem?_eq_some_iff.mp hk).1
      have e1 : xs[k]? = some xs[k] := List.getElem?_eq_getElem hk2
      obtain ⟨d', hd', dp⟩ := dps_at a1 e1
      rw [hk] at hd'
      cases hd'
      exact ⟨a, xs, k, _, rfl, rfl, ex_t ((ex_st e3).trans st_le) s1, atI_nat e1, q _ _ (e2.trans e3) (dp_ex (ex_st e3) dp)⟩
theorem slA_st {a : Addr} {xs : List V} {lo hi : Option Int} {Q : VK} (hd : HasL dl H) (hs : SqT K (St dl H) a xs) (q : ∀ r H', Ex H H' → SqT K (St dl H') r (cutV xs lo hi) → Q (.ref r) H') : rSlA K (.ref a) lo hi H Q :=
  ⟨a, xs, rfl, ex_t st_le hs, fun h => q a H (Ex.refl H) (by rw [cut_whole h]; exact hs), fun _ p hp => q p _ (Ex.new hp) (SqT.of (st_new (hd.ne (Ex.refl H) hp) trivial))⟩
theorem ed_take {k : Nat} (hd : HasL dl H) (h : Evd K dl te σ H (.tuple ds)) (hb : Ev tb σ H (.int k)) (hk : k ≤ ds.length) : Evd K dl (tSl (rSlA K) te tNoPart (tPart tb)) σ H (.tuple (ds.take k)) := fun H1 e Q q =>
  h H1 e _ fun v H2 e2 hv => hb H2 (e.trans e2) _ fun H3 e3 => by
    cases hv with
    | @tup a xs _ s1 a1 =>
      refine ⟨k, rfl, ?_⟩
      show rSlA K (.ref a) none (some (k : Int)) H3 Q
      refine slA_st (dl := dl) (hd.ex ((e.trans e2).trans e3)) (ex_t (ex_st e3) s1) fun r H4 e4 h4 => q _ _ ((e2.trans e3).trans e4) ?_
      rw [cut_take (by rw [dps_len a1]; exact hk)] at h4
      exact .tup h4 (dps_ex (ex_st (e3.trans e4)) (dps_take k a1))
theorem ed_drop {k : Nat} (hd : HasL dl H) (h : Evd K dl te σ H (.tuple ds)) (hb : Ev tb σ H (.int k)) (hk : k ≤ ds.length) : Evd K dl (tSl (rSlA K) te (tPart tb) tNoPart) σ H (.tuple (ds.drop k)) := fun H1 e Q q =>
  h H1 e _ fun v H2 e2 hv => hb H2 (e.trans e2) _ fun H3 e3 => by
    cases hv with
    | @tup a xs _ s1 a1 =>
      refine ⟨k, rfl, ?_⟩
      show rSlA K (.ref a) (some (k : Int)) none H3 Q
      refine slA_st (dl := dl) (hd.ex ((e.trans e2).trans e3)) (ex_t (ex_st e3) s1) fun r H4 e4 h4 => q _ _ ((e2.trans e3).trans e4) ?_
      rw [cut_drop (by rw [dps_len a1]; exact hk)] at h4
      exact .tup h4 (dps_ex (ex_st (e3.trans e4)) (dps_drop k a1))
/-! ### enumerate -/
theorem for_enum {K : PySem.W.Frag} {a : Addr} {xs : List V} {g : TG} {tb : TS} {D : Ends} {σ : L2.St} {H : Hp} (Pv : Nat → L2.St → Hp → Prop) (h0 : Pv 0 σ H) (hl : ∀ i σ H, Pv i σ H → SqL K H a xs)
    (hs : ∀ i x T σ H, xs[i]? = some x → Pv i σ H → H T = none → g (.ref T) σ (upd H T (.tup [.int (i : Nat), x])) fun σ2 H2 => tb { D with nx := Pv (i + 1), ct := Pv (i + 1), bk := D.nx } σ2 H2) (hd : ∀ σ H, Pv xs.length σ H → D.nx σ H) :
    ∃ W : Nat → Nat → L2.St → Hp → Prop, (∃ m, W 0 m σ H) ∧ ∀ i m σ H, W i m σ H →
      ((Ite K a).stop i H ∧ D.nx σ H) ∨ ((Ite K a).go i H ∧ ∃ N : L2.St → Hp → Prop, (∀ σ' H', N σ' H' → ∃ m', m' < m ∧ W (i + 1) m' σ' H') ∧ ∀ v H', (Ite K a).yld i H v H' → g v σ H' fun σ2 H2 => tb { D with nx := N, ct := N, bk := D.nx } σ2 H2) := by
  refine ⟨fun i m σ H => m = xs.length - i ∧ i ≤ xs.length ∧ Pv i σ H, ⟨_, rfl, Nat.zero_le _, h0⟩, ?_⟩
  rintro i m σ H ⟨rfl, hi, p⟩
  have q := hl i σ H p
  rcases Nat.lt_or_ge i xs.length with hlt | hge
  · have hx : xs[i]? = some xs[i] := List.getElem?_eq_getElem hlt
    refine .inr ⟨⟨xs, _, q, hx⟩, Pv (i + 1), fun σ' H' p' => ⟨_, by omega, rfl, hlt, p'⟩, fun v H' y => ?_⟩
    obtain ⟨T, x, rfl, hT, rfl, f⟩ := y
    exact hs i x T σ H (f xs q) p hT
  · obtain rfl : i = xs.length := by omega
    exact .inl ⟨⟨xs, q, Nat.le_refl _⟩, hd σ H p⟩
/-! ### draws keep the tables -/
theorem tabs_but {T : List (Addr × Str)} {H' : Hp} (t : Tabs T H) (h : HasL dl H) (b : But dl H H') : Tabs T H' := fun p hp => by
  obtain ⟨xs, hx⟩ := h
  obtain ⟨ps, h1, h2, h3⟩ := t p hp
  refine ⟨ps, b _ _ (fun z => ?_) h1, h2, fun pos cv hc => ?_⟩
  · rw [z, hx] at h1
    cases h1
  · obtain ⟨c, e1, e2⟩ := h3 pos cv hc
    refine ⟨c, e1, b _ _ (fun z => ?_) e2⟩
    rw [z, hx] at e2
    unfold CodeO at e2
    cases e2
theorem Drw.has {sc : Addr} {ns : List Int} (h : Drw K dl sc ns H) : HasL dl H := let ⟨_, h1, _⟩ := h; ⟨_, h1⟩
theorem Drw.ext {sc : Addr} {ns : List Int} {H' : Hp} (h : Drw K dl sc ns H) (e : Ex (St dl H) (St dl H')) (k : ∀ b o, H b = some o → NoTbl o → H' b = some o) : Drw K dl sc ns H' := let ⟨n, h1, h2⟩ := h; ⟨n, k _ _ h1 trivial, ex_l e h2⟩
end
/-! ### what _law_wrong tells of a job's parts -/
def toldF : Option Str → Str
  | none => ""
  | some n => n
section
variable {K : PySem.W.Frag} {CJ CB CN dl : Addr} {σ : L2.St} {H : Hp} {T : List (Addr × Str)}
/-- wrong(lambda: made(..)) -/
theorem r_made {te : TE} {d0 d1 d2 d3 : PyData} {Q : VK} (hT : Tabs T H) (hL : HasL dl H) (hv : ∀ H1, Ex (St dl H) (St dl H1) → HasL dl H1 → Evd K dl te σ H1 (.tuple [d0, d1, d2, d3]))
    (q : ∀ H', Ex (St dl H) (St dl H') → Tabs T H' → (∀ b o, H b = some o → NoTbl o → H' b = some o) → Q (.str (toldF (firstBad d0 d1 d2 d3))) H') :
    tLam T (TTw CB CN) (fun E => tCall (spMade K CJ CB) [] E (tCons te tNil)) σ H Q := by
  refine ⟨hT, fun H1 eN T1 => ?_⟩
  refine hv H1 (extN_st eN) (extN_has eN hL) H1 (Ex.refl H1) _ fun v H2 e2 dv => ?_
  have keep : ∀ {H' : Hp}, Ex H1 H' → ∀ b o, H b = some o → NoTbl o → H' b = some o := fun e b o h n => e _ _ (eN _ _ h fun ps z => by rw [z] at n; exact n)
  cases dv with
  | @tup a xs _ s1 a1 =>
    obtain ⟨v0, v1, v2, v3, _, _, _, _, rfl, ed, e0', e1', e2', e3'⟩ := dps4 (dps_len a1) a1
    cases ed
    refine ⟨a, v0, v1, v2, v3, d0, d1, d2, d3, rfl, ex_t st_le s1, dp_ex st_le e0', dp_ex st_le e1', dp_ex st_le e2', dp_ex st_le e3', fun hf H' y e hy => ?_, fun n hf dd H' e hdd => ?_⟩
    · have q' := q H' ((extN_st eN).trans (ex_st (e2.trans e))) (T1.ext (e2.trans e)) (keep (e2.trans e))
      rw [hf] at q'
      exact q'
    · have q' := q H' ((extN_st eN).trans (ex_st (e2.trans e))) (T1.ext (e2.trans e)) (keep (e2.trans e))
      rw [hf] at q'
      exact .inl ⟨rfl, dd, _, rfl, hdd, q'⟩
end
/-! ### one odd part -/
def names4 : List Str := ["writers", "writes", "before", "falls"]
/-- the i-th part is not one -/
def badAt (i : Nat) (d : PyData) : Bool := match i with
  | 0 => !writersOk d
  | 1 => !ruleOk "writes" d
  | 2 => !ruleOk "before" d
  | _ => !ruleOk "falls" d
theorem odd_data {dw da db dc dt : PyData} {i : Nat} {nm : Str} (h0 : writersOk dw = true) (h1 : ruleOk "writes" da = true) (h2 : ruleOk "before" db = true) (hn : names4[i]? = some nm) (hb : badAt i dt = true) :
    ∃ d0 d1 d2 d3, ([dw, da, db, dc].take i ++ [dt] ++ [dw, da, db, dc].drop (i + 1)) = [d0, d1, d2, d3] ∧ firstBad d0 d1 d2 d3 = some nm ∧ firstBad d0 d1 d2 (.int 7) = some nm := by
  match i, hn, hb with
  | 0, hn, hb =>
    cases hn
    have z : writersOk dt = false := by simpa [badAt] using hb
    exact ⟨dt, da, db, dc, rfl, fb_w z, fb_w z⟩
  | 1, hn, hb =>
    cases hn
    have z : ruleOk "writes" dt = false := by simpa [badAt] using hb
    exact ⟨dw, dt, db, dc, rfl, fb_a h0 z, fb_a h0 z⟩
  | 2, hn, hb =>
    cases hn
    have z : ruleOk "before" dt = false := by simpa [badAt] using hb
    exact ⟨dw, da, dt, dc, rfl, fb_b h0 h1 z, fb_b h0 h1 z⟩
  | 3, hn, hb =>
    cases hn
    have z : ruleOk "falls" dt = false := by simpa [badAt] using hb
    exact ⟨dw, da, db, dt, rfl, fb_c h0 h1 h2 z, fb_c h0 h1 h2 (by decide +kernel)⟩
  | i + 4, hn, _ => cases hn
end K1

/-! K1w: good parts; lambdas that call a job's methods. -/
namespace K1
open PySem L2 Evl LamX
/-! ### good parts -/
theorem sets_ok : ∀ ls ∈ lineSets, linesOk (.tuple (ls.map PyData.int)) = true ∧ sumD (ls.map PyData.int) ≤ 3 := by decide +kernel
theorem word_in {ws : List Str} {a : Str} (h : a ∈ ws) : wordIn ws (.str a) = true := by
  show ws.contains a = true
  simpa using h
theorem goodW_ok {d : PyData} (h : GoodW d) : writerOk d = true ∧ partsOf d ≤ 3 := by
  obtain ⟨ls, a, b, c, rfl, hls, ha, hb, hc⟩ := h
  obtain ⟨h1, h2⟩ := sets_ok ls hls
  refine ⟨?_, h2⟩
  show (linesOk (.tuple (ls.map PyData.int)) && (wordIn wPlace (.str a) && (wordIn wKeep (.str b) && wordIn wOpen (.str c)))) = true
  rw [h1, word_in ha, word_in hb, word_in hc]
  rfl
theorem good_writers {ws : List PyData} (hl : ws.length = 1 ∨ ws.length = 2) (hg : ∀ d ∈ ws, GoodW d) : writersOk (.tuple ws) = true := by
  have ha : ws.all writerOk = true := List.all_eq_true.mpr fun d hd => (goodW_ok (hg d hd)).1
  have hs : (ws.map partsOf).sum ≤ 6 := by
    rcases hl with hl | hl
    · match ws, hl, hg with
      | [d], _, hg =>
        have h1 := (goodW_ok (hg d List.mem_cons_self)).2
        show partsOf d + 0 ≤ 6
        omega
    · match ws, hl, hg with
      | [d, e], _, hg =>
        have h1 := (goodW_ok (hg d List.mem_cons_self)).2
        have h2 := (goodW_ok (hg e (List.mem_cons_of_mem _ List.mem_cons_self))).2
        show partsOf d + (partsOf e + 0) ≤ 6
        omega
  rw [writersOk_go (by omega) (by omega), ha, decide_eq_true hs]
  rfl
theorem rw_ok {a : Str} (h : a ∈ rWrites) : ruleOk "writes" (.str a) = true := by rw [ruleOk_writes, word_in h]
theorem rf_ok {a : Str} (h : a ∈ rFalls) : ruleOk "falls" (.str a) = true := by rw [ruleOk_falls, word_in h]
theorem rb_ok {b : Int} (h : b = 0 ∨ b = 1 ∨ b = 2) : ruleOk "before" (.int b) = true := by
  rw [ruleOk_before]
  rcases h with rfl | rfl | rfl <;> decide
theorem good_none {ws : List PyData} {a c : Str} {b : Int} (hl : ws.length = 1 ∨ ws.length = 2) (hg : ∀ d ∈ ws, GoodW d) (ha : a ∈ rWrites) (hb : b = 0 ∨ b = 1 ∨ b = 2) (hc : c ∈ rFalls) : firstBad (.tuple ws) (.str a) (.int b) (.str c) = none :=
  fb_no (good_writers hl hg) (rw_ok ha) (rb_ok hb) (rf_ok hc)
theorem str_ok {ws : List Str} (h : ws.all PyData.strOk = true) {a : Str} (ha : a ∈ ws) : PyData.strOk a = true := List.all_eq_true.mp h a ha
theorem gw_lay {d : PyData} (h : GoodW d) : d.canLay0 = true ∧ d.depth ≤ 2 := by
  obtain ⟨ls, a, b, c, rfl, hls, ha, hb, hc⟩ := h
  have e1 := str_ok (ws := wPlace) (by decide +kernel) ha
  have e2 := str_ok (ws := wKeep) (by decide +kernel) hb
  have e3 := str_ok (ws := wOpen) (by decide +kernel) hc
  refine ⟨?_, ?_⟩
  · simp [gw, PyData.canLay0, PyData.canLayAll0, lay_ints, e1, e2, e3]
  · simp [gw, PyData.depth, PyData.depthAll, depth_ints]
theorem ws_lay {ws : List PyData} (hl : ws.length = 1 ∨ ws.length = 2) (hg : ∀ d ∈ ws, GoodW d) : PyData.canLayAll0 ws = true ∧ PyData.depthAll ws ≤ 2 := by
  rcases hl with hl | hl
  · match ws, hl, hg with
    | [d], _, hg =>
      obtain ⟨h1, h2⟩ := gw_lay (hg d List.mem_cons_self)
      refine ⟨by simp [PyData.canLayAll0, h1], ?_⟩
      simp only [PyData.depthAll]
      omega
  · match ws, hl, hg with
    | [d, e], _, hg =>
      obtain ⟨h1, h2⟩ := gw_lay (hg d List.mem_cons_self)
      obtain ⟨h3, h4⟩ := gw_lay (hg e (List.mem_cons_of_mem _ List.mem_cons_self))
      refine ⟨by simp [PyData.canLayAll0, h1, h3], ?_⟩
      simp only [PyData.depthAll]
      omega
theorem good_shaped {ws : List PyData} {a c : Str} {b : Int} (hl : ws.length = 1 ∨ ws.length = 2) (hg : ∀ d ∈ ws, GoodW d) (ha : a ∈ rWrites) (hc : c ∈ rFalls) : SeqAt.shaped (.tuple [.tuple ws, .str a, .int b, .str c]) = true := by
  obtain ⟨h1, h2⟩ := ws_lay hl hg
  have e1 := str_ok (ws := rWrites) (by decide +kernel) ha
  have e2 := str_ok (ws := rFalls) (by decide +kernel) hc
  have hd : (PyData.tuple [.tuple ws, .str a, .int b, .str c]).depth ≤ 64 := by
    simp only [PyData.depth, PyData.depthAll]
    omega
  have hy : (PyData.tuple [.tuple ws, .str a, .int b, .str c]).canLay0 = true := by simp [PyData.canLay0, PyData.canLayAll0, h1, e1, e2]
  unfold SeqAt.shaped
  rw [hy, decide_eq_true hd]
  rfl
theorem eqv_same {d : PyData} (h : SeqAt.shaped d = true) : PyData.eqv d d = true := SeqAt.eqv_refl d (SeqAt.canLay_of_shaped h)
/-! ### another rule -/
theorem late_data {dw da db dc o : PyData} {i : Nat} {nm : Str} (hi : 0 < i) (hn : names4[i]? = some nm) :
    ([dw, da, db, dc].take i ++ [o] ++ [dw, da, db, dc].drop (i + 1)) = [dw, sw nm "writes" o da, sw nm "before" o db, sw nm "falls" o dc] ∧ nm ∈ ruleNames := by
  match i, hi, hn with
  | 1, _, hn =>
    cases hn
    refine ⟨?_, by decide +kernel⟩
    unfold sw
    rw [if_pos rfl, if_neg n_rb, if_neg n_rf]
    rfl
  | 2, _, hn =>
    cases hn
    refine ⟨?_, by decide +kernel⟩
    unfold sw
    rw [if_pos rfl, if_neg n_br, if_neg n_bf]
    rfl
  | 3, _, hn =>
    cases hn
    refine ⟨?_, by decide +kernel⟩
    unfold sw
    rw [if_pos rfl, if_neg n_fr, if_neg n_fb]
    rfl
  | i + 4, _, hn => cases hn
theorem late_good {a c a2 c2 : Str} {b b2 : Int} {w2 o : PyData} {i : Nat} {nm : Str} (hi : 0 < i) (hn : names4[i]? = some nm) (ho : ([w2, .str a2, .int b2, .str c2] : List PyData)[i]? = some o) (ha : a ∈ rWrites) (hb : b = 0 ∨ b = 1 ∨ b = 2) (hc : c ∈ rFalls)
    (ha2 : a2 ∈ rWrites) (hb2 : b2 = 0 ∨ b2 = 1 ∨ b2 = 2) (hc2 : c2 ∈ rFalls) :
    ∃ a' b' c', sw nm "writes" o (.str a) = .str a' ∧ sw nm "before" o (.int b) = .int b' ∧ sw nm "falls" o (.str c) = .str c' ∧ a' ∈ rWrites ∧ (b' = 0 ∨ b' = 1 ∨ b' = 2) ∧ c' ∈ rFalls := by
  match i, hi, hn, ho with
  | 1, _, hn, ho =>
    cases hn; cases ho
    exact ⟨a2, b, c, if_pos rfl, if_neg n_rb, if_neg n_rf, ha2, hb, hc⟩
  | 2, _, hn, ho =>
    cases hn; cases ho
    exact ⟨a, b2, c, if_neg n_br, if_pos rfl, if_neg n_bf, ha, hb2, hc⟩
  | 3, _, hn, ho =>
    cases hn; cases ho
    exact ⟨a, b, c2, if_neg n_fr, if_neg n_fb, if_pos rfl, ha, hb, hc2⟩
  | i + 4, _, hn, _ => cases hn
theorem late_bad {dw da db dc dt : PyData} {i : Nat} {nm : Str} (hi : 0 < i) (hn : names4[i]? = some nm) (h0 : writersOk dw = true) (h1 : ruleOk "writes" da = true) (h2 : ruleOk "before" db = true) (hb : badAt i dt = true) :
    firstBad dw (sw nm "writes" dt da) (sw nm "before" dt db) (sw nm "falls" dt dc) = some nm := by
  obtain ⟨d0, d1, d2, d3, e, hf, _⟩ := odd_data (dc := dc) h0 h1 h2 hn hb
  rw [(late_data hi hn).1] at e
  injection e with e0 e
  injection e with e1 e
  injection e with e2 e
  injection e with e3 e
  rw [e0, e1, e2, e3]
  exact hf
/-! ### lambdas -/
section
variable {K : PySem.W.Frag} {CJ CB CN dl : Addr} {σ : L2.St} {H : Hp} {T : List (Addr × Str)} {x : Addr} {vw va vb vc nv tv : V} {i j k : Nat} {Q : VK}
theorem job_no {m : Str} (h1 : ¬ m = "falls" := by decide +kernel) (h2 : ¬ m = "before" := by decide +kernel) (h3 : ¬ m = "writes" := by decide +kernel) (h4 : ¬ m = "writers" := by decide +kernel) : (jf vw va vb vc).lookup m = none := jf_no h1 h2 h3 h4
theorem keep_of {H1 H' : Hp} (eN : ExtN H H1) (e : Ex H1 H') : ∀ b o, H b = some o → NoTbl o → H' b = some o := fun b o h n => e _ _ (eN _ _ h fun ps z => by rw [z] at n; exact n)
/-- wrong(lambda: job.but(name, thing)), a rule's name -/
theorem r_butR {nm n : Str} {dw da db dc dt : PyData} (hT : Tabs T H) (hi : σ[i]? = some (some (.ref x))) (hj : σ[j]? = some (some (.str nm))) (hk : σ[k]? = some (some tv)) (hx : JobO CJ (St dl H) x vw va vb vc) (hn : nm ∈ ruleNames)
    (ew : Dp K (St dl H) vw dw) (ea : Dp K (St dl H) va da) (eb : Dp K (St dl H) vb db) (ec : Dp K (St dl H) vc dc) (et : Dp K (St dl H) tv dt) (hf : firstBad dw (sw nm "writes" dt da) (sw nm "before" dt db) (sw nm "falls" dt dc) = some n)
    (q : ∀ H', Ex (St dl H) (St dl H') → Tabs T H' → (∀ b o, H b = some o → NoTbl o → H' b = some o) → Q (.str n) H') :
    tLam T (TTw CB CN) (fun E => tMeth CJ "but" (spBut K CJ CB) [] E (tVar i) (tCons (tVar j) (tCons (tVar k) tNil))) σ H Q := by
  refine ⟨hT, fun H1 eN T1 => ?_⟩
  have e1 : Ex (St dl H) H1 := (extN_st eN).trans st_le
  obtain ⟨dx, hdx⟩ := job_ex e1 hx
  refine ⟨_, hi, x, dx, _, rfl, hdx, job_no, _, hj, _, hk, ?_⟩
  refine ⟨x, vw, va, vb, vc, _, tv, .str nm, rfl, ⟨dx, hdx⟩, .str nm, .inr ⟨nm, dw, da, db, dc, dt, rfl, rfl, hn, dp_ex e1 ew, dp_ex e1 ea, dp_ex e1 eb, dp_ex e1 ec, dp_ex e1 et, fun h => ?_, fun m hm dd H' e hdd => ?_⟩⟩
  · rw [hf] at h
    cases h
  · rw [hf] at hm
    cases hm
    exact .inl ⟨rfl, dd, _, rfl, hdd, q H' ((extN_st eN).trans (ex_st e)) (T1.ext e) (keep_of eN e)⟩
/-- .. and no rule's name -/
theorem r_butN {dn : PyData} {z : Str} (hT : Tabs T H) (hi : σ[i]? = some (some (.ref x))) (hj : σ[j]? = some (some nv)) (hx : JobO CJ (St dl H) x vw va vb vc) (hd : Dp K (St dl H) nv dn) (hb : badName dn = true)
    (q : ∀ H', Ex (St dl H) (St dl H') → Tabs T H' → (∀ b o, H b = some o → NoTbl o → H' b = some o) → Q .non H') :
    tLam T (TTw CB CN) (fun E => tMeth CJ "but" (spBut K CJ CB) [] E (tVar i) (tCons (tVar j) (tCons (tC (.str z)) tNil))) σ H Q := by
  refine ⟨hT, fun H1 eN T1 => ?_⟩
  have e1 : Ex (St dl H) H1 := (extN_st eN).trans st_le
  obtain ⟨dx, hdx⟩ := job_ex e1 hx
  refine ⟨_, hi, x, dx, _, rfl, hdx, job_no, _, hj, ?_⟩
  refine ⟨x, vw, va, vb, vc, nv, .str z, dn, rfl, ⟨dx, hdx⟩, dp_ex e1 hd, .inl ⟨hb, fun dd H' e hdd => ?_⟩⟩
  exact .inl ⟨rfl, dd, _, rfl, hdd, q H' ((extN_st eN).trans (ex_st e)) (T1.ext e) (keep_of eN e)⟩
/-- wrong(lambda: job.with_writer(n, None)), n no number of a writer -/
theorem r_withN {wr : Addr} {ws : List V} {dn : PyData} (hT : Tabs T H) (hi : σ[i]? = some (some (.ref x))) (hj : σ[j]? = some (some nv)) (hx : JobO CJ (St dl H) x (.ref wr) va vb vc) (hs : SqT K (St dl H) wr ws) (hl : ws.length ≤ 10) (hd : Dp K (St dl H) nv dn) (hb : isNum 0 ((ws.length : Int) - 1) dn = false)
    (q : ∀ H', Ex (St dl H) (St dl H') → Tabs T H' → (∀ b o, H b = some o → NoTbl o → H' b = some o) → Q (.str "number") H') :
    tLam T (TTw CB CN) (fun E => tMeth CJ "with_writer" (spWith K CJ CB CN) [] E (tVar i) (tCons (tVar j) (tCons (tC .non) tNil))) σ H Q := by
  refine ⟨hT, fun H1 eN T1 => ?_⟩
  have e1 : Ex (St dl H) H1 := (extN_st eN).trans st_le
  obtain ⟨dx, hdx⟩ := job_ex e1 hx
  refine ⟨_, hi, x, dx, _, rfl, hdx, job_no, _, hj, ?_⟩
  refine ⟨x, wr, ws, va, vb, vc, nv, .non, dn, rfl, ⟨dx, hdx⟩, ex_t e1 hs, hl, dp_ex e1 hd, .inl ⟨hb, ?_⟩⟩
  exact .inr ⟨rfl, q H1 (extN_st eN) T1 (keep_of eN (Ex.refl _))⟩
/-- .. n one, None no writer -/
theorem r_withW {wr : Addr} {ws : List V} {m : Nat} {dws : List PyData} {da db dc : PyData} {n : Str} (hT : Tabs T H) (hi : σ[i]? = some (some (.ref x))) (hj : σ[j]? = some (some (.int m))) (hx : JobO CJ (St dl H) x (.ref wr) va vb vc) (hs : SqT K (St dl H) wr ws) (hl : ws.length ≤ 10) (hm : m < ws.length)
    (ew : DpAll K (St dl H) ws dws) (ea : Dp K (St dl H) va da) (eb : Dp K (St dl H) vb db) (ec : Dp K (St dl H) vc dc) (hf : firstBad (.tuple (dws.take m ++ .none :: dws.drop (m + 1))) da db dc = some n)
    (q : ∀ H', Ex (St dl H) (St dl H') → Tabs T H' → (∀ b o, H b = some o → NoTbl o → H' b = some o) → Q (.str n) H') :
    tLam T (TTw CB CN) (fun E => tMeth CJ "with_writer" (spWith K CJ CB CN) [] E (tVar i) (tCons (tVar j) (tCons (tC .non) tNil))) σ H Q := by
  refine ⟨hT, fun H1 eN T1 => ?_⟩
  have e1 : Ex (St dl H) H1 := (extN_st eN).trans st_le
  obtain ⟨dx, hdx⟩ := job_ex e1 hx
  refine ⟨_, hi, x, dx, _, rfl, hdx, job_no, _, hj, ?_⟩
  refine ⟨x, wr, ws, va, vb, vc, _, .non, .int m, rfl, ⟨dx, hdx⟩, ex_t e1 hs, hl, .int m, .inr ⟨m, dws, da, db, dc, .none, rfl, rfl, hm, dps_ex e1 ew, dp_ex e1 ea, dp_ex e1 eb, dp_ex e1 ec, .non, fun h => ?_, fun l hl dd H' e hdd => ?_⟩⟩
  · rw [hf] at h
    cases h
  · rw [hf] at hl
    cases hl
    exact .inl ⟨rfl, dd, _, rfl, hdd, q H' ((extN_st eN).trans (ex_st e)) (T1.ext e) (keep_of eN e)⟩
/-- wrong(lambda: job[n]), n no number of a writer -/
theorem r_ixN {wr : Addr} {ws : List V} {dn : PyData} (hT : Tabs T H) (hi : σ[i]? = some (some (.ref x))) (hj : σ[j]? = some (some nv)) (hx : JobO CJ (St dl H) x (.ref wr) va vb vc) (hs : SqT K (St dl H) wr ws) (hd : Dp K (St dl H) nv dn) (hb : isNum 0 ((ws.length : Int) - 1) dn = false)
    (q : ∀ H', Ex (St dl H) (St dl H') → Tabs T H' → (∀ b o, H b = some o → NoTbl o → H' b = some o) → Q (.str "number") H') :
    tLam T (TTw CB CN) (fun E => tOp (rIxI CJ (spGet K CJ CN) E) (tVar i) (tVar j)) σ H Q := by
  refine ⟨hT, fun H1 eN T1 => ?_⟩
  have e1 : Ex (St dl H) H1 := (extN_st eN).trans st_le
  obtain ⟨dx, hdx⟩ := job_ex e1 hx
  refine ⟨_, hi, _, hj, x, dx, _, rfl, hdx, ?_⟩
  refine ⟨x, wr, ws, va, vb, vc, nv, dn, rfl, ⟨dx, hdx⟩, ex_t e1 hs, dp_ex e1 hd, .inr ⟨hb, ?_⟩⟩
  exact .inr ⟨rfl, q H1 (extN_st eN) T1 (keep_of eN (Ex.refl _))⟩
end
end K1

/-! K1x: _law_rules_right. -/
namespace K1
open PySem L2 Evl LamX
theorem job_st {CJ dl x : Addr} {H : Hp} {w a b c : V} (h : JobO CJ H x w a b c) (hL : HasL dl H) : JobO CJ (St dl H) x w a b c := by
  obtain ⟨dx, h⟩ := h
  obtain ⟨xs, hx⟩ := hL
  refine ⟨dx, st_mk (fun z => ?_) h trivial⟩
  rw [z, hx] at h
  cases h
theorem passF {X : Cx} : Passes (L2.CX X.prog X.w) X (fun _ _ _ => False) := passes_call (E := fun _ _ _ => False) LamX.takes0 (fun _ _ _ _ h => h)
/-- the parts of a drawn job, as data -/
abbrev partsD (ws : List PyData) (a : Str) (b : Int) (c : Str) : List PyData := [.tuple ws, .str a, .int b, .str c]
theorem PartsAt.dp {K : PySem.W.Frag} {S : Hp} {t wt : Addr} {wvs : List V} {ws : List PyData} {a c : Str} {b : Int} (h : PartsAt K S t wt wvs ws a b c) : Dp K S (.ref t) (.tuple (partsD ws a b c)) :=
  .tup h.top (.cons (.tup h.wts h.dps) (.cons (.str a) (.cons (.int b) (.cons (.str c) .nil))))
/-- the odd things -/
def badsD (ws : List PyData) : List PyData := [.list [.tuple [], .int 5, .list [.tuple ws], .tuple [.int 5]], .list [.str "Whole", .str "", .none, .int 5, .bool true], .list [.int 3, .int (-1), .none, .bool true, .str "0"], .list [.str "all", .none, .bool false, .int 0]]
theorem bads_ok {ws : List PyData} {i : Nat} {L : PyData} (h : (badsD ws)[i]? = some L) : ∃ dts, L = .list dts ∧ dts ≠ [] ∧ ∀ dt ∈ dts, badAt i dt = true := by
  match i, h with
  | 0, h =>
    cases h
    refine ⟨_, rfl, by simp, fun dt hd => ?_⟩
    have q : dt = .tuple [] ∨ dt = .int 5 ∨ dt = .list [.tuple ws] ∨ dt = .tuple [.int 5] := by simpa using hd
    rcases q with rfl | rfl | rfl | rfl <;> rfl
  | 1, h =>
    cases h
    refine ⟨_, rfl, by simp, fun dt hd => ?_⟩
    have q : dt = .str "Whole" ∨ dt = .str "" ∨ dt = .none ∨ dt = .int 5 ∨ dt = .bool true := by simpa using hd
    rcases q with rfl | rfl | rfl | rfl | rfl <;> decide +kernel
  | 2, h =>
    cases h
    refine ⟨_, rfl, by simp, fun dt hd => ?_⟩
    have q : dt = .int 3 ∨ dt = .int (-1) ∨ dt = .none ∨ dt = .bool true ∨ dt = .str "0" := by simpa using hd
    rcases q with rfl | rfl | rfl | rfl | rfl <;> decide +kernel
  | 3, h =>
    cases h
    refine ⟨_, rfl, by simp, fun dt hd => ?_⟩
    have q : dt = .str "all" ∨ dt = .none ∨ dt = .bool false ∨ dt = .int 0 := by simpa using hd
    rcases q with rfl | rfl | rfl | rfl <;> decide +kernel
  | i + 4, h => cases h
def rrN : List Str := ["_law_draw", "_law_parts_here", "_law_other", "_law_names", "_law_job", "_law_bad", "_law_at", "_law_name", "_law_thing", "_law_odd", "_law_late"]
theorem scRR : FnScope rrN ["_law_draw", "_law_parts_here", "_law_other"] (defScope sRR) := ⟨rfl, rfl, rfl, by decide +kernel, rfl, by decide +kernel, by decide +kernel⟩
section
variable {P : Program} {w : World} {K : PySem.W.Frag} {mg : Str → Option Value} {base : Heap} {CJ CB CN : Addr}
def spRR (K : PySem.W.Frag) (T : List (Addr × Str)) : Sp := fun vs H Q _ => ∃ (dl sc : Addr) (ns : List Int) (t wt t2 wt2 : Addr) (wvs wvs2 : List V) (ws ws2 : List PyData) (a c a2 c2 : Str) (b b2 : Int), vs = [.ref dl, .ref t, .ref t2] ∧ Drw K dl sc ns H ∧ Tabs T H ∧
  PartsAt K (St dl H) t wt wvs ws a b c ∧ PartsAt K (St dl H) t2 wt2 wvs2 ws2 a2 b2 c2 ∧ ∀ H', Ex (St dl H) (St dl H') → Drw K dl sc ns H' → Tabs T H' → Q (.bl true) H'
theorem ok_RR {f cI cc cda fW fM fP fB fE c PT : Addr} {fdW fdM fdP fdB fdE : FuncData} {oc kV doc pm ct : Value} {od an : Option Addr} {osl : Array (Option Value)} {T : List (Addr × Str)} {q : Str}
    (lk : K.lookup f = some ⟨oc, od, .func (PySem.W.fnOf "_law_rules_right" "_law_rules_right" (defArgs sRR) (defBody sRR) (defScope sRR) .none kV doc pm an (.ref c) ct), osl⟩) (hcd : PySem.W.codeIn K (.ref c) "_law_rules_right" = true)
    (B : Blt mg) (JT : JobT K mg CJ) (TB : PySem.BadX.BadTxt P K mg CB cI cc cda) (TN : NumT K mg CN) (EM : ExcM K CB CN) (TA : TabB base mg c PT) (hmT : (PT, q) ∈ T) (hu : ∀ p ∈ T, p.1 = PT → p.2 = q) (hq : "_law_rules_right.<locals>.<lambda>" = q)
    (FW : Fun K "_law_wrong" "_law_wrong" sWrong fW fdW) (gW : mg "_law_wrong" = some (.ref fW)) (bW : Binds K fdW ["_law_ask"] [])
    (GM : FnOk P w K mg base (L2.CX P w) 7 fM fdM ["_law_parts_here"] (spMade K CJ CB)) (kM : PySem.W.keepIn K (.ref fM) = true) (gM : mg "_law_made" = some (.ref fM)) (bM : Binds K fdM ["_law_parts_here"] [])
    (GP : FnOk P w K mg base CX0 3 fP fdP ["_law_draw", "_law_things"] (spPick K)) (kP : PySem.W.keepIn K (.ref fP) = true) (gP : mg "_law_pick" = some (.ref fP)) (bP : Binds K fdP ["_law_draw", "_law_things"] [])
    (GB : FnOk P w K mg base (L2.CX P w) 7 fB fdB ["self", "name", "thing"] (spBut K CJ CB)) (mB : Meth K CJ "but" fB) (bB : Binds K fdB ["self", "name", "thing"] [])
    (GE : FnOk P w K mg base CX0 2 fE fdE ["self", "other"] (spEq K CJ)) (bE : Binds K fdE ["self", "other"] []) (EN : EqNoNe K CJ fE) :
    FnOk P w K mg base CX0 10 f (PySem.W.fnOf "_law_rules_right" "_law_rules_right" (defArgs sRR) (defBody sRR) (defScope sRR) .none kV doc pm an (.ref c) ct) ["_law_draw", "_law_parts_here", "_law_other"] (spRR K T) := by
  refine fn_of lk hcd scRR (fun vs H Q E h => ?_) (fun A outer s H vs Q E hr h => ?_)
  · obtain ⟨dl, sc, ns, t, wt, t2, wt2, wvs, wvs2, ws, ws2, a, c', a2, c2, b, b2, rfl, _⟩ := h
    rfl
  · obtain ⟨dl, sc, ns, t, wt, t2, wt2, wvs, wvs2, ws, ws2, a, c', a2, c2, b, b2, rfl, D0, T0, P0, O0, k⟩ := h
    suffices z : ∃ tt, PSs (cxOf CX0 P w K mg base rrN "_law_rules_right" (defScope sRR) f (.ref c) A outer s H E).nox (defBody sRR) tt ∧ tt { nx := fun _ H' => Q .non H', rt := Q } (L2.start rrN [.ref dl, .ref t, .ref t2]) H by
      obtain ⟨t, h1, h2⟩ := z
      exact ⟨t, h1.nox, h2⟩
    have hr7 := hr.mono (show 7 ≤ 9 by decide)
    refine ⟨_, pss_cons (ps_asg (pe_tup (pa_cons (pe_lst (pa_cons pe_str (pa_cons pe_str (pa_cons pe_str (pa_cons pe_str pa_nil))))) (pa_cons (pe_call GM hr7 rfl gM kM bM .nil passF (pa_cons (pv 1) pa_nil)) pa_nil)))
        (pg_tup rfl (pgs_cons (pg_name (i := 3) scRR.nd rfl (Or.inl rfl)) (pgs_cons (pg_name (i := 4) scRR.nd rfl (Or.inr rfl)) pgs_nil))))
      (pss_cons (ps_set (i := 5) scRR.nd rfl (Or.inl rfl) (pe_lst (pa_cons (pe_lst (pa_cons (pe_tup pa_nil) (pa_cons pe_int (pa_cons (pe_lst (pa_cons (pe_ix ix_tup (pv 1) pe_int (fun _ _ => rfl)) pa_nil)) (pa_cons (pe_tup (pa_cons pe_int pa_nil)) pa_nil)))))
          (pa_cons (pe_lst (pa_cons pe_str (pa_cons pe_str (pa_cons pe_non (pa_cons pe_int (pa_cons pe_bl pa_nil))))))
          (pa_cons (pe_lst (pa_cons pe_int (pa_cons (pe_un un_neg pe_int) (pa_cons pe_non (pa_cons pe_bl (pa_cons pe_str pa_nil))))))
          (pa_cons (pe_lst (pa_cons pe_str (pa_cons pe_non (pa_cons pe_bl (pa_cons pe_int pa_nil))))) pa_nil))))))
      (pss_cons (ps_for PassesOwn.never rfl (pi_enum (by rfl) B.enum (pa_cons (pv 3) pa_nil)) (pg_tup rfl (pgs_cons (pg_name (i := 6) scRR.nd rfl (Or.inl rfl)) (pgs_cons (pg_name (i := 7) scRR.nd rfl (Or.inr rfl)) pgs_nil)))
        (pss_cons (ps_set (i := 8) scRR.nd rfl (Or.inr rfl) (pe_call GP (hr.mono (by decide)) rfl gP kP bP .nil pass0 (pa_cons (pv 0) (pa_cons (pe_ix ix_list (pv 5) (pv 6) (fun _ _ => rfl)) pa_nil))))
        (pss_cons (ps_set (i := 9) scRR.nd rfl (Or.inr rfl) (pe_op op_catA (pe_op op_catA (pe_slice sl_tupA (pv 1) po_none (po_some (pv 6))) (pe_tup (pa_cons (pv 8) pa_nil))) (pe_slice sl_tupA (pv 1) (po_some (pe_op op_add (pv 6) pe_int)) po_none)))
        (pss_cons (ps_if (pt_cmpR op_ne (pe_wrong FW gW bW TB TN EM TA hr hmT hu (t := fun E => tCall (spMade K CJ CB) [] E (tCons (tVar 9) tNil)) (fun A outer s H E f c' hr' => pe_call GM hr' rfl gM kM bM .nil (passes_call (takes_of rfl rfl rfl rfl) fun _ _ _ _ h => h) (pa_cons (pv 9) pa_nil)) (show LamS (defScope sRR) _ from lamS_by (by decide +kernel)) rfl rfl hq) (pv 7) (nomark _))
            (pss_one (ps_ret pe_bl)) pss_nil)
        (pss_cons (ps_if (pt_cmpR op_ne (pe_wrong FW gW bW TB TN EM TA hr hmT hu (t := fun E => tCall (spMade K CJ CB) [] E (tCons (tOp (rCatA K) (tSl (rSlA K) (tVar 9) tNoPart (tPart (tC (.int 3)))) (tTup (tCons (tC (.int 7)) tNil))) tNil))
              (fun A outer s H E f c' hr' => pe_call GM hr' rfl gM kM bM .nil (passes_call (takes_of rfl rfl rfl rfl) fun _ _ _ _ h => h) (pa_cons (pe_op op_catA (pe_slice sl_tupA (pv 9) po_none (po_some pe_int)) (pe_tup (pa_cons pe_int pa_nil))) pa_nil)) (show LamS (defScope sRR) _ from lamS_by (by decide +kernel)) rfl rfl hq) (pv 7) (nomark _))
            (pss_one (ps_ret pe_bl)) pss_nil)
        (pss_one (ps_if (pt_cmpR op_gt (pv 6) pe_int (nomark _))
          (pss_cons (ps_set (i := 10) scRR.nd rfl (Or.inl rfl) (pe_op op_catA (pe_op op_catA (pe_slice sl_tupA (pv 1) po_none (po_some (pv 6))) (pe_tup (pa_cons (pe_ix ix_tup (pv 2) (pv 6) (fun _ _ => rfl)) pa_nil))) (pe_slice sl_tupA (pv 1) (po_some (pe_op op_add (pv 6) pe_int)) po_none)))
          (pss_one (ps_if (PW.pt (pw_or (pt_cmpR (op_neI EN GE bE (hr.mono (by decide)) pass0) (pe_meth (pv 4) JT.cl mB GB hr7 bB .nil passF (pa_cons (pv 7) (pa_cons (pe_ix ix_tup (pv 2) (pv 6) (fun _ _ => rfl)) pa_nil))) (pe_call GM hr7 rfl gM kM bM .nil passF (pa_cons (pv 10) pa_nil)) (nomark _))
              (pw_or1 (pt_cmpR op_ne (pe_wrong FW gW bW TB TN EM TA hr hmT hu (t := fun E => tMeth CJ "but" (spBut K CJ CB) [] E (tVar 4) (tCons (tVar 7) (tCons (tVar 8) tNil)))
                (fun A outer s H E f c' hr' => pe_meth (pv 4) JT.cl mB GB hr' bB .nil (passes_call (takes_of rfl rfl rfl rfl) fun _ _ _ _ h => h) (pa_cons (pv 7) (pa_cons (pv 8) pa_nil))) (show LamS (defScope sRR) _ from lamS_by (by decide +kernel)) rfl rfl hq) (pv 7) (nomark _)))))
            (pss_one (ps_ret pe_bl)) pss_nil)))
          pss_nil)))))))
      (pss_one (ps_ret pe_bl)))), ?_⟩
    have L0 := D0.has
    have gw0 := good_writers P0.len P0.good
    have gr0 := rw_ok P0.ha
    have gb0 := rb_ok P0.hb
    have gn0 : firstBad (.tuple ws) (.str a) (.int b) (.str c') = none := good_none P0.len P0.good P0.ha P0.hb P0.hc
    refine ⟨sz8 (show 4 ≤ 1000 by decide), fun ln hln => ?_⟩
    obtain ⟨D1, e1, s1⟩ := D0.lst (xs := names4.map V.str) hln
    have P1 := P0.ex (ex_st e1)
    have q1 : Ex (St dl (upd H ln (.lst (names4.map V.str)))) (upd H ln (.lst (names4.map V.str))) := st_le
    refine ⟨_, rfl, t, .ref wt, .str a, .int b, .str c', .tuple ws, .str a, .int b, .str c', rfl, ex_t q1 P1.top, .tup (ex_t q1 P1.wts) (dps_ex q1 P1.dps), .str _, .int _, .str _, fun _ H2 y e2 hy => ?_, fun n hf => by rw [gn0] at hf; cases hf⟩
    have D2 := D1.ex e2
    have T2 := (T0.ext e1).ext e2
    have J2 := job_st hy D2.has
    refine ⟨sz8 (show 2 ≤ 1000 by decide), fun tp htp => ?_⟩
    obtain ⟨D3, e3, s3⟩ := D2.tup (xs := [V.ref ln, V.ref y]) htp
    have T3 := T2.ext e3
    have S3 := (ex_st (dl := dl) e2).trans (ex_st e3)
    have P3 := P1.ex S3
    have O3 := O0.ex ((ex_st (dl := dl) e1).trans S3)
    have J3 := job_ex (ex_st (dl := dl) e3) J2
    refine ⟨tp, [V.ref ln, V.ref y], rfl, SqT.of upd_same, rfl, _, _, rfl, _, _, rfl, rfl, ?_⟩
    have L3 := D3.has
    refine st_setL (K := K) (ds := badsD ws) (dl := dl) (el_lst L3 (ea1 (ed_lst L3 (ea1 (ed_tup L3 ea0) (ea1 ed_int (ea1 (ed_lst L3 (ea1 (ed_ix (k := 0) (ed_var rfl P3.dp) rfl ev_c) ea0)) (ea1 (ed_tup L3 (ea1 ed_int ea0)) ea0)))))
      (ea1 (ed_lst L3 (ea1 ed_str (ea1 ed_str (ea1 ed_non (ea1 ed_int (ea1 ed_bl ea0))))))
      (ea1 (ed_lst L3 (ea1 ed_int (ea1 ed_neg (ea1 ed_non (ea1 ed_bl (ea1 ed_str ea0))))))
      (ea1 (ed_lst L3 (ea1 ed_str (ea1 ed_non (ea1 ed_bl (ea1 ed_int ea0))))) ea0))))) fun lb bvs H4 e4 pb ab => ?_
    have D4 := D3.ex e4
    have T4 := T3.ext e4
    have P4 := P3.ex (ex_st e4)
    have O4 := O3.ex (ex_st e4)
    have J4 := job_ex (ex_st (dl := dl) e4) J3
    have n4 : SqL K (St dl H4) ln (names4.map V.str) := ex_l (S3.trans (ex_st e4)) s1
    refine ⟨_, rfl, ln, names4.map V.str, rfl, ex_l st_le n4, for_enum (K := K) (a := ln) (xs := names4.map V.str) (fun i σ H' => (∃ o6 o7 o8 o9 o10, σ = [some (.ref dl), some (.ref t), some (.ref t2), some (.ref ln), some (.ref y), some (.ref lb), o6, o7, o8, o9, o10]) ∧ Ex (St dl H4) (St dl H') ∧ Drw K dl sc ns H' ∧ Tabs T H')
      ⟨⟨_, _, _, _, _, rfl⟩, Ex.refl _, D4, T4⟩ (fun i σ H' ⟨_, e, _⟩ => ex_l (e.trans st_le) n4) ?_ ?_⟩
    · rintro i z T' σ H' hz ⟨⟨o6, o7, o8, o9, o10, rfl⟩, e, D', T1⟩ hT'
      obtain ⟨nm, hnm, rfl⟩ : ∃ nm, names4[i]? = some nm ∧ z = V.str nm := by
        rw [List.getElem?_map] at hz
        cases q : names4[i]? with
        | none => rw [q] at hz; cases hz
        | some nm =>
          rw [q] at hz
          exact ⟨nm, rfl, (Option.some.inj hz).symm⟩
      have hi4 : i < 4 := (List.getElem?_eq_some_iff.mp hnm).1
      obtain ⟨D5, e5, s5⟩ := D'.tup (xs := [V.int i, V.str nm]) hT'
      refine ⟨T', [V.int i, V.str nm], rfl, SqT.of upd_same, rfl, _, _, rfl, _, _, rfl, rfl, ?_⟩
      have S5 := e.trans (ex_st (dl := dl) e5)
      have hbl : bvs.length = 4 := dps_len ab
      have hLv : bvs[i]? = some (bvs[i]'(by omega)) := List.getElem?_eq_getElem (by omega)
      obtain ⟨Ld, hLd, dL⟩ := dps_at ab hLv
      obtain ⟨dts, rfl, hne, hbad⟩ := bads_ok hLd
      obtain ⟨th, xs, eth, sth, ath⟩ : ∃ th xs, bvs[i]'(by omega) = V.ref th ∧ SqL K (St dl (upd H' T' (.tup [V.int i, V.str nm]))) th xs ∧ DpAll K (St dl (upd H' T' (.tup [V.int i, V.str nm]))) xs dts := by
        have dL5 := dp_ex S5 dL
        generalize bvs[i]'(by omega) = v at dL5
        cases dL5 with
        | lst s1 a1 => exact ⟨_, _, rfl, s1, a1⟩
      rw [eth] at hLv
      refine ⟨_, rfl, _, rfl, _, rfl, lb, bvs, i, .ref th, rfl, rfl, SqL.of (st_some (S5 _ _ pb)).2.1, atI_nat hLv, ?_⟩
      refine ⟨dl, sc, ns, th, xs, rfl, sth, dps_nil ath hne, D5, fun k1 x1 H6 hk1 b6 D6 => ?_⟩
      obtain ⟨dt, hdt, dx5⟩ := dps_at ath hk1
      have hbad1 := hbad dt (List.mem_of_getElem? hdt)
      have T6 := tabs_but (T1.ext e5) D5.has b6
      have S6 := S5.trans (But.st b6)
      have dx6 := dp_ex (But.st b6) dx5
      have P6 := P4.ex S6
      have L6 := D6.has
      obtain ⟨d0, d1, d2, d3, ed, hf, hf7⟩ := odd_data (dc := .str c') gw0 gr0 gb0 hnm hbad1
      refine st_set (K := K) (dl := dl) (d := .tuple ([PyData.tuple ws, .str a, .int b, .str c'].take i ++ [dt] ++ [PyData.tuple ws, .str a, .int b, .str c'].drop (i + 1)))
        (ed_catX L6 (ed_catX L6 (ed_take L6 (ed_var rfl P6.dp) (ev_var rfl) (show i ≤ 4 by omega)) (ed_tup L6 (ea1 (ed_var rfl dx6) ea0)) (by rw [List.length_take]; show min i 4 + 1 ≤ 1000; omega))
          (ed_drop (k := i + 1) L6 (ed_var rfl P6.dp) (ev_op (ev_var rfl) ev_c rv_I0) (show i + 1 ≤ 4 by omega)) (by rw [List.length_append, List.length_take, List.length_drop]; show min i 4 + 1 + (4 - (i + 1)) ≤ 1000; omega)) fun v9 H7 e7 dv9 => ?_
      rw [ed] at dv9
      have D7 := D6.ex e7
      have T7 := T6.ext e7
      have S7 := S6.trans (ex_st (dl := dl) e7)
      have dx7 := dp_ex (ex_st (dl := dl) e7) dx6
      refine r_made (dl := dl) T7 D7.has (fun H1 e hl => ed_var rfl (dp_ex e dv9)) fun H8 e8 T8 k8 => ?_
      refine ⟨_, rfl, rfl, _, rfl, ?_⟩
      rw [hf, decide_eq_true (show V.str (toldF (some nm)) = V.str nm from rfl)]
      refine iteF ?_
      have D8 := D7.ext e8 k8
      refine r_made (dl := dl) (d0 := d0) (d1 := d1) (d2 := d2) (d3 := .int 7) T8 D8.has (fun H1 e hl => ed_catX (ds := [d0, d1, d2, d3].take 3) (es := [.int 7]) hl (ed_take (k := 3) hl (ed_var rfl (dp_ex (e8.trans e) dv9)) ev_c (show 3 ≤ 4 by decide)) (ed_tup hl (ea1 ed_int ea0)) (show 3 + 1 ≤ 1000 by decide)) fun H9 e9 T9 k9 => ?_
      refine ⟨_, rfl, rfl, _, rfl, ?_⟩
      rw [hf7, decide_eq_true (show V.str (toldF (some nm)) = V.str nm from rfl)]
      refine iteF ?_
      have D9 := D8.ext e9 k9
      have S9 := S7.trans (e8.trans e9)
      have dx9 := dp_ex (e8.trans e9) dx7
      refine ⟨_, rfl, _, _, rfl, rfl, _, rfl, ite2 (fun c0 => ?_) (fun _ => ⟨⟨_, _, _, _, _, rfl⟩, S9, D9, T9⟩)⟩
      have hi0 : 0 < i := by
        have z := of_decide_eq_true c0
        omega
      obtain ⟨o, ho⟩ : ∃ o, ([PyData.tuple ws2, .str a2, .int b2, .str c2] : List PyData)[i]? = some o := ⟨_, List.getElem?_eq_getElem (show i < 4 from hi4)⟩
      have O9 := O4.ex S9
      have P9 := P4.ex S9
      have J9 := job_ex S9 J4
      have L9 := D9.has
      obtain ⟨hld, hmem⟩ := late_data (dw := .tuple ws) (da := .str a) (db := .int b) (dc := .str c') (o := o) hi0 hnm
      obtain ⟨a', b', c'', ea, eb, ec, ha', hb', hc'⟩ := late_good (w2 := .tuple ws2) hi0 hnm ho P0.ha P0.hb P0.hc O0.ha O0.hb O0.hc
      rw [ea, eb, ec] at hld
      have hsh := good_shaped (b := b') P0.len P0.good ha' hc'
      have hgn := good_none P0.len P0.good ha' hb' hc'
      refine st_set (K := K) (dl := dl) (d := .tuple ([PyData.tuple ws, .str a, .int b, .str c'].take i ++ [o] ++ [PyData.tuple ws, .str a, .int b, .str c'].drop (i + 1)))
        (ed_catX L9 (ed_catX L9 (ed_take L9 (ed_var rfl P9.dp) (ev_var rfl) (show i ≤ 4 by omega)) (ed_tup L9 (ea1 (ed_ix (k := i) (ed_var rfl O9.dp) ho (ev_var rfl)) ea0)) (by rw [List.length_take]; show min i 4 + 1 ≤ 1000; omega))
          (ed_drop (k := i + 1) L9 (ed_var rfl P9.dp) (ev_op (ev_var rfl) ev_c rv_I0) (show i + 1 ≤ 4 by omega)) (by rw [List.length_append, List.length_take, List.length_drop]; show min i 4 + 1 + (4 - (i + 1)) ≤ 1000; omega)) fun v10 H10 e10 dv10 => ?_
      rw [hld] at dv10
      have D10 := D9.ex e10
      have T10 := T9.ext e10
      have S10 := S9.trans (ex_st (dl := dl) e10)
      have J10 := job_ex S10 J4
      have P10 := P4.ex S10
      have O10 := O4.ex S10
      have dx10 := dp_ex (ex_st (dl := dl) e10) dx9
      have q10 : Ex (St dl H10) H10 := st_le
      obtain ⟨dxy, hdxy⟩ := job_ex q10 J10
      obtain ⟨ov, hov, dov⟩ : ∃ ov, [V.ref wt2, .str a2, .int b2, .str c2][i]? = some ov ∧ Dp K (St dl H10) ov o := by
        have all : DpAll K (St dl H10) [V.ref wt2, .str a2, .int b2, .str c2] [PyData.tuple ws2, .str a2, .int b2, .str c2] := .cons (.tup O10.wts O10.dps) (.cons (.str _) (.cons (.int _) (.cons (.str _) .nil)))
        have h1 : [V.ref wt2, .str a2, .int b2, .str c2][i]? = some _ := List.getElem?_eq_getElem (show i < 4 from hi4)
        obtain ⟨o', ho', dp'⟩ := dps_at all h1
        rw [ho] at ho'
        cases ho'
        exact ⟨_, h1, dp'⟩
      refine ⟨_, rfl, y, dxy, _, rfl, hdxy, job_no, _, rfl, _, rfl, _, rfl, t2, _, i, ov, rfl, rfl, ex_t q10 O10.top, atI_nat hov, ?_⟩
      refine ⟨y, .ref wt, .str a, .int b, .str c', .str nm, ov, .str nm, rfl, ⟨dxy, hdxy⟩, .str nm, .inr ⟨nm, .tuple ws, .str a, .int b, .str c', o, rfl, rfl, hmem, .tup (ex_t q10 P10.wts) (dps_ex q10 P10.dps), .str _, .int _, .str _, dp_ex q10 dov, fun _ H11 y2 e11 hy2 => ?_, fun n hfx => by rw [ea, eb, ec, hgn] at hfx; cases hfx⟩⟩
      obtain ⟨t10, us, rfl, s10, a10⟩ : ∃ t10 us, v10 = V.ref t10 ∧ SqT K (St dl H10) t10 us ∧ DpAll K (St dl H10) us [PyData.tuple ws, .str a', .int b', .str c''] := by
        cases dv10 with
        | tup s1 a1 => exact ⟨_, _, rfl, s1, a1⟩
      obtain ⟨u0, u1, u2, u3, _, _, _, _, rfl, eds, g0, g1, g2, g3⟩ := dps4 (dps_len a10) a10
      cases eds
      have q11 := q10.trans e11
      refine ⟨_, rfl, t10, u0, u1, u2, u3, .tuple ws, .str a', .int b', .str c'', rfl, ex_t q11 s10, dp_ex q11 g0, dp_ex q11 g1, dp_ex q11 g2, dp_ex q11 g3, fun _ H12 y3 e12 hy3 => ?_, fun n hfx => by rw [hgn] at hfx; cases hfx⟩
      have q12 := q11.trans e12
      obtain ⟨dx2, hdx2⟩ := job_ex e12 hy2
      obtain ⟨dx3, hdx3⟩ := id hy3
      have w1 := dp_sw (nm := nm) (k := "writes") (dp_ex q12 dov) (Dp.str (K := K) (H := H12) a)
      have w2' := dp_sw (nm := nm) (k := "before") (dp_ex q12 dov) (Dp.int (K := K) (H := H12) b)
      have w3 := dp_sw (nm := nm) (k := "falls") (dp_ex q12 dov) (Dp.str (K := K) (H := H12) c')
      rw [ea] at w1
      rw [eb] at w2'
      rw [ec] at w3
      refine ⟨y2, dx2, y3, dx3, _, _, rfl, rfl, hdx2, hdx3, ?_⟩
      refine ⟨y2, .ref wt, _, _, _, .ref y3, rfl, ⟨dx2, hdx2⟩, .inr ⟨y3, u0, u1, u2, u3, .tuple ws, .str a', .int b', .str c'', .tuple ws, .str a', .int b', .str c'', rfl, ⟨dx3, hdx3⟩,
        .cons (.tup (ex_t q12 P10.wts) (dps_ex q12 P10.dps)) (.cons w1 (.cons w2' (.cons w3 .nil))), dps_ex q12 a10, hsh, hsh, fun H13 e13 => ⟨_, rfl, _, rfl, ?_⟩⟩⟩
      rw [eqv_same hsh]
      refine iteF ?_
      have e1013 := e11.trans (e12.trans e13)
      have T13 := T10.ext e1013
      have S13 := S10.trans (ex_st (dl := dl) e1013)
      have P13 := P4.ex S13
      refine r_butR (dl := dl) T13 rfl rfl rfl (job_ex S13 J4) hmem (.tup P13.wts P13.dps) (.str _) (.int _) (.str _) (dp_ex (ex_st (dl := dl) e1013) dx10) (late_bad hi0 hnm gw0 gr0 gb0 hbad1) fun H14 e14 T14 k14 => ?_
      refine ⟨_, rfl, rfl, _, rfl, ?_⟩
      rw [decide_eq_true (show V.str nm = V.str nm from rfl)]
      exact iteF ⟨⟨_, _, _, _, _, rfl⟩, S13.trans e14, (D10.ex e1013).ext e14 k14, T14⟩
    · rintro σ H' ⟨⟨o6, o7, o8, o9, o10, rfl⟩, e, D', T1⟩
      exact k H' (((ex_st (dl := dl) e1).trans (S3.trans (ex_st e4))).trans e) D' T1
end
end K1

/-! K1y: law. -/
namespace K1
open PySem L2 Evl LamX
theorem ixN_nat {n k : Nat} (h : k < n) : ixN n (k : Int) = some k := by
  unfold ixN
  rw [if_pos (by omega), if_pos (by omega)]
  rfl
theorem sql_st {K : PySem.W.Frag} {dl a : Addr} {H : Hp} {xs : List V} {o : HO} (h : SqL K H a xs) (n : H dl = none) : SqL K (St dl (upd H dl o)) a xs := by
  rcases h with h | h
  · left
    rcases h with h | ⟨u, h⟩
    · have ne : a ≠ dl := fun z => by rw [z, n] at h; cases h
      exact .inl (st_mk ne ((upd_ne ne).trans h) trivial)
    · have ne : a ≠ dl := fun z => by rw [z, n] at h; cases h
      exact .inr ⟨u, st_mk ne ((upd_ne ne).trans h) trivial⟩
  · exact .inr h
theorem shaped_ws {ws : List PyData} (hl : ws.length = 1 ∨ ws.length = 2) (hg : ∀ d ∈ ws, GoodW d) : SeqAt.shaped (.list ws) = true := by
  obtain ⟨h1, h2⟩ := ws_lay hl hg
  have hd : (PyData.list ws).depth ≤ 64 := by
    simp only [PyData.depth]
    omega
  unfold SeqAt.shaped
  rw [show (PyData.list ws).canLay0 = true by simp [PyData.canLay0, h1], decide_eq_true hd]
  rfl
theorem take_set {α : Type} (x : α) : ∀ (l : List α) (k : Nat), k < l.length → l.set k x = l.take k ++ x :: l.drop (k + 1)
  | [], k, h => by simp at h
  | a :: l, 0, _ => rfl
  | a :: l, k + 1, h => by
    show a :: l.set k x = a :: (l.take k ++ x :: l.drop (k + 1))
    rw [take_set x l k (by simpa using h)]
theorem dps_set {K : PySem.W.Frag} {H : Hp} {v : V} {d : PyData} (hv : Dp K H v d) : ∀ (k : Nat) {vs : List V} {ds : List PyData}, DpAll K H vs ds → DpAll K H (vs.set k v) (ds.set k d)
  | _, [], [], .nil => .nil
  | 0, _ :: _, _ :: _, .cons _ r => .cons hv r
  | k + 1, _ :: _, _ :: _, .cons h r => .cons h (dps_set hv k r)
theorem set_good {ws : List PyData} {k : Nat} {d : PyData} (hg : ∀ e ∈ ws, GoodW e) (hd : GoodW d) : ∀ e ∈ ws.set k d, GoodW e := fun e he => by
  rcases List.mem_or_eq_of_mem_set he with h | rfl
  · exact hg e h
  · exact hd
theorem none_writers {ws : List PyData} {k : Nat} (hk : k < ws.length) : writersOk (.tuple (ws.take k ++ .none :: ws.drop (k + 1))) = false := by
  have h : (ws.take k ++ PyData.none :: ws.drop (k + 1)).all writerOk = false := by
    rw [List.all_append, List.all_cons]
    show (_ && (false && _)) = false
    rw [Bool.false_and, Bool.and_false]
  show ((decide _ && decide _) && ((ws.take k ++ PyData.none :: ws.drop (k + 1)).all writerOk && _)) = false
  rw [h, Bool.false_and, Bool.and_false]
theorem tcall_one {sp : Sp} {E : XK} {te : TE} {σ : L2.St} {H : Hp} {Q : VK} (h : te σ H fun v H1 => sp [v] H1 Q E) : tCall sp [] E (tCons te tNil) σ H Q := h
theorem nx_ {D : Ends} {σ : L2.St} {H : Hp} (h : D.nx σ H) : tNext D σ H := h
theorem tcall_two {sp : Sp} {E : XK} {ta tb : TE} {σ : L2.St} {H : Hp} {Q : VK} (h : ta σ H fun v H1 => tb σ H1 fun u H2 => sp [v, u] H2 Q E) : tCall sp [] E (tCons ta (tCons tb tNil)) σ H Q := h
theorem ed_len {K : PySem.W.Frag} {dl : Addr} {te : TE} {σ : L2.St} {H : Hp} {ds : List PyData} (h : Evd K dl te σ H (.tuple ds)) : Evd K dl (tCB (rLenS K) (tCons te tNil)) σ H (.int (ds.length : Nat)) := fun H1 e Q q =>
  h H1 e _ fun v H2 e2 hv => by
    cases hv with
    | @tup a xs _ s1 a1 =>
      refine ⟨a, xs, rfl, .inr (ex_t st_le s1), ?_⟩
      have z := q (.int (xs.length : Nat)) H2 e2 (by rw [dps_len a1]; exact .int _)
      exact z
def lN : List Str := ["_law_script", "_law_draw", "_law_turn", "_law_parts_here", "_law_other", "_law_job", "_law_number_here", "_law_late", "_law_writers", "_law_odd", "_law_name", "_law_writer_here", "_law_at"]
theorem scLaw : FnScope lN ["_law_script"] (defScope sLaw) := ⟨rfl, rfl, rfl, by decide +kernel, rfl, by decide +kernel, by decide +kernel⟩
section
variable {P : Program} {w : World} {K : PySem.W.Frag} {mg : Str → Option Value} {base : Heap} {CJ CB CN : Addr}
def spLaw (K : PySem.W.Frag) (T : List (Addr × Str)) : Sp := fun vs H Q _ => ∃ (sc : Addr) (ns : List Int), vs = [.ref sc] ∧ SqL K H sc (ns.map V.int) ∧ Tabs T H ∧ ∀ H', Q (.bl true) H'
theorem ok_law {f fI cI cc cda fW fM fP fT fR fX fB fE fL fG fH fV c PT : Addr} {fdI fdW fdM fdP fdT fdR fdX fdB fdE fdL fdG fdH fdV : FuncData} {oc kV doc pm ct : Value} {od an : Option Addr} {osl : Array (Option Value)} {T : List (Addr × Str)} {q : Str}
    (lk : K.lookup f = some ⟨oc, od, .func (PySem.W.fnOf "law" "law" (defArgs sLaw) (defBody sLaw) (defScope sLaw) .none kV doc pm an (.ref c) ct), osl⟩) (hcd : PySem.W.codeIn K (.ref c) "law" = true)
    (B : Blt mg) (JT : JobT K mg CJ) (JI : JobI K CJ) (TB : PySem.BadX.BadTxt P K mg CB cI cc cda) (TN : NumT K mg CN) (EM : ExcM K CB CN) (TA : TabB base mg c PT) (hmT : (PT, q) ∈ T) (hu : ∀ p ∈ T, p.1 = PT → p.2 = q) (hq : "law.<locals>.<lambda>" = q)
    (FW : Fun K "_law_wrong" "_law_wrong" sWrong fW fdW) (gW : mg "_law_wrong" = some (.ref fW)) (bW : Binds K fdW ["_law_ask"] [])
    (GM : FnOk P w K mg base (L2.CX P w) 7 fM fdM ["_law_parts_here"] (spMade K CJ CB)) (kM : PySem.W.keepIn K (.ref fM) = true) (gM : mg "_law_made" = some (.ref fM)) (bM : Binds K fdM ["_law_parts_here"] [])
    (GP : FnOk P w K mg base CX0 3 fP fdP ["_law_draw", "_law_things"] (spPick K)) (kP : PySem.W.keepIn K (.ref fP) = true) (gP : mg "_law_pick" = some (.ref fP)) (bP : Binds K fdP ["_law_draw", "_law_things"] [])
    (GT : FnOk P w K mg base CX0 2 fT fdT ["_law_draw", "_law_many"] (spTake K)) (kT : PySem.W.keepIn K (.ref fT) = true) (gT : mg "_law_take" = some (.ref fT)) (bT : Binds K fdT ["_law_draw", "_law_many"] [])
    (GV : FnOk P w K mg base CX0 5 fV fdV ["_law_draw", "_law_most"] (spParts K)) (kV' : PySem.W.keepIn K (.ref fV) = true) (gV : mg "_law_parts" = some (.ref fV)) (bV : Binds K fdV ["_law_draw", "_law_most"] [])
    (GR : FnOk P w K mg base CX0 10 fR fdR ["_law_draw", "_law_parts_here", "_law_other"] (spRR K T)) (kR : PySem.W.keepIn K (.ref fR) = true) (gR : mg "_law_rules_right" = some (.ref fR)) (bR : Binds K fdR ["_law_draw", "_law_parts_here", "_law_other"] [])
    (GX : FnOk P w K mg base CX0 9 fX fdX ["_law_draw"] (spWR T)) (kX : PySem.W.keepIn K (.ref fX) = true) (gX : mg "_law_writers_right" = some (.ref fX)) (bX : Binds K fdX ["_law_draw"] [])
    (GB : FnOk P w K mg base (L2.CX P w) 7 fB fdB ["self", "name", "thing"] (spBut K CJ CB)) (mB : Meth K CJ "but" fB) (bB : Binds K fdB ["self", "name", "thing"] [])
    (GH : FnOk P w K mg base (L2.CX P w) 7 fH fdH ["self", "number", "writer"] (spWith K CJ CB CN)) (mH : Meth K CJ "with_writer" fH) (bH : Binds K fdH ["self", "number", "writer"] [])
    (GL : FnOk P w K mg base CX0 1 fL fdL ["self"] (spLen K CJ)) (mL : Meth K CJ "__len__" fL) (bL : Binds K fdL ["self"] [])
    (GG : FnOk P w K mg base (L2.CX P w) 2 fG fdG ["self", "number"] (spGet K CJ CN)) (mG : Meth K CJ "__getitem__" fG) (nG : PySem.W.fnIn K fG = true) (bG : Binds K fdG ["self", "number"] [])
    (GE : FnOk P w K mg base CX0 2 fE fdE ["self", "other"] (spEq K CJ)) (mE : Meth K CJ "__eq__" fE) (bE : Binds K fdE ["self", "other"] []) (EN : EqNoNe K CJ fE)
    (GI : FnOk P w K mg base (L2.CX P w) 5 fI fdI jP (spJob K CJ CB)) (M : Mk K CJ fI) {dsI : List Value} (bI : Binds K fdI jP dsI) (vI : Vals [.str "whole", .int 0, .str "none"] dsI)
    (FI : FunD K "__init__" "Job.__init__" (defArgs sInit) (defBody sInit) (defScope sInit) [] jKw fI fdI) :
    FnOk P w K mg base CX0 11 f (PySem.W.fnOf "law" "law" (defArgs sLaw) (defBody sLaw) (defScope sLaw) .none kV doc pm an (.ref c) ct) ["_law_script"] (spLaw K T) := by
  obtain ⟨mv, kbn⟩ := kb_job FI
  refine fn_of lk hcd scLaw (fun vs H Q E h => ?_) (fun A outer s H vs Q E hr h => ?_)
  · obtain ⟨sc, ns, rfl, _⟩ := h
    rfl
  · obtain ⟨sc, ns, rfl, hS, T0, k⟩ := h
    suffices z : ∃ tt, PSs (cxOf CX0 P w K mg base lN "law" (defScope sLaw) f (.ref c) A outer s H E).nox (defBody sLaw) tt ∧ tt { nx := fun _ H' => Q .non H', rt := Q } (L2.start lN [.ref sc]) H by
      obtain ⟨tt, h1, h2⟩ := z
      exact ⟨tt, h1.nox, h2⟩
    have hr9 := hr.mono (show 9 ≤ 10 by decide)
    have hr7 := hr.mono (show 7 ≤ 10 by decide)
    have hr6 := hr.mono (show 6 ≤ 10 by decide)
    have hr5 := hr.mono (show 5 ≤ 10 by decide)
    have hr3 := hr.mono (show 3 ≤ 10 by decide)
    have hr2 := hr.mono (show 2 ≤ 10 by decide)
    refine ⟨_, pss_cons (ps_set (i := 1) scLaw.nd rfl (Or.inl rfl) (pe_lst (pa_cons (pv 0) (pa_cons pe_int pa_nil))))
      (pss_cons (ps_for PassesOwn.never rfl (pi_range1 (by rfl) B.range (pa_cons pe_int pa_nil)) (pg_name (i := 2) scLaw.nd rfl (Or.inl rfl))
        (pss_cons (ps_par (i := 3) (j := 4) rfl scLaw.nd rfl rfl (by decide) rfl rfl (pa_cons (pe_call GV hr5 rfl gV kV' bV .nil pass0 (pa_cons (pv 1) (pa_cons pe_int pa_nil))) (pa_cons (pe_call GV hr5 rfl gV kV' bV .nil pass0 (pa_cons (pv 1) (pa_cons pe_int pa_nil))) pa_nil)) rfl)
        (pss_cons (ps_asg (pe_tup (pa_cons (pe_call GM hr7 rfl gM kM bM .nil passF (pa_cons (pv 3) pa_nil)) (pa_cons (pe_call GT hr2 rfl gT kT bT .nil pass0 (pa_cons (pv 1) (pa_cons (pe_callB call_len_seq (by rfl) B.len bo_len (pa_cons (pe_ix ix_tup (pv 3) pe_int (fun _ _ => rfl)) pa_nil)) pa_nil))) pa_nil)))
            (pg_tup rfl (pgs_cons (pg_name (i := 5) scLaw.nd rfl (Or.inr rfl)) (pgs_cons (pg_name (i := 6) scLaw.nd rfl (Or.inr rfl)) pgs_nil))))
        (pss_cons (ps_if (PW.pt (pw_or (pt_cmpR (op_neD hr.units) (pe_tup (pa_cons (pe_fld (pv 5) rfl) (pa_cons (pe_fld (pv 5) rfl) (pa_cons (pe_fld (pv 5) rfl) (pa_cons (pe_fld (pv 5) rfl) pa_nil))))) (pv 3) (nomark _))
            (pw_or1 (pt_cmpR op_ne (pe_callB (call_lenI mL.at_ mL.fn GL bL hr2 pass0) (by rfl) B.len bo_len (pa_cons (pv 5) pa_nil)) (pe_callB call_len_seq (by rfl) B.len bo_len (pa_cons (pe_ix ix_tup (pv 3) pe_int (fun _ _ => rfl)) pa_nil)) (nomark _)))))
          (pss_one (ps_ret pe_bl)) pss_nil)
        (pss_cons (ps_if (PW.pt (pw_or (pt_cmpR (op_neD hr.units) (pe_lc (own := [("_law_at", 12)]) (g := gName 12) (tt := tYes) (te := tOp (rIxI CJ (spGet K CJ CN) fun _ _ _ => False) (tVar 5) (tVar 12)) rfl scLaw.nd (pi_range1 (by rfl) B.range (pa_cons (pe_callB call_len_seq (by rfl) B.len bo_len (pa_cons (pe_ix ix_tup (pv 3) pe_int (fun _ _ => rfl)) pa_nil)) pa_nil))
                (blkOk_by (own := [("_law_at", 12)]) (N := lN) (sc := defScope sLaw) (by decide +kernel)) (fun _ _ _ _ _ => pg_name (i := 12) scLaw.nd rfl (Or.inl rfl)) (fun _ _ _ _ _ => pts_nil)
                (fun _ _ _ _ _ => pe_ixI mG.at_ nG mG.fn GG bG hr3 passF (pv 5) (pv 12)))
              (pe_callTy call_list_of (by rfl) B.list bo_list (pa_cons (pe_ix ix_tup (pv 3) pe_int (fun _ _ => rfl)) pa_nil)) (nomark _))
            (pw_or1 (pt_cmpR (op_neI EN GE bE hr3 pass0) (pv 5) (pe_call GM hr7 rfl gM kM bM .nil passF (pa_cons (pv 3) pa_nil)) (nomark _)))))
          (pss_one (ps_ret pe_bl)) pss_nil)
        (pss_cons (ps_if (PW.pt (pw_or (pt_cmpR op_ne (pe_cmpR (op_ownI (op := .Eq) (fun _ _ => rfl) mE.at_ mE.fn GE bE hr2 pass0) (pv 5) (pe_call GM hr7 rfl gM kM bM .nil passF (pa_cons (pv 4) pa_nil)) (nomark _)) (pe_cmpR (op_eqD hr.units) (pv 3) (pv 4) (nomark _)) (nomark _))
            (pw_or (pt_cmpR (op_ownI (op := .Eq) (fun _ _ => rfl) mE.at_ mE.fn GE bE hr2 pass0) (pv 5) pe_int (nomark _))
            (pw_or1 (pt_not (pt_val (pe_call GR hr rfl gR kR bR .nil pass0 (pa_cons (pv 1) (pa_cons (pv 3) (pa_cons (pv 4) pa_nil))))))))))
          (pss_one (ps_ret pe_bl)) pss_nil)
        (pss_cons (ps_set (i := 7) scLaw.nd rfl (Or.inl rfl) (pe_callTy call_list_of (by rfl) B.list bo_list (pa_cons (pe_ix ix_tup (pv 3) pe_int (fun _ _ => rfl)) pa_nil)))
        (pss_cons (ps_asg (pe_ix ix_tup (pe_ix ix_tup (pv 4) pe_int (fun _ _ => rfl)) pe_int (fun _ _ => rfl)) (pg_sub (pv 7) (pv 6) set_list))
        (pss_cons (ps_set (i := 8) scLaw.nd rfl (Or.inl rfl) (pe_callTy call_tuple_of (by rfl) B.tuple bo_tuple (pa_cons (pv 7) pa_nil)))
        (pss_cons (ps_if (pt_cmpR (op_neI EN GE bE hr3 pass0) (pe_meth (pv 5) JT.cl mH GH hr7 bH .nil passF (pa_cons (pv 6) (pa_cons (pe_ix ix_tup (pe_ix ix_tup (pv 4) pe_int (fun _ _ => rfl)) pe_int (fun _ _ => rfl)) pa_nil)))
            (pe_call GM hr7 rfl gM kM bM .nil passF (pa_cons (pe_op op_catA (pe_tup (pa_cons (pv 8) pa_nil)) (pe_slice sl_tupA (pv 3) (po_some pe_int) po_none)) pa_nil)) (nomark _))
          (pss_one (ps_ret pe_bl)) pss_nil)
        (pss_cons (ps_set (i := 9) scLaw.nd rfl (Or.inr rfl) (pe_call GP hr3 rfl gP kP bP .nil pass0 (pa_cons (pv 1) (pa_cons (pe_lst (pa_cons (pe_callB call_len_seq (by rfl) B.len bo_len (pa_cons (pe_ix ix_tup (pv 3) pe_int (fun _ _ => rfl)) pa_nil))
            (pa_cons (pe_un un_neg pe_int) (pa_cons pe_bl (pa_cons pe_non (pa_cons pe_str pa_nil)))))) pa_nil))))
        (pss_cons (ps_if (pt_cmpR op_ne (pe_wrong FW gW bW TB TN EM TA hr9 hmT hu (t := fun E => tMeth CJ "with_writer" (spWith K CJ CB CN) [] E (tVar 5) (tCons (tVar 9) (tCons (tC .non) tNil)))
              (fun A outer s H E f c' hr' => pe_meth (pv 5) JT.cl mH GH hr' bH .nil (passes_call (takes_of rfl rfl rfl rfl) fun _ _ _ _ h => h) (pa_cons (pv 9) (pa_cons pe_non pa_nil))) (show LamS (defScope sLaw) _ from lamS_by (by decide +kernel)) rfl rfl hq) pe_str (nomark _))
          (pss_one (ps_ret pe_bl)) pss_nil)
        (pss_cons (ps_if (pt_cmpR op_ne (pe_wrong FW gW bW TB TN EM TA hr9 hmT hu (t := fun E => tOp (rIxI CJ (spGet K CJ CN) E) (tVar 5) (tVar 9))
              (fun A outer s H E f c' hr' => pe_ixI mG.at_ nG mG.fn GG bG (hr'.mono (by decide)) (passes_call (takes_of rfl rfl rfl rfl) fun _ _ _ _ h => h) (pv 5) (pv 9)) (show LamS (defScope sLaw) _ from lamS_by (by decide +kernel)) rfl rfl hq) pe_str (nomark _))
          (pss_one (ps_ret pe_bl)) pss_nil)
        (pss_cons (ps_if (pt_cmpR op_ne (pe_wrong FW gW bW TB TN EM TA hr9 hmT hu (t := fun E => tMeth CJ "with_writer" (spWith K CJ CB CN) [] E (tVar 5) (tCons (tVar 6) (tCons (tC .non) tNil)))
              (fun A outer s H E f c' hr' => pe_meth (pv 5) JT.cl mH GH hr' bH .nil (passes_call (takes_of rfl rfl rfl rfl) fun _ _ _ _ h => h) (pa_cons (pv 6) (pa_cons pe_non pa_nil))) (show LamS (defScope sLaw) _ from lamS_by (by decide +kernel)) rfl rfl hq) pe_str (nomark _))
          (pss_one (ps_ret pe_bl)) pss_nil)
        (pss_cons (ps_set (i := 10) scLaw.nd rfl (Or.inr rfl) (pe_call GP hr3 rfl gP kP bP .nil pass0 (pa_cons (pv 1) (pa_cons (pe_lst (pa_cons pe_str (pa_cons pe_str (pa_cons pe_non (pa_cons pe_int (pa_cons pe_str pa_nil)))))) pa_nil))))
        (pss_one (ps_if (pt_cmpR op_notN (pe_wrong FW gW bW TB TN EM TA hr9 hmT hu (t := fun E => tMeth CJ "but" (spBut K CJ CB) [] E (tVar 5) (tCons (tVar 10) (tCons (tC (.str "none")) tNil)))
              (fun A outer s H E f c' hr' => pe_meth (pv 5) JT.cl mB GB hr' bB .nil (passes_call (takes_of rfl rfl rfl rfl) fun _ _ _ _ h => h) (pa_cons (pv 10) (pa_cons pe_str pa_nil))) (show LamS (defScope sLaw) _ from lamS_by (by decide +kernel)) rfl rfl hq) pe_non (by rfl))
          (pss_one (ps_ret pe_bl)) pss_nil)))))))))))))))))
      (pss_cons (ps_set (i := 11) scLaw.nd rfl (Or.inl rfl) (pe_tup (pa_cons (pe_tup (pa_cons pe_int pa_nil)) (pa_cons pe_str (pa_cons pe_str (pa_cons pe_str pa_nil))))))
      (pss_cons (ps_if (pt_cmpR (op_neI EN GE bE hr3 pass0) (pe_make M GI hr6 rfl JT.gJ bI vI passF (pa_cons (pe_tup (pa_cons (pv 11) pa_nil)) pa_nil))
          (pe_makeK M GI hr6 rfl JT.gJ kbn passF (pa_cons (pe_tup (pa_cons (pv 11) pa_nil)) pa_nil) (pk_cons pe_str (pk_cons pe_int (pk_cons pe_str pk_nil)))) (nomark _))
        (pss_one (ps_ret pe_bl)) pss_nil)
      (pss_one (ps_ret (pe_call GX hr9 rfl gX kX bX .nil pass0 (pa_cons (pv 1) pa_nil))))))), ?_⟩
    refine ⟨_, rfl, sz8 (show 2 ≤ 1000 by decide), fun dl hdl => ?_⟩
    have ee : Ex H (upd H dl (.lst [.ref sc, .int 0])) := Ex.new hdl
    have Dr0 : Drw K dl sc ns (upd H dl (.lst [.ref sc, .int 0])) := ⟨0, upd_same, sql_st hS hdl⟩
    refine ⟨3, rfl, by decide, by decide, for_range (fun i σ H' => (∃ o2 o3 o4 o5 o6 o7 o8 o9 o10 o11 o12, σ = [some (.ref sc), some (.ref dl), o2, o3, o4, o5, o6, o7, o8, o9, o10, o11, o12]) ∧ Drw K dl sc ns H' ∧ Tabs T H')
      ⟨⟨_, _, _, _, _, _, _, _, _, _, _, rfl⟩, Dr0, T0.ext ee⟩ ?_ ?_⟩
    · rintro i σ H' hi ⟨⟨o2, o3, o4, o5, o6, o7, o8, o9, o10, o11, o12, rfl⟩, D0, T0⟩
      -- the parts
      refine ⟨_, rfl, dl, sc, ns, rfl, D0, fun t wt wvs ws a b c' H1 P1 b1 D1 => ?_⟩
      have T1 := tabs_but T0 D0.has b1
      refine ⟨_, rfl, dl, sc, ns, rfl, D1, fun t2 wt2 wvs2 ws2 a2 b2 c2 H2 O2 b2' D2 => ?_⟩
      have T2 := tabs_but T1 D1.has b2'
      have P2 := P1.ex (But.st b2')
      refine ⟨_, _, rfl, ?_⟩
      -- the job and the number
      have gn : firstBad (.tuple ws) (.str a) (.int b) (.str c') = none := good_none P1.len P1.good P1.ha P1.hb P1.hc
      have gn2 : firstBad (.tuple ws2) (.str a2) (.int b2) (.str c2) = none := good_none O2.len O2.good O2.ha O2.hb O2.hc
      have sh := good_shaped (b := b) P1.len P1.good P1.ha P1.hc
      have sh2 := good_shaped (b := b2) O2.len O2.good O2.ha O2.hc
      have wl : wvs.length = ws.length := dps_len P1.dps
      have wl2 : wvs2.length = ws2.length := dps_len O2.dps
      have wpos : 0 < wvs.length := by rw [wl]; rcases P1.len with h | h <;> omega
      have wpos2 : 0 < wvs2.length := by rw [wl2]; rcases O2.len with h | h <;> omega
      have q2 : Ex (St dl H2) H2 := st_le
      refine ⟨_, rfl, t, .ref wt, .str a, .int b, .str c', .tuple ws, .str a, .int b, .str c', rfl, ex_t q2 P2.top, .tup (ex_t q2 P2.wts) (dps_ex q2 P2.dps), .str _, .int _, .str _, fun _ H3 y e3 hy3 => ?_, fun n hf => by rw [gn] at hf; cases hf⟩
      have D3 := D2.ex e3
      have T3 := T2.ext e3
      have P3 := P2.ex (ex_st (dl := dl) e3)
      have O3 := O2.ex (ex_st (dl := dl) e3)
      have J3 := job_st hy3 D3.has
      refine ⟨_, rfl, _, rfl, t, _, 0, .ref wt, rfl, rfl, ex_t st_le P3.top, rfl, wt, wvs, rfl, .inr (ex_t st_le P3.wts), ?_⟩
      refine ⟨dl, sc, ns, _, rfl, by omega, D3, fun r H4 h0 h1 b4 D4 => ?_⟩
      obtain ⟨m, rfl⟩ := Int.eq_ofNat_of_zero_le h0
      have hm : m < wvs.length := by omega
      have T4 := tabs_but T3 D3.has b4
      refine ⟨sz8 (show 2 ≤ 1000 by decide), fun tp htp => ?_⟩
      obtain ⟨D5, e5, s5⟩ := D4.tup (xs := [V.ref y, V.int (m : Int)]) htp
      have S5 := (But.st b4).trans (ex_st (dl := dl) e5)
      have T5 := T4.ext e5
      have P5 := P3.ex S5
      have O5 := O3.ex S5
      have J5 := job_ex S5 J3
      refine ⟨tp, [V.ref y, V.int (m : Int)], rfl, SqT.of upd_same, rfl, _, _, rfl, _, _, rfl, rfl, ?_⟩
      generalize (upd H4 tp (HO.tup [V.ref y, V.int (m : Int)])) = H5 at D5 T5 P5 O5 J5 ⊢
      clear T4 D4 s5 e5 S5 b4 J3 O3 P3 T3 D3 hy3 e3 q2 P2 T2 D2 T1 D1 D0 T0
      -- the first test
      have q5 : Ex (St dl H5) H5 := st_le
      obtain ⟨dx, hx5⟩ := job_ex q5 J5
      refine ⟨_, rfl, y, CJ, dx, _, _, rfl, hx5, JT.cl, JT.nW, jf_writers, ?_⟩
      refine ⟨_, rfl, y, CJ, dx, _, _, rfl, hx5, JT.cl, JT.nR, jf_writes, ?_⟩
      refine ⟨_, rfl, y, CJ, dx, _, _, rfl, hx5, JT.cl, JT.nB, jf_before, ?_⟩
      refine ⟨_, rfl, y, CJ, dx, _, _, rfl, hx5, JT.cl, JT.nF, jf_falls, ?_⟩
      refine ⟨sz8 (show 4 ≤ 1000 by decide), fun tq htq => ?_⟩
      obtain ⟨D6, e6, s6⟩ := D5.tup (xs := [V.ref wt, V.str a, V.int b, V.str c']) htq
      have T6 := T5.ext e6
      have S6 := ex_st (dl := dl) e6
      have P6 := P5.ex S6
      have O6 := O5.ex S6
      have J6 := job_ex S6 J5
      have pe6 : DpAll K (St dl (upd H5 tq (.tup [V.ref wt, V.str a, V.int b, V.str c']))) [V.ref wt, V.str a, V.int b, V.str c'] (partsD ws a b c') := .cons (.tup P6.wts P6.dps) (.cons (.str _) (.cons (.int _) (.cons (.str _) .nil)))
      refine ⟨_, rfl, .tuple (partsD ws a b c'), .tuple (partsD ws a b c'), dp_ex st_le (.tup s6 pe6), dp_ex st_le P6.dp, sh, sh, _, rfl, ?_⟩
      rw [eqv_same sh]
      refine iteF ?_
      generalize (upd H5 tq (HO.tup [V.ref wt, V.str a, V.int b, V.str c'])) = H6 at D6 T6 P6 O6 J6 ⊢
      have q6 : Ex (St dl H6) H6 := st_le
      obtain ⟨dx6, hx6⟩ := job_ex q6 J6
      refine ⟨_, rfl, y, dx6, _, rfl, hx6, y, wt, wvs, _, _, _, rfl, ⟨dx6, hx6⟩, ex_t q6 P6.wts, _, rfl, Int.natCast_nonneg _, (by rcases P1.len with h | h <;> omega), ?_⟩
      refine ⟨_, rfl, t, _, 0, .ref wt, rfl, rfl, ex_t q6 P6.top, rfl, wt, wvs, rfl, .inr (ex_t q6 P6.wts), rfl, _, rfl, ?_⟩
      rw [decide_eq_true (show V.int (wvs.length : Int) = V.int (wvs.length : Int) from rfl)]
      refine iteF ?_
      -- the second test: the writers by number
      refine ⟨_, rfl, t, _, 0, .ref wt, rfl, rfl, ex_t q6 P6.top, rfl, wt, wvs, rfl, .inr (ex_t q6 P6.wts), (wvs.length : Int), rfl, (by omega), (by rcases P1.len with h | h <;> omega), fun L hL => ?_⟩
      refine lc_range (lo := 0) (n := wvs.length) (fun i H' => Ex H6 H' ∧ H' L = some (.lst (wvs.take i))) ⟨Ex.new hL, upd_same⟩ (fun i H' hi ⟨e, hl⟩ => ?_) (fun H7 ⟨e7, hl7⟩ => ?_)
      · have hwi : wvs[i]? = some wvs[i] := List.getElem?_eq_getElem hi
        refine ⟨wipe1, ?_⟩
        refine ⟨_, rfl, _, rfl, y, dx6, _, rfl, e _ _ hx6, ?_⟩
        refine ⟨y, wt, wvs, _, _, _, .int (0 + (i : Int)), .int (0 + (i : Int)), rfl, ⟨dx6, e _ _ hx6⟩, ex_t (q6.trans e) P6.wts, .int _, .inl ⟨i, wvs[i], by rw [Int.zero_add], by rw [Int.zero_add], hwi, ?_⟩⟩
        refine ⟨_, hl, sz_lt (by rw [List.length_take]; rcases P1.len with h | h <;> omega), e.mut hL, ?_⟩
        rw [upd_same, List.take_add_one, hwi]
        rfl
      · rw [List.take_length] at hl7
        have D7 := D6.ex e7
        have nL := D6.ne hL
        have S7 := ex_st (dl := dl) e7
        have P7 := P6.ex S7
        have O7 := O6.ex S7
        have J7 := job_ex S7 J6
        have T7 := T6.ext e7
        have q7 : Ex (St dl H7) H7 := st_le
        refine ⟨_, rfl, t, _, 0, .ref wt, rfl, rfl, ex_t q7 P7.top, rfl, wt, wvs, rfl, .inr (ex_t q7 P7.wts), fun l hl => ?_⟩
        obtain ⟨D8, e8, s8⟩ := D7.lst (xs := wvs) hl
        have S8 := ex_st (dl := dl) e8
        have P8 := P7.ex S8
        have O8 := O7.ex S8
        have J8 := job_ex S8 J7
        have T8 := T7.ext e8
        have q8 : Ex (St dl (upd H7 l (.lst wvs))) (upd H7 l (.lst wvs)) := st_le
        refine ⟨.list ws, .list ws, .lst (SqL.of (e8 _ _ hl7)) (dps_ex q8 P8.dps), .lst (ex_l q8 s8) (dps_ex q8 P8.dps), shaped_ws P1.len P1.good, shaped_ws P1.len P1.good, _, rfl, ?_⟩
        rw [eqv_same (shaped_ws P1.len P1.good)]
        refine iteF ?_
        generalize (upd H7 l (HO.lst wvs)) = H8 at D8 T8 P8 O8 J8 q8 ⊢
        clear s8 e8 S8 hl7 e7 S7 P7 O7 J7 T7 D7 q7
        obtain ⟨dx8, hx8⟩ := job_ex q8 J8
        refine ⟨_, rfl, _, rfl, t, .ref wt, .str a, .int b, .str c', .tuple ws, .str a, .int b, .str c', rfl, ex_t q8 P8.top, .tup (ex_t q8 P8.wts) (dps_ex q8 P8.dps), .str _, .int _, .str _, fun _ H9 y9 e9 hy9 => ?_, fun n hf => by rw [gn] at hf; cases hf⟩
        have q9 := q8.trans e9
        obtain ⟨dx9, hx9⟩ := id hy9
        refine ⟨y, dx8, y9, dx9, _, _, rfl, rfl, e9 _ _ hx8, hx9, ?_⟩
        have pe9 : DpAll K H9 [V.ref wt, V.str a, V.int b, V.str c'] (partsD ws a b c') := .cons (.tup (ex_t q9 P8.wts) (dps_ex q9 P8.dps)) (.cons (.str _) (.cons (.int _) (.cons (.str _) .nil)))
        refine ⟨y, _, _, _, _, .ref y9, rfl, ⟨dx8, e9 _ _ hx8⟩, .inr ⟨y9, _, _, _, _, _, _, _, _, _, _, _, _, rfl, hy9, pe9, pe9, sh, sh, fun H10 e10 => ⟨_, rfl, _, rfl, ?_⟩⟩⟩
        rw [eqv_same sh]
        refine iteF ?_
        have e810 := e9.trans e10
        have D10 := D8.ex e810
        have S10 := ex_st (dl := dl) e810
        have P10 := P8.ex S10
        have O10 := O8.ex S10
        have J10 := job_ex S10 J8
        have T10 := T8.ext e810
        clear e810 S10 q9 pe9 hx9 hy9 e9 e10 hx8 P8 O8 J8 T8 D8 q8 P6 O6 J6 T6 D6 q6 hx6
        have q10 : Ex (St dl H10) H10 := st_le
        obtain ⟨dx10, hx10⟩ := job_ex q10 J10
        -- the third test: equality, and jobs with another rule
        refine ⟨_, rfl, _, rfl, t2, .ref wt2, .str a2, .int b2, .str c2, .tuple ws2, .str a2, .int b2, .str c2, rfl, ex_t q10 O10.top, .tup (ex_t q10 O10.wts) (dps_ex q10 O10.dps), .str _, .int _, .str _, fun _ H11 y11 e11 hy11 => ?_, fun n hf => by rw [gn2] at hf; cases hf⟩
        have q11 := q10.trans e11
        obtain ⟨dx11, hx11⟩ := id hy11
        refine ⟨y, dx10, _, .ref CJ, rfl, e11 _ _ hx10, .base (.ins hx11 JT.cl JI.ca JI.cn JI.ct JI.cm), JI.nf, ?_⟩
        have pe11 : DpAll K H11 [V.ref wt, V.str a, V.int b, V.str c'] (partsD ws a b c') := .cons (.tup (ex_t q11 P10.wts) (dps_ex q11 P10.dps)) (.cons (.str _) (.cons (.int _) (.cons (.str _) .nil)))
        have oe11 : DpAll K H11 [V.ref wt2, V.str a2, V.int b2, V.str c2] (partsD ws2 a2 b2 c2) := .cons (.tup (ex_t q11 O10.wts) (dps_ex q11 O10.dps)) (.cons (.str _) (.cons (.int _) (.cons (.str _) .nil)))
        refine ⟨y, _, _, _, _, .ref y11, rfl, ⟨dx10, e11 _ _ hx10⟩, .inr ⟨y11, _, _, _, _, _, _, _, _, _, _, _, _, rfl, hy11, pe11, oe11, sh, sh2, fun H12 e12 => ?_⟩⟩
        have e1012 := e11.trans e12
        have q12 := q11.trans e12
        refine ⟨_, rfl, _, rfl, .tuple (partsD ws a b c'), .tuple (partsD ws2 a2 b2 c2), dp_ex q12 P10.dp, dp_ex q12 O10.dp, sh, sh2, rfl, _, rfl, ?_⟩
        rw [decide_eq_true (show V.bl (PyData.eqv (.tuple (partsD ws a b c')) (.tuple (partsD ws2 a2 b2 c2))) = V.bl (PyData.eqv (.tuple (partsD ws a b c')) (.tuple (partsD ws2 a2 b2 c2))) from rfl)]
        refine iteF ?_
        refine ⟨_, rfl, y, dx10, _, .type "int", rfl, e1012 _ _ hx10, .base (.int 5), JI.ni, ?_⟩
        refine ⟨y, _, _, _, _, .int 5, rfl, ⟨dx10, e1012 _ _ hx10⟩, .inl ⟨5, rfl, _, rfl, iteF ?_⟩⟩
        have S12 := ex_st (dl := dl) e1012
        refine ⟨_, rfl, _, rfl, _, rfl, dl, sc, ns, t, wt, t2, wt2, wvs, wvs2, ws, ws2, a, c', a2, c2, b, b2, rfl, D10.ex e1012, T10.ext e1012, P10.ex S12, O10.ex S12, fun H13 S13 D13 T13 => ⟨_, rfl, iteF ?_⟩⟩
        have P13 := P10.ex (S12.trans S13)
        have O13 := O10.ex (S12.trans S13)
        have J13 := job_ex (S12.trans S13) J10
        clear S13 S12 q12 e1012 e12 oe11 pe11 hx11 q11 hy11 e11 hx10 q10 T10 J10 O10 P10 D10
        -- a writer in the place of one
        have q13 : Ex (St dl H13) H13 := st_le
        refine ⟨_, rfl, t, _, 0, .ref wt, rfl, rfl, ex_t q13 P13.top, rfl, wt, wvs, rfl, .inr (ex_t q13 P13.wts), fun l2 hl2 => ?_⟩
        obtain ⟨D14, e14, s14⟩ := D13.lst (xs := wvs) hl2
        have nl2 := D13.ne hl2
        have q14 : Ex (St dl H13) (upd H13 l2 (.lst wvs)) := q13.trans e14
        obtain ⟨ow, how⟩ : ∃ ow, wvs2[0]? = some ow := ⟨_, List.getElem?_eq_getElem wpos2⟩
        obtain ⟨od, hod, dow13⟩ := dps_at O13.dps how
        have god : GoodW od := O2.good od (List.mem_of_getElem? hod)
        refine ⟨_, rfl, t2, _, 0, .ref wt2, rfl, rfl, ex_t q14 O13.top, rfl, wt2, wvs2, 0, ow, rfl, rfl, ex_t q14 O13.wts, atI_nat (j := 0) how, _, rfl, _, rfl, l2, wvs, m, m, rfl, rfl, upd_same, ixN_nat hm, ?_⟩
        obtain ⟨D15, b15⟩ := D13.mut D14 (Ex.but e14) (o := .lst (wvs.set m ow)) hl2
        have T15 : Tabs T (upd (upd H13 l2 (.lst wvs)) l2 (.lst (wvs.set m ow))) := tabs_mut (T13.ext e14) upd_same
        have S15 := But.st b15
        have hl15 : (upd (upd H13 l2 (.lst wvs)) l2 (.lst (wvs.set m ow))) l2 = some (.lst (wvs.set m ow)) := upd_same
        refine ⟨_, rfl, l2, wvs.set m ow, rfl, .inl ⟨SqL.of hl15, fun tq hq => ?_⟩⟩
        obtain ⟨D16, e16, s16⟩ := D15.tup (xs := wvs.set m ow) hq
        have S16 := S15.trans (ex_st (dl := dl) e16)
        have P16 := P13.ex S16
        have O16 := O13.ex S16
        have J16 := job_ex S16 J13
        have T16 := T15.ext e16
        have dow16 := dp_ex S16 dow13
        have dw16 : Dp K (St dl (upd (upd (upd H13 l2 (.lst wvs)) l2 (.lst (wvs.set m ow))) tq (.tup (wvs.set m ow)))) (.ref tq) (.tuple (ws.set m od)) := .tup s16 (dps_set dow16 m P16.dps)
        generalize (upd (upd (upd H13 l2 (HO.lst wvs)) l2 (HO.lst (wvs.set m ow))) tq (HO.tup (wvs.set m ow))) = H16 at D16 T16 P16 O16 J16 dow16 dw16 ⊢
        clear S16 s16 e16 hl15 S15 T15 b15 D15 dow13 q14 nl2 s14 e14 D14 q13 J13 O13 P13 T13 D13
        have q16 : Ex (St dl H16) H16 := st_le
        obtain ⟨dx16, hx16⟩ := job_ex q16 J16
        have mws : m < ws.length := by omega
        have hts := take_set od ws m mws
        have gset := set_good (k := m) P1.good god
        have lset : (ws.set m od).length = 1 ∨ (ws.set m od).length = 2 := by rw [List.length_set]; exact P1.len
        have gnS : firstBad (.tuple (ws.set m od)) (.str a) (.int b) (.str c') = none := good_none lset gset P1.ha P1.hb P1.hc
        have shS := good_shaped (b := b) lset gset P1.ha P1.hc
        refine ⟨_, rfl, y, dx16, _, rfl, hx16, job_no, _, rfl, _, rfl, t2, _, 0, .ref wt2, rfl, rfl, ex_t q16 O16.top, rfl, wt2, wvs2, 0, ow, rfl, rfl, ex_t q16 O16.wts, atI_nat (j := 0) how, ?_⟩
        refine ⟨y, wt, wvs, .str a, .int b, .str c', .int m, ow, .int m, rfl, ⟨dx16, hx16⟩, ex_t q16 P16.wts, (by rcases P1.len with h | h <;> omega), .int _, .inr ⟨m, ws, .str a, .int b, .str c', od, rfl, rfl, hm, dps_ex q16 P16.dps, .str _, .int _, .str _, dp_ex q16 dow16, fun _ H17 y17 r17 e17 dr17 hy17 => ?_, fun n hf => by rw [← hts, gnS] at hf; cases hf⟩⟩
        rw [← hts] at dr17
        have D17 := D16.ex e17
        have L17 := D17.has
        have P17 := P16.ex (ex_st (dl := dl) e17)
        have dw17 := dp_ex (ex_st (dl := dl) e17) dw16
        refine tcall_one ?_
        refine ed_catX (K := K) (dl := dl) L17 (ed_tup L17 (ea1 (ed_var rfl dw17) ea0)) (ed_drop (k := 1) L17 (ed_var rfl P17.dp) ev_c (show 1 ≤ 4 by decide)) (show 1 + 3 ≤ 1000 by decide) H17 (Ex.refl _) _ fun v18 H18 e18 dv18 => ?_
        obtain ⟨t18, us, rfl, s18, a18⟩ : ∃ t18 us, v18 = V.ref t18 ∧ SqT K (St dl H18) t18 us ∧ DpAll K (St dl H18) us (partsD (ws.set m od) a b c') := by
          cases dv18 with
          | tup s1 a1 => exact ⟨_, _, rfl, s1, a1⟩
        obtain ⟨u0, u1, u2, u3, _, _, _, _, rfl, eds, g0, g1, g2, g3⟩ := dps4 (dps_len a18) a18
        cases eds
        have q18 : Ex (St dl H18) H18 := st_le
        refine ⟨t18, u0, u1, u2, u3, _, _, _, _, rfl, ex_t q18 s18, dp_ex q18 g0, dp_ex q18 g1, dp_ex q18 g2, dp_ex q18 g3, fun _ H19 y19 e19 hy19 => ?_, fun n hf => by rw [gnS] at hf; cases hf⟩
        have e1719 := e18.trans e19
        obtain ⟨dx17, hx17⟩ := job_ex e1719 hy17
        obtain ⟨dx19, hx19⟩ := id hy19
        refine ⟨y17, dx17, y19, dx19, _, _, rfl, rfl, hx17, hx19, ?_⟩
        refine ⟨y17, r17, _, _, _, .ref y19, rfl, ⟨dx17, hx17⟩, .inr ⟨y19, u0, u1, u2, u3, _, _, _, _, _, _, _, _, rfl, hy19, .cons (dp_ex e1719 dr17) (.cons (.str a) (.cons (.int b) (.cons (.str c') .nil))), dps_ex (q18.trans e19) a18, shS, shS, fun H20 e20 => ⟨_, rfl, _, rfl, ?_⟩⟩⟩
        rw [eqv_same shS]
        refine iteF ?_
        have e1620 := e17.trans (e1719.trans e20)
        have S20 := ex_st (dl := dl) e1620
        have D20 := D16.ex e1620
        have P20 := P16.ex S20
        have J20 := job_ex S20 J16
        have T20 := T16.ext e1620
        clear S20 e1620 hx19 hx17 e1719 hy19 e19 q18 g0 g1 g2 g3 a18 s18 e18 dw17 P17 L17 D17 dr17 hy17 e17 hx16 q16 dw16 dow16 T16 J16 O16 P16 D16
        -- what is no number of a writer
        have L20 := D20.has
        refine nx_ ?_
        dsimp only
        refine seq_set ?_
        refine tcall_two ?_
        refine ⟨_, rfl, ?_⟩
        refine el_lst (K := K) (dl := dl) L20 (ea1 (ed_len (ed_ix (k := 0) (ed_var rfl P20.dp) rfl ev_c)) (ea1 ed_neg (ea1 ed_bl (ea1 ed_non (ea1 ed_str ea0))))) (show 5 ≤ 1000 by decide) H20 (Ex.refl _) _ fun p21 vs21 H21 e21 hp21 dv21 => ?_
        have D21 := D20.ex e21
        have S21 := ex_st (dl := dl) e21
        refine ⟨dl, sc, ns, p21, vs21, rfl, SqL.of hp21, dps_nil dv21 (by simp), D21, fun k22 x22 H22 hk22 b22 D22 => ?_⟩
        obtain ⟨dt, hdt, dx21⟩ := dps_at dv21 hk22
        have hnum : isNum 0 ((wvs.length : Int) - 1) dt = false := by
          have z : dt = .int (ws.length : Nat) ∨ dt = .int (-1) ∨ dt = .bool true ∨ dt = .none ∨ dt = .str "0" := by simpa using List.mem_of_getElem? hdt
          rcases z with rfl | rfl | rfl | rfl | rfl
          · show (decide ((0 : Int) ≤ (ws.length : Int)) && decide ((ws.length : Int) ≤ (wvs.length : Int) - 1)) = false
            rw [wl, decide_eq_false (show ¬ ((ws.length : Int) ≤ (ws.length : Int) - 1) by omega), Bool.and_false]
          · rfl
          · rfl
          · rfl
          · rfl
        have S22 := S21.trans (But.st b22)
        have T22 := tabs_but (T20.ext e21) D21.has b22
        have P22 := P20.ex S22
        have J22 := job_ex S22 J20
        have dx22 := dp_ex (But.st b22) dx21
        have w10 : wvs.length ≤ 10 := by rcases P1.len with h | h <;> omega
        refine r_withN (dl := dl) T22 rfl rfl J22 P22.wts w10 dx22 hnum fun H23 e23 T23 k23 => ?_
        refine ⟨rfl, _, rfl, ?_⟩
        rw [decide_eq_true (show V.str "number" = V.str "number" from rfl)]
        refine iteF ?_
        have D23 := D22.ext e23 k23
        have P23 := P22.ex e23
        have J23 := job_ex e23 J22
        have dx23 := dp_ex e23 dx22
        refine r_ixN (dl := dl) T23 rfl rfl J23 P23.wts dx23 hnum fun H24 e24 T24 k24 => ?_
        refine ⟨rfl, _, rfl, ?_⟩
        rw [decide_eq_true (show V.str "number" = V.str "number" from rfl)]
        refine iteF ?_
        have D24 := D23.ext e24 k24
        have P24 := P23.ex e24
        have J24 := job_ex e24 J23
        refine r_withW (dl := dl) T24 rfl rfl J24 P24.wts w10 hm P24.dps (.str _) (.int _) (.str _) (fb_w (none_writers mws)) fun H25 e25 T25 k25 => ?_
        refine ⟨rfl, _, rfl, ?_⟩
        rw [decide_eq_true (show V.str "writers" = V.str "writers" from rfl)]
        refine iteF ?_
        have D25 := D24.ext e25 k25
        have J25 := job_ex e25 J24
        -- what is no rule's name
        refine nx_ ?_
        dsimp only
        refine seq_set ?_
        refine tcall_two ?_
        refine ⟨_, rfl, ?_⟩
        refine el_lst (K := K) (dl := dl) D25.has (ea1 ed_str (ea1 ed_str (ea1 ed_non (ea1 ed_int (ea1 ed_str ea0))))) (show 5 ≤ 1000 by decide) H25 (Ex.refl _) _ fun p26 vs26 H26 e26 hp26 dv26 => ?_
        have D26 := D25.ex e26
        have S26 := ex_st (dl := dl) e26
        refine ⟨dl, sc, ns, p26, vs26, rfl, SqL.of hp26, dps_nil dv26 (by simp), D26, fun k27 x27 H27 hk27 b27 D27 => ?_⟩
        obtain ⟨dn, hdn, dx26⟩ := dps_at dv26 hk27
        have hbn : badName dn = true := by
          have z : dn = .str "writers" ∨ dn = .str "" ∨ dn = .none ∨ dn = .int 5 ∨ dn = .str "Falls" := by simpa using List.mem_of_getElem? hdn
          rcases z with rfl | rfl | rfl | rfl | rfl <;> decide +kernel
        have T27 := tabs_but (T25.ext e26) D26.has b27
        have J27 := job_ex (S26.trans (But.st b27)) J25
        refine r_butN (dl := dl) T27 rfl rfl J27 (dp_ex (But.st b27) dx26) hbn fun H28 e28 T28 k28 => ?_
        refine ⟨rfl, _, rfl, ?_⟩
        rw [decide_eq_true (show V.non = V.non from rfl)]
        exact iteF ⟨⟨_, _, _, _, _, _, _, _, _, _, _, rfl⟩, D27.ext e28 k28, T28⟩
    · rintro σ H' ⟨⟨o2, o3, o4, o5, o6, o7, o8, o9, o10, o11, o12, rfl⟩, D', T'⟩
      have L' := D'.has
      refine st_set (K := K) (dl := dl) (d := gw [1] "end" "part" "leaves") (ed_tup L' (ea1 (ed_tup L' (ea1 ed_int ea0)) (ea1 ed_str (ea1 ed_str (ea1 ed_str ea0))))) fun v H1 e1 dv => ?_
      have gd : GoodW (gw [1] "end" "part" "leaves") := ⟨_, _, _, _, rfl, by decide, by decide +kernel, by decide +kernel, by decide +kernel⟩
      have ga : ∀ d ∈ ([gw [1] "end" "part" "leaves"] : List PyData), GoodW d := fun d hd => by rw [List.mem_singleton.mp hd]; exact gd
      have gn : firstBad (.tuple [gw [1] "end" "part" "leaves"]) (.str "whole") (.int 0) (.str "none") = none := good_none (.inl rfl) ga (by decide +kernel) (.inl rfl) (by decide +kernel)
      have sh := good_shaped (ws := [gw [1] "end" "part" "leaves"]) (a := "whole") (b := 0) (c := "none") (.inl rfl) ga (by decide +kernel) (by decide +kernel)
      have q1 : Dp K H1 v (gw [1] "end" "part" "leaves") := dp_ex st_le dv
      refine ⟨_, rfl, sz8 (show 1 ≤ 1000 by decide), fun t1 ht1 x1 dx1 hx1 hdx1 nx1 => ?_⟩
      have f1 := Ex.new (o := .tup [v]) ht1
      have f2 := ex_made (C := CJ) hx1 hdx1 nx1
      have w1 : Dp K (upd H1 t1 (.tup [v])) (.ref t1) (.tuple [gw [1] "end" "part" "leaves"]) := .tup (SqT.of upd_same) (.cons (dp_ex f1 q1) .nil)
      refine ⟨x1, dx1, .ref t1, _, _, _, .tuple [gw [1] "end" "part" "leaves"], .str "whole", .int 0, .str "none", rfl, upd_same, dp_ex f2 w1, .str _, .int _, .str _, fun _ H2 k2 hx2 => ⟨rfl, ?_⟩, fun n hf => by rw [gn] at hf; cases hf⟩
      have f3 := kept_ex f2 hx1 k2
      refine ⟨_, rfl, sz8 (show 1 ≤ 1000 by decide), fun t2 ht2 => ⟨rfl, rfl, fun x3 dx3 hx3 hdx3 nx3 => ?_⟩⟩
      have f4 := Ex.new (o := .tup [v]) ht2
      have f5 := ex_made (C := CJ) hx3 hdx3 nx3
      have w2 : Dp K (upd H2 t2 (.tup [v])) (.ref t2) (.tuple [gw [1] "end" "part" "leaves"]) := .tup (SqT.of upd_same) (.cons (dp_ex (f1.trans (f3.trans f4)) q1) .nil)
      refine ⟨x3, dx3, .ref t2, _, _, _, .tuple [gw [1] "end" "part" "leaves"], .str "whole", .int 0, .str "none", rfl, upd_same, dp_ex f5 w2, .str _, .int _, .str _, fun _ H4 k4 hx4 => ⟨rfl, ?_⟩, fun n hf => by rw [gn] at hf; cases hf⟩
      have f6 := kept_ex f5 hx3 k4
      have f7 := f4.trans f6
      have hx2' := f7 _ _ hx2
      refine ⟨x1, dx1, x3, dx3, _, _, rfl, rfl, hx2', hx4, ?_⟩
      refine ⟨x1, .ref t1, _, _, _, .ref x3, rfl, ⟨dx1, hx2'⟩, .inr ⟨x3, .ref t2, _, _, _, _, _, _, _, _, _, _, _, rfl, ⟨dx3, hx4⟩, .cons (dp_ex (f3.trans f7) w1) (.cons (.str "whole") (.cons (.int 0) (.cons (.str "none") .nil))),
        .cons (dp_ex f6 w2) (.cons (.str "whole") (.cons (.int 0) (.cons (.str "none") .nil))), sh, sh, fun H5 e5 => ⟨_, rfl, _, rfl, ?_⟩⟩⟩
      rw [eqv_same sh]
      refine iteF ?_
      have f8 := e1.trans (f1.trans (f3.trans (f7.trans e5)))
      exact ⟨_, rfl, dl, rfl, L'.ex f8, T'.ext f8, k⟩
end
end K1

/-! K1z: from the written part to the law (printed by gen_end.py). -/
namespace K1
open PySem L2 Evl LamX
theorem exm_of {K : PySem.W.Frag} {S R : Addr} {b : Bool} (h1 : PySem.W.subIn K (.ref S) (.type "BaseException") = some true) (h0 : PySem.W.subIn K (.ref R) (.type "BaseException") = some true) (h2 : PySem.W.isClsIn K R = true) (h3 : PySem.W.typeIn K (.ref R) = some (.type "type")) (h4 : PySem.W.subIn K (.ref S) (.ref R) = some b) :
    PySem.W.exmOne K (.ref S) (.ref R) = some b := by
  have e1 : (PySem.W.subIn K (.ref R) (.type "BaseException") == some true) = true := by rw [h0] <;> rfl
  have h2' : (PySem.W.clsIn K R).isSome = true := h2
  have e2 : ((PySem.W.clsIn K R).isSome && PySem.W.typeIn K (.ref R) == some (.type "type")) = true := by rw [h2', h3] <;> rfl
  show (if (PySem.W.subIn K (.ref R) (.type "BaseException") == some true) = true then (if ((PySem.W.clsIn K R).isSome && PySem.W.typeIn K (.ref R) == some (.type "type")) = true then PySem.W.subIn K (.ref S) (.ref R) else none) else none) = some b
  rw [if_pos e1, if_pos e2]
  exact h4
theorem kit_of_sub {K : PySem.W.Frag} {t : Value} {C : Addr} {b : Bool} (n : (t == Value.ref C) = false) (h1 : PySem.W.isClsIn K C = true) (h2 : PySem.W.typeIn K (.ref C) = some (.type "type")) (h3 : PySem.W.subIn K t (.ref C) = some b) : PySem.W.kitOne K t (.ref C) = some b := by
  have h1' : (PySem.W.clsIn K C).isSome = true := h1
  have e : ((PySem.W.clsIn K C).isSome && PySem.W.typeIn K (.ref C) == some (.type "type")) = true := by rw [h1', h2] <;> rfl
  unfold PySem.W.kitOne
  rw [if_neg (by rw [n]; exact Bool.false_ne_true)]
  show (if ((PySem.W.clsIn K C).isSome && PySem.W.typeIn K (.ref C) == some (.type "type")) = true then PySem.W.subIn K t (.ref C) else none) = some b
  rw [if_pos e]
  exact h3
theorem tup_str2 {K : PySem.W.Frag} {a : Addr} {dd : Option Addr} {n : Nat} {sl : Array (Option Value)} {x0 x1 : Str} {t0 t1 : Tok} (l : K.lookup a = some ⟨.type "tuple", dd, .seq #[.str x0 t0, .str x1 t1] n, sl⟩) (H : Hp) : SqT K H a [V.str x0, V.str x1] :=
  .inr ⟨_, _, _, l, rfl, rfl, sz8 (by show 2 ≤ 1000; decide), .cons ⟨_, rfl⟩ (.cons ⟨_, rfl⟩ (.nil))⟩
theorem tup_str3 {K : PySem.W.Frag} {a : Addr} {dd : Option Addr} {n : Nat} {sl : Array (Option Value)} {x0 x1 x2 : Str} {t0 t1 t2 : Tok} (l : K.lookup a = some ⟨.type "tuple", dd, .seq #[.str x0 t0, .str x1 t1, .str x2 t2] n, sl⟩) (H : Hp) : SqT K H a [V.str x0, V.str x1, V.str x2] :=
  .inr ⟨_, _, _, l, rfl, rfl, sz8 (by show 3 ≤ 1000; decide), .cons ⟨_, rfl⟩ (.cons ⟨_, rfl⟩ (.cons ⟨_, rfl⟩ (.nil)))⟩
theorem tup_str4 {K : PySem.W.Frag} {a : Addr} {dd : Option Addr} {n : Nat} {sl : Array (Option Value)} {x0 x1 x2 x3 : Str} {t0 t1 t2 t3 : Tok} (l : K.lookup a = some ⟨.type "tuple", dd, .seq #[.str x0 t0, .str x1 t1, .str x2 t2, .str x3 t3] n, sl⟩) (H : Hp) : SqT K H a [V.str x0, V.str x1, V.str x2, V.str x3] :=
  .inr ⟨_, _, _, l, rfl, rfl, sz8 (by show 4 ≤ 1000; decide), .cons ⟨_, rfl⟩ (.cons ⟨_, rfl⟩ (.cons ⟨_, rfl⟩ (.cons ⟨_, rfl⟩ (.nil))))⟩
theorem tup_ref3 {K : PySem.W.Frag} {a x0 x1 x2 : Addr} {dd : Option Addr} {n : Nat} {sl : Array (Option Value)} (l : K.lookup a = some ⟨.type "tuple", dd, .seq #[.ref x0, .ref x1, .ref x2] n, sl⟩) (H : Hp) : SqT K H a [V.ref x0, V.ref x1, V.ref x2] :=
  .inr ⟨_, _, _, l, rfl, rfl, sz8 (by show 3 ≤ 1000; decide), .cons rfl (.cons rfl (.cons rfl .nil))⟩
/-- the law's tables: each maker's, and the lambdas' names -/
def lamT (P1 P2 P3 : Addr) : List (Addr × Str) := [(P1, "_law_writers_right.<locals>.<lambda>"), (P2, "_law_rules_right.<locals>.<lambda>"), (P3, "law.<locals>.<lambda>")]
theorem lamT_u {P1 P2 P3 : Addr} (h12 : P1 ≠ P2) (h13 : P1 ≠ P3) (h23 : P2 ≠ P3) : (∀ p ∈ lamT P1 P2 P3, p.1 = P1 → p.2 = "_law_writers_right.<locals>.<lambda>") ∧ (∀ p ∈ lamT P1 P2 P3, p.1 = P2 → p.2 = "_law_rules_right.<locals>.<lambda>") ∧ (∀ p ∈ lamT P1 P2 P3, p.1 = P3 → p.2 = "law.<locals>.<lambda>") := by
  refine ⟨fun p hp e => ?_, fun p hp e => ?_, fun p hp e => ?_⟩
  · rcases List.mem_cons.mp hp with rfl | hp
    · rfl
    rcases List.mem_cons.mp hp with rfl | hp
    · exact absurd e h12.symm
    rw [List.mem_singleton.mp hp] at e
    exact absurd e h13.symm
  · rcases List.mem_cons.mp hp with rfl | hp
    · exact absurd e h12
    rcases List.mem_cons.mp hp with rfl | hp
    · rfl
    rw [List.mem_singleton.mp hp] at e
    exact absurd e h23.symm
  · rcases List.mem_cons.mp hp with rfl | hp
    · exact absurd e h13
    rcases List.mem_cons.mp hp with rfl | hp
    · exact absurd e h23
    rw [List.mem_singleton.mp hp]
theorem all_mk {P : Program} {w : World} {K : PySem.W.Frag} {h : Heap} {mg : Str → Option Value} {fa : Addr} (X : K.In h) (G : h.Ns mainGlobals mg) (hfa : mg "law" = some (.ref fa))
    {f0 f1 f2 f3 f4 f5 f6 f7 f8 f9 f10 f11 f12 c1 f13 c2 f14 c3 CJ fm0 fm1 fm2 fm3 fm4 fm5 fI DI NJ mM m0 m1 m2 mP mR r0 r1 CB fB ccB cdB NB CN : Addr} {od0 an0 od1 an1 od2 an2 od3 an3 od4 an4 od5 an5 od6 an6 od7 an7 od8 an8 od9 an9 od10 an10 od11 an11 od12 an12 od13 an13 od14 an14 odm0 anm0 odm1 anm1 odm2 anm2 odm3 anm3 odm4 anm4 odm5 anm5 odI anI ddJ td_mM td_m0 td_m1 td_m2 td_mP td_r0 td_r1 ddB odB anB cldB cddB : Option Addr} {sl0 sl1 sl2 sl3 sl4 sl5 sl6 sl7 sl8 sl9 sl10 sl11 sl12 sl13 sl14 slm0 slm1 slm2 slm3 slm4 slm5 slI ts_mM ts_m0 ts_m1 ts_m2 ts_mP ts_r0 ts_r1 slB cslB ccsB : Array (Option Value)} {oc0 kv0 dc0 pm0 ct0 cd0 oc1 kv1 dc1 pm1 ct1 cd1 oc2 kv2 dc2 pm2 ct2 cd2 oc3 kv3 dc3 pm3 ct3 cd3 oc4 kv4 dc4 pm4 ct4 cd4 oc5 kv5 dc5 pm5 ct5 cd5 oc6 kv6 dc6 pm6 ct6 cd6 oc7 kv7 dc7 pm7 ct7 cd7 oc8 kv8 dc8 pm8 ct8 cd8 oc9 kv9 dc9 pm9 ct9 cd9 oc10 kv10 dc10 pm10 ct10 cd10 oc11 kv11 dc11 pm11 ct11 cd11 oc12 kv12 dc12 pm12 ct12 oc13 kv13 dc13 pm13 ct13 oc14 kv14 dc14 pm14 ct14 ocm0 kvm0 dcm0 pmm0 ctm0 cdm0 ocm1 kvm1 dcm1 pmm1 ctm1 cdm1 ocm2 kvm2 dcm2 pmm2 ctm2 cdm2 ocm3 kvm3 dcm3 pmm3 ctm3 cdm3 ocm4 kvm4 dcm4 pmm4 ctm4 cdm4 ocm5 kvm5 dcm5 pmm5 ctm5 cdm5 ocI dcI pmI ctI cdI uB0 ocB dcB pmB ctB clB cclB : Value} {nmJ qJ nmB qB fileB : Str} {bsJ subJ bsB bmB subB : List Value} {snJ snB : List Str} {hJ abJ abB : Bool} {colJ colB : Option Bool} {j0 j1 j2 j3 j5 e0 e1 e2 e3 e5 : Option Value} {tk1 tk2 tk3 t_cl t_cp t_cw t_ctg t_cb tt_m00 tt_m01 tt_m02 tt_m10 tt_m11 tt_m12 tt_m20 tt_m21 tt_mP0 tt_mP1 tt_mP2 tt_mP3 tt_r00 tt_r01 tt_r10 tt_r11 tfB : Tok} {tn_mM tn_m0 tn_m1 tn_m2 tn_mP nR_ tn_r0 tn_r1 : Nat} {vsB : Array Value} {esR : Array DictEntry}
    (a0 : PySem.W.nsIn K mainGlobals "is_number" = some (some (.ref f0)))
    (l0 : K.lookup f0 = some ⟨oc0, od0, .func (PySem.W.fnOf "is_number" "is_number" (defArgs sIsNumber) (defBody sIsNumber) (defScope sIsNumber) .none kv0 dc0 pm0 an0 cd0 ct0), sl0⟩)
    (c_0 : PySem.W.codeIn K cd0 "is_number" = true)
    (k0 : PySem.W.keepIn K (.ref f0) = true)
    (a1 : PySem.W.nsIn K mainGlobals "are_lines" = some (some (.ref f1)))
    (l1 : K.lookup f1 = some ⟨oc1, od1, .func (PySem.W.fnOf "are_lines" "are_lines" (defArgs sAreLines) (defBody sAreLines) (defScope sAreLines) .none kv1 dc1 pm1 an1 cd1 ct1), sl1⟩)
    (c_1 : PySem.W.codeIn K cd1 "are_lines" = true)
    (k1 : PySem.W.keepIn K (.ref f1) = true)
    (a2 : PySem.W.nsIn K mainGlobals "is_writer" = some (some (.ref f2)))
    (l2 : K.lookup f2 = some ⟨oc2, od2, .func (PySem.W.fnOf "is_writer" "is_writer" (defArgs sIsWriter) (defBody sIsWriter) (defScope sIsWriter) .none kv2 dc2 pm2 an2 cd2 ct2), sl2⟩)
    (c_2 : PySem.W.codeIn K cd2 "is_writer" = true)
    (k2 : PySem.W.keepIn K (.ref f2) = true)
    (a3 : PySem.W.nsIn K mainGlobals "are_writers" = some (some (.ref f3)))
    (l3 : K.lookup f3 = some ⟨oc3, od3, .func (PySem.W.fnOf "are_writers" "are_writers" (defArgs sAreWriters) (defBody sAreWriters) (defScope sAreWriters) .none kv3 dc3 pm3 an3 cd3 ct3), sl3⟩)
    (c_3 : PySem.W.codeIn K cd3 "are_writers" = true)
    (k3 : PySem.W.keepIn K (.ref f3) = true)
    (a4 : PySem.W.nsIn K mainGlobals "is_rule" = some (some (.ref f4)))
    (l4 : K.lookup f4 = some ⟨oc4, od4, .func (PySem.W.fnOf "is_rule" "is_rule" (defArgs sIsRule) (defBody sIsRule) (defScope sIsRule) .none kv4 dc4 pm4 an4 cd4 ct4), sl4⟩)
    (c_4 : PySem.W.codeIn K cd4 "is_rule" = true)
    (k4 : PySem.W.keepIn K (.ref f4) = true)
    (a5 : PySem.W.nsIn K mainGlobals "_law_number" = some (some (.ref f5)))
    (l5 : K.lookup f5 = some ⟨oc5, od5, .func (PySem.W.fnOf "_law_number" "_law_number" (defArgs sNumber) (defBody sNumber) (defScope sNumber) .none kv5 dc5 pm5 an5 cd5 ct5), sl5⟩)
    (c_5 : PySem.W.codeIn K cd5 "_law_number" = true)
    (k5 : PySem.W.keepIn K (.ref f5) = true)
    (a6 : PySem.W.nsIn K mainGlobals "_law_take" = some (some (.ref f6)))
    (l6 : K.lookup f6 = some ⟨oc6, od6, .func (PySem.W.fnOf "_law_take" "_law_take" (defArgs sTake) (defBody sTake) (defScope sTake) .none kv6 dc6 pm6 an6 cd6 ct6), sl6⟩)
    (c_6 : PySem.W.codeIn K cd6 "_law_take" = true)
    (k6 : PySem.W.keepIn K (.ref f6) = true)
    (a7 : PySem.W.nsIn K mainGlobals "_law_pick" = some (some (.ref f7)))
    (l7 : K.lookup f7 = some ⟨oc7, od7, .func (PySem.W.fnOf "_law_pick" "_law_pick" (defArgs sPick) (defBody sPick) (defScope sPick) .none kv7 dc7 pm7 an7 cd7 ct7), sl7⟩)
    (c_7 : PySem.W.codeIn K cd7 "_law_pick" = true)
    (k7 : PySem.W.keepIn K (.ref f7) = true)
    (a8 : PySem.W.nsIn K mainGlobals "_law_writer" = some (some (.ref f8)))
    (l8 : K.lookup f8 = some ⟨oc8, od8, .func (PySem.W.fnOf "_law_writer" "_law_writer" (defArgs sWriter) (defBody sWriter) (defScope sWriter) .none kv8 dc8 pm8 an8 cd8 ct8), sl8⟩)
    (c_8 : PySem.W.codeIn K cd8 "_law_writer" = true)
    (k8 : PySem.W.keepIn K (.ref f8) = true)
    (a9 : PySem.W.nsIn K mainGlobals "_law_parts" = some (some (.ref f9)))
    (l9 : K.lookup f9 = some ⟨oc9, od9, .func (PySem.W.fnOf "_law_parts" "_law_parts" (defArgs sParts) (defBody sParts) (defScope sParts) .none kv9 dc9 pm9 an9 cd9 ct9), sl9⟩)
    (c_9 : PySem.W.codeIn K cd9 "_law_parts" = true)
    (k9 : PySem.W.keepIn K (.ref f9) = true)
    (a10 : PySem.W.nsIn K mainGlobals "_law_made" = some (some (.ref f10)))
    (l10 : K.lookup f10 = some ⟨oc10, od10, .func (PySem.W.fnOf "_law_made" "_law_made" (defArgs sMade) (defBody sMade) (defScope sMade) .none kv10 dc10 pm10 an10 cd10 ct10), sl10⟩)
    (c_10 : PySem.W.codeIn K cd10 "_law_made" = true)
    (k10 : PySem.W.keepIn K (.ref f10) = true)
    (a11 : PySem.W.nsIn K mainGlobals "_law_wrong" = some (some (.ref f11)))
    (l11 : K.lookup f11 = some ⟨oc11, od11, .func (PySem.W.fnOf "_law_wrong" "_law_wrong" (defArgs sWrong) (defBody sWrong) (defScope sWrong) .none kv11 dc11 pm11 an11 cd11 ct11), sl11⟩)
    (c_11 : PySem.W.codeIn K cd11 "_law_wrong" = true)
    (k11 : PySem.W.keepIn K (.ref f11) = true)
    (a12 : PySem.W.nsIn K mainGlobals "_law_writers_right" = some (some (.ref f12)))
    (l12 : K.lookup f12 = some ⟨oc12, od12, .func (PySem.W.fnOf "_law_writers_right" "_law_writers_right" (defArgs sWR) (defBody sWR) (defScope sWR) .none kv12 dc12 pm12 an12 (.ref c1) ct12), sl12⟩)
    (c_12 : PySem.W.codeIn K (.ref c1) "_law_writers_right" = true)
    (k12 : PySem.W.keepIn K (.ref f12) = true)
    (a13 : PySem.W.nsIn K mainGlobals "_law_rules_right" = some (some (.ref f13)))
    (l13 : K.lookup f13 = some ⟨oc13, od13, .func (PySem.W.fnOf "_law_rules_right" "_law_rules_right" (defArgs sRR) (defBody sRR) (defScope sRR) .none kv13 dc13 pm13 an13 (.ref c2) ct13), sl13⟩)
    (c_13 : PySem.W.codeIn K (.ref c2) "_law_rules_right" = true)
    (k13 : PySem.W.keepIn K (.ref f13) = true)
    (a14 : PySem.W.nsIn K mainGlobals "law" = some (some (.ref f14)))
    (l14 : K.lookup f14 = some ⟨oc14, od14, .func (PySem.W.fnOf "law" "law" (defArgs sLaw) (defBody sLaw) (defScope sLaw) .none kv14 dc14 pm14 an14 (.ref c3) ct14), sl14⟩)
    (c_14 : PySem.W.codeIn K (.ref c3) "law" = true)
    (k14 : PySem.W.keepIn K (.ref f14) = true)
    (aJ : PySem.W.nsIn K mainGlobals "Job" = some (some (.ref CJ)))
    (am0 : PySem.W.findIn K (.ref CJ) "four" = some (some (.ref fm0)))
    (im0 : PySem.W.isFn K (.ref fm0) = true)
    (lm0 : K.lookup fm0 = some ⟨ocm0, odm0, .func (PySem.W.fnOf "four" "Job.four" (defArgs sFour) (defBody sFour) (defScope sFour) .none kvm0 dcm0 pmm0 anm0 cdm0 ctm0), slm0⟩)
    (c_m0 : PySem.W.codeIn K cdm0 "Job.four" = true)
    (km0 : PySem.W.keepIn K (.ref fm0) = true)
    (am1 : PySem.W.findIn K (.ref CJ) "__len__" = some (some (.ref fm1)))
    (im1 : PySem.W.isFn K (.ref fm1) = true)
    (lm1 : K.lookup fm1 = some ⟨ocm1, odm1, .func (PySem.W.fnOf "__len__" "Job.__len__" (defArgs sLen) (defBody sLen) (defScope sLen) .none kvm1 dcm1 pmm1 anm1 cdm1 ctm1), slm1⟩)
    (c_m1 : PySem.W.codeIn K cdm1 "Job.__len__" = true)
    (km1 : PySem.W.keepIn K (.ref fm1) = true)
    (am2 : PySem.W.findIn K (.ref CJ) "__getitem__" = some (some (.ref fm2)))
    (im2 : PySem.W.isFn K (.ref fm2) = true)
    (lm2 : K.lookup fm2 = some ⟨ocm2, odm2, .func (PySem.W.fnOf "__getitem__" "Job.__getitem__" (defArgs sGet) (defBody sGet) (defScope sGet) .none kvm2 dcm2 pmm2 anm2 cdm2 ctm2), slm2⟩)
    (c_m2 : PySem.W.codeIn K cdm2 "Job.__getitem__" = true)
    (km2 : PySem.W.keepIn K (.ref fm2) = true)
    (am3 : PySem.W.findIn K (.ref CJ) "__eq__" = some (some (.ref fm3)))
    (im3 : PySem.W.isFn K (.ref fm3) = true)
    (lm3 : K.lookup fm3 = some ⟨ocm3, odm3, .func (PySem.W.fnOf "__eq__" "Job.__eq__" (defArgs sEq) (defBody sEq) (defScope sEq) .none kvm3 dcm3 pmm3 anm3 cdm3 ctm3), slm3⟩)
    (c_m3 : PySem.W.codeIn K cdm3 "Job.__eq__" = true)
    (km3 : PySem.W.keepIn K (.ref fm3) = true)
    (am4 : PySem.W.findIn K (.ref CJ) "but" = some (some (.ref fm4)))
    (im4 : PySem.W.isFn K (.ref fm4) = true)
    (lm4 : K.lookup fm4 = some ⟨ocm4, odm4, .func (PySem.W.fnOf "but" "Job.but" (defArgs sBut) (defBody sBut) (defScope sBut) .none kvm4 dcm4 pmm4 anm4 cdm4 ctm4), slm4⟩)
    (c_m4 : PySem.W.codeIn K cdm4 "Job.but" = true)
    (km4 : PySem.W.keepIn K (.ref fm4) = true)
    (am5 : PySem.W.findIn K (.ref CJ) "with_writer" = some (some (.ref fm5)))
    (im5 : PySem.W.isFn K (.ref fm5) = true)
    (lm5 : K.lookup fm5 = some ⟨ocm5, odm5, .func (PySem.W.fnOf "with_writer" "Job.with_writer" (defArgs sWith) (defBody sWith) (defScope sWith) .none kvm5 dcm5 pmm5 anm5 cdm5 ctm5), slm5⟩)
    (c_m5 : PySem.W.codeIn K cdm5 "Job.with_writer" = true)
    (km5 : PySem.W.keepIn K (.ref fm5) = true)
    (nG : PySem.W.fnIn K fm2 = true)
    (aI : PySem.W.findIn K (.ref CJ) "__init__" = some (some (.ref fI)))
    (iI : PySem.W.isFn K (.ref fI) = true)
    (lI : K.lookup fI = some ⟨ocI, odI, .func (PySem.W.fnOf "__init__" "Job.__init__" (defArgs sInit) (defBody sInit) (defScope sInit) .none (.ref DI) dcI pmI anI cdI ctI), slI⟩)
    (c_I : PySem.W.codeIn K cdI "Job.__init__" = true)
    (kI : PySem.W.keepIn K (.ref fI) = true)
    (d1 : PySem.W.nsIn K DI "writes" = some (some (.str "whole" tk1)))
    (d2 : PySem.W.nsIn K DI "before" = some (some (.int 0 tk2)))
    (d3 : PySem.W.nsIn K DI "falls" = some (some (.str "none" tk3)))
    (mkJ : PySem.W.makesIn K CJ = true)
    (kJ : PySem.W.keepIn K (.ref CJ) = true)
    (pgJ : PySem.W.plainGet K CJ Str.empty = true)
    (hdJ : PySem.W.hasDictIn K CJ = true)
    (poJ : PySem.W.plainOver K CJ = true)
    (saJ : PySem.W.findIn K (.ref CJ) "__setattr__" = some (some (.builtin "object.__setattr__")))
    (nW : PySem.W.findIn K (.ref CJ) "writers" = some none)
    (nR : PySem.W.findIn K (.ref CJ) "writes" = some none)
    (nB : PySem.W.findIn K (.ref CJ) "before" = some none)
    (nF : PySem.W.findIn K (.ref CJ) "falls" = some none)
    (caJ : PySem.W.findIn K (.ref CJ) "__class__" = some (some (.builtin "object.__class__")))
    (cnJ : PySem.W.specialIn K (.builtin "object.__class__") "__get__" = some (some (.builtin "getset_descriptor.__get__")))
    (ctJ : PySem.W.takesIn K (.builtin "object.__class__") = some true)
    (cmJ : PySem.W.mroIn K CJ (.type "object") = some true)
    (icJ : PySem.W.isClsIn K CJ = true)
    (tyJ : PySem.W.typeIn K (.ref CJ) = some (.type "type"))
    (siJ : PySem.W.subIn K (.type "int") (.ref CJ) = some false)
    (nfJ : PySem.W.notFirst K CJ (.ref CJ) = true)
    (niJ : PySem.W.notFirst K CJ (.type "int") = true)
    (xJ : K.lookup CJ = some (excClassObj nmJ qJ CJ NJ bsJ [.type "object"] hJ snJ subJ abJ colJ ddJ j0 j1 j2 j3 j5 "object.__new__"))
    (okJ : PySem.W.nsOkIn K NJ = true)
    (eqJ : PySem.W.nsIn K NJ "__eq__" = some (some (.ref fm3)))
    (neJ : PySem.W.nsIn K NJ "__ne__" = some none)
    (tyE : ocm3 = .type "function")
    (z_isi : PySem.W.nsIn K mainGlobals "isinstance" = some none)
    (z_int : PySem.W.nsIn K mainGlobals "int" = some none)
    (z_bool : PySem.W.nsIn K mainGlobals "bool" = some none)
    (z_tuple : PySem.W.nsIn K mainGlobals "tuple" = some none)
    (z_str : PySem.W.nsIn K mainGlobals "str" = some none)
    (z_len : PySem.W.nsIn K mainGlobals "len" = some none)
    (z_all : PySem.W.nsIn K mainGlobals "all" = some none)
    (z_sum : PySem.W.nsIn K mainGlobals "sum" = some none)
    (z_zip : PySem.W.nsIn K mainGlobals "zip" = some none)
    (z_dict : PySem.W.nsIn K mainGlobals "dict" = some none)
    (z_list : PySem.W.nsIn K mainGlobals "list" = some none)
    (z_min : PySem.W.nsIn K mainGlobals "min" = some none)
    (z_range : PySem.W.nsIn K mainGlobals "range" = some none)
    (z_enum : PySem.W.nsIn K mainGlobals "enumerate" = some none)
    (z_super : PySem.W.nsIn K mainGlobals "super" = some none)
    (cl : PySem.W.nsIn K mainGlobals "MOST_LINES" = some (some (.int 3 t_cl)))
    (cp : PySem.W.nsIn K mainGlobals "MOST_PARTS" = some (some (.int 4 t_cp)))
    (cw : PySem.W.nsIn K mainGlobals "MOST_WRITERS" = some (some (.int 3 t_cw)))
    (ctg : PySem.W.nsIn K mainGlobals "MOST_TOGETHER" = some (some (.int 6 t_ctg)))
    (cb : PySem.W.nsIn K mainGlobals "MOST_BEFORE" = some (some (.int 2 t_cb)))
    (aM : PySem.W.nsIn K mainGlobals "MANNERS" = some (some (.ref mM)))
    (L_mM : K.lookup mM = some ⟨.type "tuple", td_mM, .seq #[.ref m0, .ref m1, .ref m2] tn_mM, ts_mM⟩)
    (L_m0 : K.lookup m0 = some ⟨.type "tuple", td_m0, .seq #[.str "end" tt_m00, .str "own" tt_m01, .str "sought" tt_m02] tn_m0, ts_m0⟩)
    (L_m1 : K.lookup m1 = some ⟨.type "tuple", td_m1, .seq #[.str "block" tt_m10, .str "line" tt_m11, .str "part" tt_m12] tn_m1, ts_m1⟩)
    (L_m2 : K.lookup m2 = some ⟨.type "tuple", td_m2, .seq #[.str "empties" tt_m20, .str "leaves" tt_m21] tn_m2, ts_m2⟩)
    (aP : PySem.W.nsIn K mainGlobals "PARTS" = some (some (.ref mP)))
    (L_mP : K.lookup mP = some ⟨.type "tuple", td_mP, .seq #[.str "writers" tt_mP0, .str "writes" tt_mP1, .str "before" tt_mP2, .str "falls" tt_mP3] tn_mP, ts_mP⟩)
    (aR : PySem.W.nsIn K mainGlobals "RULES" = some (some (.ref mR)))
    (L_R : K.lookup mR = some ⟨.type "dict", none, .dict esR nR_, #[]⟩)
    (keysR : PySem.W.KeysLit w.params esR.toList)
    (lowR : (mR == sysModules) = false)
    (rW : PySem.W.nsIn K mR "writes" = some (some (.ref r0)))
    (rF : PySem.W.nsIn K mR "falls" = some (some (.ref r1)))
    (rB : PySem.W.nsIn K mR "before" = some (some uB0))
    (rx1 : PySem.W.nsIn K mR "writers" = some none)
    (rx2 : PySem.W.nsIn K mR "" = some none)
    (rx3 : PySem.W.nsIn K mR "Falls" = some none)
    (L_r0 : K.lookup r0 = some ⟨.type "tuple", td_r0, .seq #[.str "pieces" tt_r00, .str "whole" tt_r01] tn_r0, ts_r0⟩)
    (L_r1 : K.lookup r1 = some ⟨.type "tuple", td_r1, .seq #[.str "none" tt_r10, .str "some" tt_r11] tn_r1, ts_r1⟩)
    (gB : PySem.W.nsIn K mainGlobals "BadJob" = some (some (.ref CB)))
    (xB : K.lookup CB = some (excClassObj nmB qB CB NB bsB bmB true snB subB abB colB ddB e0 e1 e2 e3 e5 "ValueError.__new__"))
    (rvB : PySem.HandSPX.refsVE bmB = true)
    (saB : PySem.W.findIn K (.ref CB) "__setattr__" = some (some (.builtin "object.__setattr__")))
    (gaB : PySem.W.findIn K (.ref CB) "__getattribute__" = some (some (.builtin "BaseException.__getattribute__")))
    (ggB : PySem.W.findIn K (.ref CB) "__getattr__" = some none)
    (noB : PySem.W.findIn K (.ref CB) "part" = some none)
    (iB : PySem.W.findIn K (.ref CB) "__init__" = some (some (.ref fB)))
    (tB : PySem.W.typeIn K (.ref fB) = some (.type "function"))
    (kB : PySem.W.keepIn K (.ref CB) = true)
    (exB : PySem.W.subIn K (.ref CB) (.type "BaseException") = some true)
    (tyB : PySem.W.typeIn K (.ref CB) = some (.type "type"))
    (hdB : PySem.W.hasDictIn K CB = true)
    (spB : PySem.W.ks_superIn K CB CB "__init__" = some (some (.builtin "ValueError.__init__")))
    (svB : PySem.W.subIn K (.ref CB) (.type "ValueError") = some true)
    (mrB : PySem.W.mroIn K CB (.ref CB) = some true)
    (opB : PySem.W.nsIn K cStatics "thirdparty.any" = some none)
    (lB : K.lookup fB = some ⟨ocB, odB, .func (PySem.W.ksFn "__init__" "BadJob.__init__" (defArgs sBadInit) (defBody sBadInit) (defScope sBadInit) .none .none dcB pmB anB (.ref cdB) ctB ccB), slB⟩)
    (ceB : K.lookup ccB = some ⟨clB, cldB, .cell (some (.ref CB)), cslB⟩)
    (coB : K.lookup cdB = some ⟨cclB, cddB, .fields vsB, ccsB⟩)
    (v2B : vsB[2]? = some (.str fileB tfB))
    (fiB : ((P.main.file : Str) == fileB) = true)
    (toB : (P.main.scope.names.lookup ("super" : Str)).isSome = false)
    (c_B : PySem.W.codeIn K (.ref cdB) "BadJob.__init__" = true)
    (icB : PySem.W.isClsIn K CB = true)
    (sbB : PySem.W.subIn K (.ref CB) (.ref CB) = some true)
    (gN : PySem.W.nsIn K mainGlobals "BadNumber" = some (some (.ref CN)))
    (exN : PySem.W.excIn K CN [.type "ValueError", .type "Exception", .type "BaseException", .type "object"] "ValueError.__new__" = true)
    (kN : PySem.W.keepIn K (.ref CN) = true)
    (sbN : PySem.W.subIn K (.ref CN) (.type "BaseException") = some true)
    (tyN : PySem.W.typeIn K (.ref CN) = some (.type "type"))
    (icN : PySem.W.isClsIn K CN = true)
    (snB_ : PySem.W.subIn K (.ref CN) (.ref CB) = some false)
    (snN : PySem.W.subIn K (.ref CN) (.ref CN) = some true)
    : ∃ fd : FuncData, (∀ (s : Shared) (u : Value), BindsTo s fd ⟨[u], []⟩ [("_law_script", u)]) ∧ ∀ (P1 P2 P3 : Addr), P1 ≠ P2 → P1 ≠ P3 → P2 ≠ P3 → ∀ base : Heap, K.In base → base.Ns mainGlobals mg → TabB base mg c1 P1 → TabB base mg c2 P2 → TabB base mg c3 P3 →
      FnOk P w K mg base CX0 11 fa fd ["_law_script"] (spLaw K (lamT P1 P2 P3)) := by
  have e := hfa.symm.trans (PySem.W.mg_of X G a14)
  cases e
  have gl : ∀ {n : Str} {v : Value}, PySem.W.nsIn K mainGlobals n = some (some v) → mg n = some v := fun e => PySem.W.mg_of X G e
  have no : ∀ {n : Str}, PySem.W.nsIn K mainGlobals n = some none → mg n = none := fun e => PySem.W.mg_none_of X G e
  have B : Blt mg := ⟨no z_isi, no z_int, no z_bool, no z_tuple, no z_str, no z_len, no z_all, no z_sum, no z_zip, no z_dict, no z_list, no z_min, no z_range, no z_enum, no z_super⟩
  have F0 := fun_mk (st := sIsNumber) l0 c_0 k0
  have b0 := F0.binds (ps := ["thing", "low", "high"]) fun _ _ _ _ _ _ us hl => match us, hl with | [_, _, _], _ => rfl
  have F1 := fun_mk (st := sAreLines) l1 c_1 k1
  have b1 := F1.binds (ps := ["thing"]) fun _ _ _ _ _ _ us hl => match us, hl with | [_], _ => rfl
  have F2 := fun_mk (st := sIsWriter) l2 c_2 k2
  have b2 := F2.binds (ps := ["thing"]) fun _ _ _ _ _ _ us hl => match us, hl with | [_], _ => rfl
  have F3 := fun_mk (st := sAreWriters) l3 c_3 k3
  have b3 := F3.binds (ps := ["thing"]) fun _ _ _ _ _ _ us hl => match us, hl with | [_], _ => rfl
  have F4 := fun_mk (st := sIsRule) l4 c_4 k4
  have b4 := F4.binds (ps := ["name", "thing"]) fun _ _ _ _ _ _ us hl => match us, hl with | [_, _], _ => rfl
  have F5 := fun_mk (st := sNumber) l5 c_5 k5
  have b5 := F5.binds (ps := ["_law_script", "_law_index"]) fun _ _ _ _ _ _ us hl => match us, hl with | [_, _], _ => rfl
  have F6 := fun_mk (st := sTake) l6 c_6 k6
  have b6 := F6.binds (ps := ["_law_draw", "_law_many"]) fun _ _ _ _ _ _ us hl => match us, hl with | [_, _], _ => rfl
  have F7 := fun_mk (st := sPick) l7 c_7 k7
  have b7 := F7.binds (ps := ["_law_draw", "_law_things"]) fun _ _ _ _ _ _ us hl => match us, hl with | [_, _], _ => rfl
  have F8 := fun_mk (st := sWriter) l8 c_8 k8
  have b8 := F8.binds (ps := ["_law_draw", "_law_most"]) fun _ _ _ _ _ _ us hl => match us, hl with | [_, _], _ => rfl
  have F9 := fun_mk (st := sParts) l9 c_9 k9
  have b9 := F9.binds (ps := ["_law_draw", "_law_most"]) fun _ _ _ _ _ _ us hl => match us, hl with | [_, _], _ => rfl
  have F10 := fun_mk (st := sMade) l10 c_10 k10
  have b10 := F10.binds (ps := ["_law_parts_here"]) fun _ _ _ _ _ _ us hl => match us, hl with | [_], _ => rfl
  have F11 := fun_mk (st := sWrong) l11 c_11 k11
  have b11 := F11.binds (ps := ["_law_ask"]) fun _ _ _ _ _ _ us hl => match us, hl with | [_], _ => rfl
  have Fm0 := fun_mk (st := sFour) lm0 c_m0 km0
  have bm0 := Fm0.binds (ps := ["self"]) fun _ _ _ _ _ _ us hl => match us, hl with | [_], _ => rfl
  have Mm0 : Meth K CJ "four" fm0 := ⟨am0, im0, km0⟩
  have Fm1 := fun_mk (st := sLen) lm1 c_m1 km1
  have bm1 := Fm1.binds (ps := ["self"]) fun _ _ _ _ _ _ us hl => match us, hl with | [_], _ => rfl
  have Mm1 : Meth K CJ "__len__" fm1 := ⟨am1, im1, km1⟩
  have Fm2 := fun_mk (st := sGet) lm2 c_m2 km2
  have bm2 := Fm2.binds (ps := ["self", "number"]) fun _ _ _ _ _ _ us hl => match us, hl with | [_, _], _ => rfl
  have Mm2 : Meth K CJ "__getitem__" fm2 := ⟨am2, im2, km2⟩
  have Fm3 := fun_mk (st := sEq) lm3 c_m3 km3
  have bm3 := Fm3.binds (ps := ["self", "other"]) fun _ _ _ _ _ _ us hl => match us, hl with | [_, _], _ => rfl
  have Mm3 : Meth K CJ "__eq__" fm3 := ⟨am3, im3, km3⟩
  have Fm4 := fun_mk (st := sBut) lm4 c_m4 km4
  have bm4 := Fm4.binds (ps := ["self", "name", "thing"]) fun _ _ _ _ _ _ us hl => match us, hl with | [_, _, _], _ => rfl
  have Mm4 : Meth K CJ "but" fm4 := ⟨am4, im4, km4⟩
  have Fm5 := fun_mk (st := sWith) lm5 c_m5 km5
  have bm5 := Fm5.binds (ps := ["self", "number", "writer"]) fun _ _ _ _ _ _ us hl => match us, hl with | [_, _, _], _ => rfl
  have Mm5 : Meth K CJ "with_writer" fm5 := ⟨am5, im5, km5⟩
  have F12 := fun_mk (st := sWR) l12 c_12 k12
  have b12 := F12.binds (ps := ["_law_draw"]) fun _ _ _ _ _ _ us hl => match us, hl with | [_], _ => rfl
  have F13 := fun_mk (st := sRR) l13 c_13 k13
  have b13 := F13.binds (ps := ["_law_draw", "_law_parts_here", "_law_other"]) fun _ _ _ _ _ _ us hl => match us, hl with | [_, _, _], _ => rfl
  have FI : FunD K "__init__" "Job.__init__" (defArgs sInit) (defBody sInit) (defScope sInit) [] jKw fI _ := ⟨⟨_, _, _, _, _, _, _, _, _, _, rfl, lI, c_I, .inl ⟨rfl, rfl⟩, .inr ⟨DI, rfl, fun q hq => by
    rcases List.mem_cons.mp hq with rfl | hq
    · exact ⟨_, d1, ⟨_, rfl⟩⟩
    rcases List.mem_cons.mp hq with rfl | hq
    · exact ⟨_, d2, ⟨_, rfl⟩⟩
    rw [List.mem_singleton.mp hq]
    exact ⟨_, d3, ⟨_, rfl⟩⟩⟩⟩, kI⟩
  obtain ⟨dsI, vI, bI⟩ := FI.binds0 (ps := jP) 2 (by decide) rfl fun D doc pm an cdv ct us ks h1 h2 => match us, ks, h1, h2 with | [_, _], [_, _, _], _, _ => ⟨_, _, _, _, _, _, rfl, rfl, _, _, _, _, _, _, rfl, rfl, _, _, _, _, _, _, rfl, rfl, rfl⟩
  have MJ : Mk K CJ fI := ⟨mkJ, aI, iI, kJ⟩
  have JT : JobT K mg CJ := ⟨⟨pgJ, hdJ, poJ, saJ⟩, nW, nR, nB, nF, gl aJ⟩
  have JI : JobI K CJ := ⟨caJ, cnJ, ctJ, cmJ, kit_of_sub (by rfl) icJ tyJ siJ, nfJ, niJ⟩
  subst tyE
  have EN : EqNoNe K CJ fm3 := ⟨⟨_, _, _, _, _, _, _, _, _, _, _, _, _, _, _, xJ, okJ, eqJ, neJ⟩, ⟨_, _, _, lm3⟩⟩
  have TB : PySem.BadX.BadTxt P K mg CB fB ccB cdB :=
    { gC := gl gB, cls := ⟨_, _, _, _, _, _, _, _, _, _, _, _, _, _, _, xB, rvB⟩, sa := saB, ga := gaB, gg := ggB, noN := noB, iC := iB, tC := tB, kC := kB, exC := exB, tyC := tyB, hdC := hdB, sup := spB, subV := svB, mroC := mrB, opq := opB, nosup := no z_super,
      cell := ⟨_, _, _, ceB⟩, code := ⟨_, _, _, _, _, _, coB, v2B, fiB⟩, htop := toB, fn := ⟨_, _, _, _, _, _, _, lB, c_B⟩ }
  have TN : NumT K mg CN := ⟨gl gN, exN, kN, sbN, tyN⟩
  have EM : ExcM K CB CN := ⟨exm_of exB exB icB tyB sbB, exm_of sbN exB icB tyB snB_, exm_of sbN sbN icN tyN snN⟩
  have MM : Man K mg := ⟨mM, m0, m1, m2, gl aM, tup_ref3 L_mM, tup_str3 L_m0, tup_str3 L_m1, tup_str2 L_m2⟩
  have PP : Par K mg := ⟨mP, gl aP, tup_str4 L_mP⟩
  have RR : Rul K w mg := ⟨mR, r0, r1, gl aR, ⟨_, _, _, L_R, keysR, rW, rfl⟩, ⟨_, _, _, L_R, keysR, rF, rfl⟩, tup_str2 L_r0, tup_str2 L_r1⟩
  have RD : RulD K w mg := ⟨mR, _, _, gl aR, ⟨L_R, keysR, lowR⟩, fun z hz => by
      rcases List.mem_cons.mp hz with rfl | hz
      · exact rx1
      rcases List.mem_cons.mp hz with rfl | hz
      · exact rx2
      rw [List.mem_singleton.mp hz]
      exact rx3, fun z hz => by
      rcases List.mem_cons.mp hz with rfl | hz
      · exact ⟨_, rW⟩
      rcases List.mem_cons.mp hz with rfl | hz
      · exact ⟨_, rB⟩
      rw [List.mem_singleton.mp hz]
      exact ⟨_, rF⟩⟩
  refine ⟨PySem.W.fnOf "law" "law" (defArgs sLaw) (defBody sLaw) (defScope sLaw) .none kv14 dc14 pm14 an14 (.ref c3) ct14, fun s v => .of_eq rfl, fun P1 P2 P3 h12 h13 h23 base XB GB T1 T2 T3 => ?_⟩
  obtain ⟨u1, u2, u3⟩ := lamT_u h12 h13 h23
  have m1' : (P1, ("_law_writers_right.<locals>.<lambda>" : Str)) ∈ lamT P1 P2 P3 := List.mem_cons_self
  have m2' : (P2, ("_law_rules_right.<locals>.<lambda>" : Str)) ∈ lamT P1 P2 P3 := List.mem_cons_of_mem _ List.mem_cons_self
  have m3' : (P3, ("law.<locals>.<lambda>" : Str)) ∈ lamT P1 P2 P3 := List.mem_cons_of_mem _ (List.mem_cons_of_mem _ List.mem_cons_self)
  have GNum : FnOk P w K mg base CX0 1 f0 _ ["thing", "low", "high"] (spNum K) := ok_num F0 B
  have GLines : FnOk P w K mg base CX0 2 f1 _ ["thing"] (spD K linesOk) := ok_lines F1 B F0 (gl a0) b0 ⟨_, gl cl⟩ ⟨_, gl cp⟩
  have GWr : FnOk P w K mg base CX0 3 f2 _ ["thing"] (spD K writerOk) := ok_writer F2 B GLines k1 (gl a1) b1 MM
  have GWs : FnOk P w K mg base CX0 4 f3 _ ["thing"] (spD K writersOk) := ok_writers F3 B GWr k2 (gl a2) b2 ⟨_, gl cw⟩ ⟨_, gl ctg⟩
  have GRule : FnOk P w K mg base CX0 2 f4 _ ["name", "thing"] (spRule K) := ok_rule F4 B GNum k0 (gl a0) b0 ⟨_, gl cb⟩ RR
  have GI : FnOk P w K mg base (L2.CX P w) 5 fI _ jP (spJob K CJ CB) := ok_init FI B JT TB PP GWs k3 (gl a3) b3 GRule k4 (gl a4) b4
  have G4 : FnOk P w K mg base CX0 1 fm0 _ ["self"] (spFour CJ) := ok_four Fm0 JT
  have GL : FnOk P w K mg base CX0 1 fm1 _ ["self"] (spLen K CJ) := ok_len Fm1 B JT
  have GG : FnOk P w K mg base (L2.CX P w) 2 fm2 _ ["self", "number"] (spGet K CJ CN) := ok_get Fm2 B JT TN GNum k0 (gl a0) b0
  have GE : FnOk P w K mg base CX0 2 fm3 _ ["self", "other"] (spEq K CJ) := ok_eq Fm3 B JT JI G4 Mm0 bm0
  have GB' : FnOk P w K mg base (L2.CX P w) 7 fm4 _ ["self", "name", "thing"] (spBut K CJ CB) := ok_but Fm4 B JT TB PP RD G4 Mm0 bm0 GI MJ FI
  have GH : FnOk P w K mg base (L2.CX P w) 7 fm5 _ ["self", "number", "writer"] (spWith K CJ CB CN) := ok_with Fm5 B JT TN GNum k0 (gl a0) b0 GI MJ FI
  have GNo : FnOk P w K mg base CX0 1 f5 _ ["_law_script", "_law_index"] (spNumber K) := ok_number F5 B
  have GT : FnOk P w K mg base CX0 2 f6 _ ["_law_draw", "_law_many"] (spTake K) := ok_take F6 B GNo k5 (gl a5) b5
  have GP : FnOk P w K mg base CX0 3 f7 _ ["_law_draw", "_law_things"] (spPick K) := ok_pick F7 B GT k6 (gl a6) b6
  have GDW : FnOk P w K mg base CX0 4 f8 _ ["_law_draw", "_law_most"] (spWriter K) := ok_drawW F8 B GP k7 (gl a7) b7
  have GV : FnOk P w K mg base CX0 5 f9 _ ["_law_draw", "_law_most"] (spParts K) := ok_parts F9 B GP k7 (gl a7) b7 GDW k8 (gl a8) b8 GT k6 (gl a6) b6
  have GM : FnOk P w K mg base (L2.CX P w) 7 f10 _ ["_law_parts_here"] (spMade K CJ CB) := ok_made F10 JT GI MJ FI
  have GX : FnOk P w K mg base CX0 9 f12 _ ["_law_draw"] (spWR (lamT P1 P2 P3)) := ok_WR l12 c_12 B JT TB TN EM T1 m1' u1 rfl F11 (gl a11) b11 GI MJ bI vI
  have GR : FnOk P w K mg base CX0 10 f13 _ ["_law_draw", "_law_parts_here", "_law_other"] (spRR K (lamT P1 P2 P3)) := ok_RR l13 c_13 B JT TB TN EM T2 m2' u2 rfl F11 (gl a11) b11 GM k10 (gl a10) b10 GP k7 (gl a7) b7 GB' Mm4 bm4 GE bm3 EN
  exact ok_law l14 c_14 B JT JI TB TN EM T3 m3' u3 rfl F11 (gl a11) b11 GM k10 (gl a10) b10 GP k7 (gl a7) b7 GT k6 (gl a6) b6 GV k9 (gl a9) b9 GR k13 (gl a13) b13 GX k12 (gl a12) b12 GB' Mm4 bm4 GH Mm5 bm5 GL Mm1 bm1 GG Mm2 nG bm2 GE Mm3 bm3 EN GI MJ bI vI FI
/-- the same, as the end asks it -/
theorem law_at {l : PySem.W.OpenLaw} {w : World} {K : PySem.W.Frag} {h : Heap} {mg : Str → Option Value} {fa P1 P2 P3 : Addr} (X : K.In h) (G : h.Ns mainGlobals mg) (hfa : mg "law" = some (.ref fa))
    {f0 f1 f2 f3 f4 f5 f6 f7 f8 f9 f10 f11 f12 c1 f13 c2 f14 c3 CJ fm0 fm1 fm2 fm3 fm4 fm5 fI DI NJ mM m0 m1 m2 mP mR r0 r1 CB fB ccB cdB NB CN : Addr} {od0 an0 od1 an1 od2 an2 od3 an3 od4 an4 od5 an5 od6 an6 od7 an7 od8 an8 od9 an9 od10 an10 od11 an11 od12 an12 od13 an13 od14 an14 odm0 anm0 odm1 anm1 odm2 anm2 odm3 anm3 odm4 anm4 odm5 anm5 odI anI ddJ td_mM td_m0 td_m1 td_m2 td_mP td_r0 td_r1 ddB odB anB cldB cddB : Option Addr} {sl0 sl1 sl2 sl3 sl4 sl5 sl6 sl7 sl8 sl9 sl10 sl11 sl12 sl13 sl14 slm0 slm1 slm2 slm3 slm4 slm5 slI ts_mM ts_m0 ts_m1 ts_m2 ts_mP ts_r0 ts_r1 slB cslB ccsB : Array (Option Value)} {oc0 kv0 dc0 pm0 ct0 cd0 oc1 kv1 dc1 pm1 ct1 cd1 oc2 kv2 dc2 pm2 ct2 cd2 oc3 kv3 dc3 pm3 ct3 cd3 oc4 kv4 dc4 pm4 ct4 cd4 oc5 kv5 dc5 pm5 ct5 cd5 oc6 kv6 dc6 pm6 ct6 cd6 oc7 kv7 dc7 pm7 ct7 cd7 oc8 kv8 dc8 pm8 ct8 cd8 oc9 kv9 dc9 pm9 ct9 cd9 oc10 kv10 dc10 pm10 ct10 cd10 oc11 kv11 dc11 pm11 ct11 cd11 oc12 kv12 dc12 pm12 ct12 oc13 kv13 dc13 pm13 ct13 oc14 kv14 dc14 pm14 ct14 ocm0 kvm0 dcm0 pmm0 ctm0 cdm0 ocm1 kvm1 dcm1 pmm1 ctm1 cdm1 ocm2 kvm2 dcm2 pmm2 ctm2 cdm2 ocm3 kvm3 dcm3 pmm3 ctm3 cdm3 ocm4 kvm4 dcm4 pmm4 ctm4 cdm4 ocm5 kvm5 dcm5 pmm5 ctm5 cdm5 ocI dcI pmI ctI cdI uB0 ocB dcB pmB ctB clB cclB : Value} {nmJ qJ nmB qB fileB : Str} {bsJ subJ bsB bmB subB : List Value} {snJ snB : List Str} {hJ abJ abB : Bool} {colJ colB : Option Bool} {j0 j1 j2 j3 j5 e0 e1 e2 e3 e5 : Option Value} {tk1 tk2 tk3 t_cl t_cp t_cw t_ctg t_cb tt_m00 tt_m01 tt_m02 tt_m10 tt_m11 tt_m12 tt_m20 tt_m21 tt_mP0 tt_mP1 tt_mP2 tt_mP3 tt_r00 tt_r01 tt_r10 tt_r11 tfB : Tok} {tn_mM tn_m0 tn_m1 tn_m2 tn_mP nR_ tn_r0 tn_r1 : Nat} {vsB : Array Value} {esR : Array DictEntry}
    (a0 : PySem.W.nsIn K mainGlobals "is_number" = some (some (.ref f0)))
    (l0 : K.lookup f0 = some ⟨oc0, od0, .func (PySem.W.fnOf "is_number" "is_number" (defArgs sIsNumber) (defBody sIsNumber) (defScope sIsNumber) .none kv0 dc0 pm0 an0 cd0 ct0), sl0⟩)
    (c_0 : PySem.W.codeIn K cd0 "is_number" = true)
    (k0 : PySem.W.keepIn K (.ref f0) = true)
    (a1 : PySem.W.nsIn K mainGlobals "are_lines" = some (some (.ref f1)))
    (l1 : K.lookup f1 = some ⟨oc1, od1, .func (PySem.W.fnOf "are_lines" "are_lines" (defArgs sAreLines) (defBody sAreLines) (defScope sAreLines) .none kv1 dc1 pm1 an1 cd1 ct1), sl1⟩)
    (c_1 : PySem.W.codeIn K cd1 "are_lines" = true)
    (k1 : PySem.W.keepIn K (.ref f1) = true)
    (a2 : PySem.W.nsIn K mainGlobals "is_writer" = some (some (.ref f2)))
    (l2 : K.lookup f2 = some ⟨oc2, od2, .func (PySem.W.fnOf "is_writer" "is_writer" (defArgs sIsWriter) (defBody sIsWriter) (defScope sIsWriter) .none kv2 dc2 pm2 an2 cd2 ct2), sl2⟩)
    (c_2 : PySem.W.codeIn K cd2 "is_writer" = true)
    (k2 : PySem.W.keepIn K (.ref f2) = true)
    (a3 : PySem.W.nsIn K mainGlobals "are_writers" = some (some (.ref f3)))
    (l3 : K.lookup f3 = some ⟨oc3, od3, .func (PySem.W.fnOf "are_writers" "are_writers" (defArgs sAreWriters) (defBody sAreWriters) (defScope sAreWriters) .none kv3 dc3 pm3 an3 cd3 ct3), sl3⟩)
    (c_3 : PySem.W.codeIn K cd3 "are_writers" = true)
    (k3 : PySem.W.keepIn K (.ref f3) = true)
    (a4 : PySem.W.nsIn K mainGlobals "is_rule" = some (some (.ref f4)))
    (l4 : K.lookup f4 = some ⟨oc4, od4, .func (PySem.W.fnOf "is_rule" "is_rule" (defArgs sIsRule) (defBody sIsRule) (defScope sIsRule) .none kv4 dc4 pm4 an4 cd4 ct4), sl4⟩)
    (c_4 : PySem.W.codeIn K cd4 "is_rule" = true)
    (k4 : PySem.W.keepIn K (.ref f4) = true)
    (a5 : PySem.W.nsIn K mainGlobals "_law_number" = some (some (.ref f5)))
    (l5 : K.lookup f5 = some ⟨oc5, od5, .func (PySem.W.fnOf "_law_number" "_law_number" (defArgs sNumber) (defBody sNumber) (defScope sNumber) .none kv5 dc5 pm5 an5 cd5 ct5), sl5⟩)
    (c_5 : PySem.W.codeIn K cd5 "_law_number" = true)
    (k5 : PySem.W.keepIn K (.ref f5) = true)
    (a6 : PySem.W.nsIn K mainGlobals "_law_take" = some (some (.ref f6)))
    (l6 : K.lookup f6 = some ⟨oc6, od6, .func (PySem.W.fnOf "_law_take" "_law_take" (defArgs sTake) (defBody sTake) (defScope sTake) .none kv6 dc6 pm6 an6 cd6 ct6), sl6⟩)
    (c_6 : PySem.W.codeIn K cd6 "_law_take" = true)
    (k6 : PySem.W.keepIn K (.ref f6) = true)
    (a7 : PySem.W.nsIn K mainGlobals "_law_pick" = some (some (.ref f7)))
    (l7 : K.lookup f7 = some ⟨oc7, od7, .func (PySem.W.fnOf "_law_pick" "_law_pick" (defArgs sPick) (defBody sPick) (defScope sPick) .none kv7 dc7 pm7 an7 cd7 ct7), sl7⟩)
    (c_7 : PySem.W.codeIn K cd7 "_law_pick" = true)
    (k7 : PySem.W.keepIn K (.ref f7) = true)
    (a8 : PySem.W.nsIn K mainGlobals "_law_writer" = some (some (.ref f8)))
    (l8 : K.lookup f8 = some ⟨oc8, od8, .func (PySem.W.fnOf "_law_writer" "_law_writer" (defArgs sWriter) (defBody sWriter) (defScope sWriter) .none kv8 dc8 pm8 an8 cd8 ct8), sl8⟩)
    (c_8 : PySem.W.codeIn K cd8 "_law_writer" = true)
    (k8 : PySem.W.keepIn K (.ref f8) = true)
    (a9 : PySem.W.nsIn K mainGlobals "_law_parts" = some (some (.ref f9)))
    (l9 : K.lookup f9 = some ⟨oc9, od9, .func (PySem.W.fnOf "_law_parts" "_law_parts" (defArgs sParts) (defBody sParts) (defScope sParts) .none kv9 dc9 pm9 an9 cd9 ct9), sl9⟩)
    (c_9 : PySem.W.codeIn K cd9 "_law_parts" = true)
    (k9 : PySem.W.keepIn K (.ref f9) = true)
    (a10 : PySem.W.nsIn K mainGlobals "_law_made" = some (some (.ref f10)))
    (l10 : K.lookup f10 = some ⟨oc10, od10, .func (PySem.W.fnOf "_law_made" "_law_made" (defArgs sMade) (defBody sMade) (defScope sMade) .none kv10 dc10 pm10 an10 cd10 ct10), sl10⟩)
    (c_10 : PySem.W.codeIn K cd10 "_law_made" = true)
    (k10 : PySem.W.keepIn K (.ref f10) = true)
    (a11 : PySem.W.nsIn K mainGlobals "_law_wrong" = some (some (.ref f11)))
    (l11 : K.lookup f11 = some ⟨oc11, od11, .func (PySem.W.fnOf "_law_wrong" "_law_wrong" (defArgs sWrong) (defBody sWrong) (defScope sWrong) .none kv11 dc11 pm11 an11 cd11 ct11), sl11⟩)
    (c_11 : PySem.W.codeIn K cd11 "_law_wrong" = true)
    (k11 : PySem.W.keepIn K (.ref f11) = true)
    (a12 : PySem.W.nsIn K mainGlobals "_law_writers_right" = some (some (.ref f12)))
    (l12 : K.lookup f12 = some ⟨oc12, od12, .func (PySem.W.fnOf "_law_writers_right" "_law_writers_right" (defArgs sWR) (defBody sWR) (defScope sWR) .none kv12 dc12 pm12 an12 (.ref c1) ct12), sl12⟩)
    (c_12 : PySem.W.codeIn K (.ref c1) "_law_writers_right" = true)
    (k12 : PySem.W.keepIn K (.ref f12) = true)
    (a13 : PySem.W.nsIn K mainGlobals "_law_rules_right" = some (some (.ref f13)))
    (l13 : K.lookup f13 = some ⟨oc13, od13, .func (PySem.W.fnOf "_law_rules_right" "_law_rules_right" (defArgs sRR) (defBody sRR) (defScope sRR) .none kv13 dc13 pm13 an13 (.ref c2) ct13), sl13⟩)
    (c_13 : PySem.W.codeIn K (.ref c2) "_law_rules_right" = true)
    (k13 : PySem.W.keepIn K (.ref f13) = true)
    (a14 : PySem.W.nsIn K mainGlobals "law" = some (some (.ref f14)))
    (l14 : K.lookup f14 = some ⟨oc14, od14, .func (PySem.W.fnOf "law" "law" (defArgs sLaw) (defBody sLaw) (defScope sLaw) .none kv14 dc14 pm14 an14 (.ref c3) ct14), sl14⟩)
    (c_14 : PySem.W.codeIn K (.ref c3) "law" = true)
    (k14 : PySem.W.keepIn K (.ref f14) = true)
    (aJ : PySem.W.nsIn K mainGlobals "Job" = some (some (.ref CJ)))
    (am0 : PySem.W.findIn K (.ref CJ) "four" = some (some (.ref fm0)))
    (im0 : PySem.W.isFn K (.ref fm0) = true)
    (lm0 : K.lookup fm0 = some ⟨ocm0, odm0, .func (PySem.W.fnOf "four" "Job.four" (defArgs sFour) (defBody sFour) (defScope sFour) .none kvm0 dcm0 pmm0 anm0 cdm0 ctm0), slm0⟩)
    (c_m0 : PySem.W.codeIn K cdm0 "Job.four" = true)
    (km0 : PySem.W.keepIn K (.ref fm0) = true)
    (am1 : PySem.W.findIn K (.ref CJ) "__len__" = some (some (.ref fm1)))
    (im1 : PySem.W.isFn K (.ref fm1) = true)
    (lm1 : K.lookup fm1 = some ⟨ocm1, odm1, .func (PySem.W.fnOf "__len__" "Job.__len__" (defArgs sLen) (defBody sLen) (defScope sLen) .none kvm1 dcm1 pmm1 anm1 cdm1 ctm1), slm1⟩)
    (c_m1 : PySem.W.codeIn K cdm1 "Job.__len__" = true)
    (km1 : PySem.W.keepIn K (.ref fm1) = true)
    (am2 : PySem.W.findIn K (.ref CJ) "__getitem__" = some (some (.ref fm2)))
    (im2 : PySem.W.isFn K (.ref fm2) = true)
    (lm2 : K.lookup fm2 = some ⟨ocm2, odm2, .func (PySem.W.fnOf "__getitem__" "Job.__getitem__" (defArgs sGet) (defBody sGet) (defScope sGet) .none kvm2 dcm2 pmm2 anm2 cdm2 ctm2), slm2⟩)
    (c_m2 : PySem.W.codeIn K cdm2 "Job.__getitem__" = true)
    (km2 : PySem.W.keepIn K (.ref fm2) = true)
    (am3 : PySem.W.findIn K (.ref CJ) "__eq__" = some (some (.ref fm3)))
    (im3 : PySem.W.isFn K (.ref fm3) = true)
    (lm3 : K.lookup fm3 = some ⟨ocm3, odm3, .func (PySem.W.fnOf "__eq__" "Job.__eq__" (defArgs sEq) (defBody sEq) (defScope sEq) .none kvm3 dcm3 pmm3 anm3 cdm3 ctm3), slm3⟩)
    (c_m3 : PySem.W.codeIn K cdm3 "Job.__eq__" = true)
    (km3 : PySem.W.keepIn K (.ref fm3) = true)
    (am4 : PySem.W.findIn K (.ref CJ) "but" = some (some (.ref fm4)))
    (im4 : PySem.W.isFn K (.ref fm4) = true)
    (lm4 : K.lookup fm4 = some ⟨ocm4, odm4, .func (PySem.W.fnOf "but" "Job.but" (defArgs sBut) (defBody sBut) (defScope sBut) .none kvm4 dcm4 pmm4 anm4 cdm4 ctm4), slm4⟩)
    (c_m4 : PySem.W.codeIn K cdm4 "Job.but" = true)
    (km4 : PySem.W.keepIn K (.ref fm4) = true)
    (am5 : PySem.W.findIn K (.ref CJ) "with_writer" = some (some (.ref fm5)))
    (im5 : PySem.W.isFn K (.ref fm5) = true)
    (lm5 : K.lookup fm5 = some ⟨ocm5, odm5, .func (PySem.W.fnOf "with_writer" "Job.with_writer" (defArgs sWith) (defBody sWith) (defScope sWith) .none kvm5 dcm5 pmm5 anm5 cdm5 ctm5), slm5⟩)
    (c_m5 : PySem.W.codeIn K cdm5 "Job.with_writer" = true)
    (km5 : PySem.W.keepIn K (.ref fm5) = true)
    (nG : PySem.W.fnIn K fm2 = true)
    (aI : PySem.W.findIn K (.ref CJ) "__init__" = some (some (.ref fI)))
    (iI : PySem.W.isFn K (.ref fI) = true)
    (lI : K.lookup fI = some ⟨ocI, odI, .func (PySem.W.fnOf "__init__" "Job.__init__" (defArgs sInit) (defBody sInit) (defScope sInit) .none (.ref DI) dcI pmI anI cdI ctI), slI⟩)
    (c_I : PySem.W.codeIn K cdI "Job.__init__" = true)
    (kI : PySem.W.keepIn K (.ref fI) = true)
    (d1 : PySem.W.nsIn K DI "writes" = some (some (.str "whole" tk1)))
    (d2 : PySem.W.nsIn K DI "before" = some (some (.int 0 tk2)))
    (d3 : PySem.W.nsIn K DI "falls" = some (some (.str "none" tk3)))
    (mkJ : PySem.W.makesIn K CJ = true)
    (kJ : PySem.W.keepIn K (.ref CJ) = true)
    (pgJ : PySem.W.plainGet K CJ Str.empty = true)
    (hdJ : PySem.W.hasDictIn K CJ = true)
    (poJ : PySem.W.plainOver K CJ = true)
    (saJ : PySem.W.findIn K (.ref CJ) "__setattr__" = some (some (.builtin "object.__setattr__")))
    (nW : PySem.W.findIn K (.ref CJ) "writers" = some none)
    (nR : PySem.W.findIn K (.ref CJ) "writes" = some none)
    (nB : PySem.W.findIn K (.ref CJ) "before" = some none)
    (nF : PySem.W.findIn K (.ref CJ) "falls" = some none)
    (caJ : PySem.W.findIn K (.ref CJ) "__class__" = some (some (.builtin "object.__class__")))
    (cnJ : PySem.W.specialIn K (.builtin "object.__class__") "__get__" = some (some (.builtin "getset_descriptor.__get__")))
    (ctJ : PySem.W.takesIn K (.builtin "object.__class__") = some true)
    (cmJ : PySem.W.mroIn K CJ (.type "object") = some true)
    (icJ : PySem.W.isClsIn K CJ = true)
    (tyJ : PySem.W.typeIn K (.ref CJ) = some (.type "type"))
    (siJ : PySem.W.subIn K (.type "int") (.ref CJ) = some false)
    (nfJ : PySem.W.notFirst K CJ (.ref CJ) = true)
    (niJ : PySem.W.notFirst K CJ (.type "int") = true)
    (xJ : K.lookup CJ = some (excClassObj nmJ qJ CJ NJ bsJ [.type "object"] hJ snJ subJ abJ colJ ddJ j0 j1 j2 j3 j5 "object.__new__"))
    (okJ : PySem.W.nsOkIn K NJ = true)
    (eqJ : PySem.W.nsIn K NJ "__eq__" = some (some (.ref fm3)))
    (neJ : PySem.W.nsIn K NJ "__ne__" = some none)
    (tyE : ocm3 = .type "function")
    (z_isi : PySem.W.nsIn K mainGlobals "isinstance" = some none)
    (z_int : PySem.W.nsIn K mainGlobals "int" = some none)
    (z_bool : PySem.W.nsIn K mainGlobals "bool" = some none)
    (z_tuple : PySem.W.nsIn K mainGlobals "tuple" = some none)
    (z_str : PySem.W.nsIn K mainGlobals "str" = some none)
    (z_len : PySem.W.nsIn K mainGlobals "len" = some none)
    (z_all : PySem.W.nsIn K mainGlobals "all" = some none)
    (z_sum : PySem.W.nsIn K mainGlobals "sum" = some none)
    (z_zip : PySem.W.nsIn K mainGlobals "zip" = some none)
    (z_dict : PySem.W.nsIn K mainGlobals "dict" = some none)
    (z_list : PySem.W.nsIn K mainGlobals "list" = some none)
    (z_min : PySem.W.nsIn K mainGlobals "min" = some none)
    (z_range : PySem.W.nsIn K mainGlobals "range" = some none)
    (z_enum : PySem.W.nsIn K mainGlobals "enumerate" = some none)
    (z_super : PySem.W.nsIn K mainGlobals "super" = some none)
    (cl : PySem.W.nsIn K mainGlobals "MOST_LINES" = some (some (.int 3 t_cl)))
    (cp : PySem.W.nsIn K mainGlobals "MOST_PARTS" = some (some (.int 4 t_cp)))
    (cw : PySem.W.nsIn K mainGlobals "MOST_WRITERS" = some (some (.int 3 t_cw)))
    (ctg : PySem.W.nsIn K mainGlobals "MOST_TOGETHER" = some (some (.int 6 t_ctg)))
    (cb : PySem.W.nsIn K mainGlobals "MOST_BEFORE" = some (some (.int 2 t_cb)))
    (aM : PySem.W.nsIn K mainGlobals "MANNERS" = some (some (.ref mM)))
    (L_mM : K.lookup mM = some ⟨.type "tuple", td_mM, .seq #[.ref m0, .ref m1, .ref m2] tn_mM, ts_mM⟩)
    (L_m0 : K.lookup m0 = some ⟨.type "tuple", td_m0, .seq #[.str "end" tt_m00, .str "own" tt_m01, .str "sought" tt_m02] tn_m0, ts_m0⟩)
    (L_m1 : K.lookup m1 = some ⟨.type "tuple", td_m1, .seq #[.str "block" tt_m10, .str "line" tt_m11, .str "part" tt_m12] tn_m1, ts_m1⟩)
    (L_m2 : K.lookup m2 = some ⟨.type "tuple", td_m2, .seq #[.str "empties" tt_m20, .str "leaves" tt_m21] tn_m2, ts_m2⟩)
    (aP : PySem.W.nsIn K mainGlobals "PARTS" = some (some (.ref mP)))
    (L_mP : K.lookup mP = some ⟨.type "tuple", td_mP, .seq #[.str "writers" tt_mP0, .str "writes" tt_mP1, .str "before" tt_mP2, .str "falls" tt_mP3] tn_mP, ts_mP⟩)
    (aR : PySem.W.nsIn K mainGlobals "RULES" = some (some (.ref mR)))
    (L_R : K.lookup mR = some ⟨.type "dict", none, .dict esR nR_, #[]⟩)
    (keysR : PySem.W.KeysLit w.params esR.toList)
    (lowR : (mR == sysModules) = false)
    (rW : PySem.W.nsIn K mR "writes" = some (some (.ref r0)))
    (rF : PySem.W.nsIn K mR "falls" = some (some (.ref r1)))
    (rB : PySem.W.nsIn K mR "before" = some (some uB0))
    (rx1 : PySem.W.nsIn K mR "writers" = some none)
    (rx2 : PySem.W.nsIn K mR "" = some none)
    (rx3 : PySem.W.nsIn K mR "Falls" = some none)
    (L_r0 : K.lookup r0 = some ⟨.type "tuple", td_r0, .seq #[.str "pieces" tt_r00, .str "whole" tt_r01] tn_r0, ts_r0⟩)
    (L_r1 : K.lookup r1 = some ⟨.type "tuple", td_r1, .seq #[.str "none" tt_r10, .str "some" tt_r11] tn_r1, ts_r1⟩)
    (gB : PySem.W.nsIn K mainGlobals "BadJob" = some (some (.ref CB)))
    (xB : K.lookup CB = some (excClassObj nmB qB CB NB bsB bmB true snB subB abB colB ddB e0 e1 e2 e3 e5 "ValueError.__new__"))
    (rvB : PySem.HandSPX.refsVE bmB = true)
    (saB : PySem.W.findIn K (.ref CB) "__setattr__" = some (some (.builtin "object.__setattr__")))
    (gaB : PySem.W.findIn K (.ref CB) "__getattribute__" = some (some (.builtin "BaseException.__getattribute__")))
    (ggB : PySem.W.findIn K (.ref CB) "__getattr__" = some none)
    (noB : PySem.W.findIn K (.ref CB) "part" = some none)
    (iB : PySem.W.findIn K (.ref CB) "__init__" = some (some (.ref fB)))
    (tB : PySem.W.typeIn K (.ref fB) = some (.type "function"))
    (kB : PySem.W.keepIn K (.ref CB) = true)
    (exB : PySem.W.subIn K (.ref CB) (.type "BaseException") = some true)
    (tyB : PySem.W.typeIn K (.ref CB) = some (.type "type"))
    (hdB : PySem.W.hasDictIn K CB = true)
    (spB : PySem.W.ks_superIn K CB CB "__init__" = some (some (.builtin "ValueError.__init__")))
    (svB : PySem.W.subIn K (.ref CB) (.type "ValueError") = some true)
    (mrB : PySem.W.mroIn K CB (.ref CB) = some true)
    (opB : PySem.W.nsIn K cStatics "thirdparty.any" = some none)
    (lB : K.lookup fB = some ⟨ocB, odB, .func (PySem.W.ksFn "__init__" "BadJob.__init__" (defArgs sBadInit) (defBody sBadInit) (defScope sBadInit) .none .none dcB pmB anB (.ref cdB) ctB ccB), slB⟩)
    (ceB : K.lookup ccB = some ⟨clB, cldB, .cell (some (.ref CB)), cslB⟩)
    (coB : K.lookup cdB = some ⟨cclB, cddB, .fields vsB, ccsB⟩)
    (v2B : vsB[2]? = some (.str fileB tfB))
    (fiB : ((l.prog.main.file : Str) == fileB) = true)
    (toB : (l.prog.main.scope.names.lookup ("super" : Str)).isSome = false)
    (c_B : PySem.W.codeIn K (.ref cdB) "BadJob.__init__" = true)
    (icB : PySem.W.isClsIn K CB = true)
    (sbB : PySem.W.subIn K (.ref CB) (.ref CB) = some true)
    (gN : PySem.W.nsIn K mainGlobals "BadNumber" = some (some (.ref CN)))
    (exN : PySem.W.excIn K CN [.type "ValueError", .type "Exception", .type "BaseException", .type "object"] "ValueError.__new__" = true)
    (kN : PySem.W.keepIn K (.ref CN) = true)
    (sbN : PySem.W.subIn K (.ref CN) (.type "BaseException") = some true)
    (tyN : PySem.W.typeIn K (.ref CN) = some (.type "type"))
    (icN : PySem.W.isClsIn K CN = true)
    (snB_ : PySem.W.subIn K (.ref CN) (.ref CB) = some false)
    (snN : PySem.W.subIn K (.ref CN) (.ref CN) = some true)
    (n12 : P1 ≠ P2)
    (n13 : P1 ≠ P3)
    (n23 : P2 ≠ P3)
    (hd1 : PySem.W.codeHdIn K c1 P1 = true)
    (hd2 : PySem.W.codeHdIn K c2 P2 = true)
    (hd3 : PySem.W.codeHdIn K c3 P3 = true)
    (nt1 : K.lookup P1 = none)
    (nt2 : K.lookup P2 = none)
    (nt3 : K.lookup P3 = none)
    (tb1 : h.get? P1 = some (PySem.W.tabObj #[]))
    (tb2 : h.get? P2 = some (PySem.W.tabObj #[]))
    (tb3 : h.get? P3 = some (PySem.W.tabObj #[]))
    : LamX.LawAtS l w K CX0 11 63 "_law_script" mg fa h := by
  obtain ⟨fd, hb, hF⟩ := all_mk (P := l.prog) (w := w) X G hfa a0 l0 c_0 k0 a1 l1 c_1 k1 a2 l2 c_2 k2 a3 l3 c_3 k3 a4 l4 c_4 k4 a5 l5 c_5 k5 a6 l6 c_6 k6 a7 l7 c_7 k7 a8 l8 c_8 k8 a9 l9 c_9 k9 a10 l10 c_10 k10 a11 l11 c_11 k11 a12 l12 c_12 k12 a13 l13 c_13 k13 a14 l14 c_14 k14 aJ am0 im0 lm0 c_m0 km0 am1 im1 lm1 c_m1 km1 am2 im2 lm2 c_m2 km2 am3 im3 lm3 c_m3 km3 am4 im4 lm4 c_m4 km4 am5 im5 lm5 c_m5 km5 nG aI iI lI c_I kI d1 d2 d3 mkJ kJ pgJ hdJ poJ saJ nW nR nB nF caJ cnJ ctJ cmJ icJ tyJ siJ nfJ niJ xJ okJ eqJ neJ tyE z_isi z_int z_bool z_tuple z_str z_len z_all z_sum z_zip z_dict z_list z_min z_range z_enum z_super cl cp cw ctg cb aM L_mM L_m0 L_m1 L_m2 aP L_mP aR L_R keysR lowR rW rF rB rx1 rx2 rx3 L_r0 L_r1 gB xB rvB saB gaB ggB noB iB tB kB exB tyB hdB spB svB mrB opB lB ceB coB v2B fiB toB c_B icB sbB gN exN kN sbN tyN icN snB_ snN
  have all3 : ∀ {R : Addr × Addr → Prop}, R (c1, P1) → R (c2, P2) → R (c3, P3) → ∀ p ∈ [(c1, P1), (c2, P2), (c3, P3)], R p := fun r1 r2 r3 p hp => by
    rcases List.mem_cons.mp hp with rfl | hp
    · exact r1
    rcases List.mem_cons.mp hp with rfl | hp
    · exact r2
    rw [List.mem_singleton.mp hp]
    exact r3
  refine ⟨fd, [(c1, P1), (c2, P2), (c3, P3)], spLaw K (lamT P1 P2 P3), all3 tb1 tb2 tb3, all3 nt1 nt2 nt3, all3 (PySem.W.codeHd_of_K X hd1) (PySem.W.codeHd_of_K X hd2) (PySem.W.codeHd_of_K X hd3), hb, fun H a ns _ _ hT hS => ⟨a, ns, rfl, hS, fun p hp => ?_, fun _ => rfl⟩, fun base XB GB hT => ?_⟩
  · have t1 := hT (c1, P1) List.mem_cons_self
    have t2 := hT (c2, P2) (List.mem_cons_of_mem _ List.mem_cons_self)
    have t3 := hT (c3, P3) (List.mem_cons_of_mem _ (List.mem_cons_of_mem _ List.mem_cons_self))
    rcases List.mem_cons.mp hp with rfl | hp
    · exact TabS.nil t1
    rcases List.mem_cons.mp hp with rfl | hp
    · exact TabS.nil t2
    rw [List.mem_singleton.mp hp]
    exact TabS.nil t3
  · exact hF P1 P2 P3 n12 n13 n23 base XB GB (hT (c1, P1) List.mem_cons_self) (hT (c2, P2) (List.mem_cons_of_mem _ List.mem_cons_self)) (hT (c3, P3) (List.mem_cons_of_mem _ (List.mem_cons_of_mem _ List.mem_cons_self)))
end K1


open PySem PySem.W PyProof.Rows in
set_option maxRecDepth 100000 in
set_option maxHeartbeats 0 in
theorem PySem.Challenge.cw_mixedlines_k01_whole_jobs_holds : PySem.Challenge.rw_mixedlines_k01_whole_jobs.Holds := by
  w_on; o_law; k_head; (case hw => w_witness2)
  k_fill
  refine LamX.walk_ofTs (l := PySem.Challenge.rw_mixedlines_k01_whole_jobs) (n := 63) (k := 11) (x := "_law_script") (CX := fun _ => L2.CX0) rfl (by decide) rfl ⟨rfl, by decide, by decide⟩ (fun w h Y => PySem.W.km_in_of Y) ?F (fun _ _ _ _ _ z => z)
  case F =>
    intro w mg fa h Y KX G hmg
    have hT8 := PySem.W.km_tabs_of Y
    refine' K1.law_at (P1 := 220) (P2 := 225) (P3 := 232) KX G hmg ?a0 ?l0 ?c_0 ?k0 ?a1 ?l1 ?c_1 ?k1 ?a2 ?l2 ?c_2 ?k2 ?a3 ?l3 ?c_3 ?k3 ?a4 ?l4 ?c_4 ?k4 ?a5 ?l5 ?c_5 ?k5 ?a6 ?l6 ?c_6 ?k6 ?a7 ?l7 ?c_7 ?k7 ?a8 ?l8 ?c_8 ?k8 ?a9 ?l9 ?c_9 ?k9 ?a10 ?l10 ?c_10 ?k10 ?a11 ?l11 ?c_11 ?k11 ?a12 ?l12 ?c_12 ?k12 ?a13 ?l13 ?c_13 ?k13 ?a14 ?l14 ?c_14 ?k14 ?aJ ?am0 ?im0 ?lm0 ?c_m0 ?km0 ?am1 ?im1 ?lm1 ?c_m1 ?km1 ?am2 ?im2 ?lm2 ?c_m2 ?km2 ?am3 ?im3 ?lm3 ?c_m3 ?km3 ?am4 ?im4 ?lm4 ?c_m4 ?km4 ?am5 ?im5 ?lm5 ?c_m5 ?km5 ?nG ?aI ?iI ?lI ?c_I ?kI ?d1 ?d2 ?d3 ?mkJ ?kJ ?pgJ ?hdJ ?poJ ?saJ ?nW ?nR ?nB ?nF ?caJ ?cnJ ?ctJ ?cmJ ?icJ ?tyJ ?siJ ?nfJ ?niJ ?xJ ?okJ ?eqJ ?neJ ?tyE ?z_isi ?z_int ?z_bool ?z_tuple ?z_str ?z_len ?z_all ?z_sum ?z_zip ?z_dict ?z_list ?z_min ?z_range ?z_enum ?z_super ?cl ?cp ?cw ?ctg ?cb ?aM ?L_mM ?L_m0 ?L_m1 ?L_m2 ?aP ?L_mP ?aR ?L_R ?keysR ?lowR ?rW ?rF ?rB ?rx1 ?rx2 ?rx3 ?L_r0 ?L_r1 ?gB ?xB ?rvB ?saB ?gaB ?ggB ?noB ?iB ?tB ?kB ?exB ?tyB ?hdB ?spB ?svB ?mrB ?opB ?lB ?ceB ?coB ?v2B ?fiB ?toB ?c_B ?icB ?sbB ?gN ?exN ?kN ?sbN ?tyN ?icN ?snB_ ?snN ?n12 ?n13 ?n23 ?hd1 ?hd2 ?hd3 ?nt1 ?nt2 ?nt3 ?tb1 ?tb2 ?tb3
    (case a0 => k_is)
    (case l0 => k_is)
    (case c_0 => k_is)
    (case k0 => k_is)
    (case a1 => k_is)
    (case l1 => k_is)
    (case c_1 => k_is)
    (case k1 => k_is)
    (case a2 => k_is)
    (case l2 => k_is)
    (case c_2 => k_is)
    (case k2 => k_is)
    (case a3 => k_is)
    (case l3 => k_is)
    (case c_3 => k_is)
    (case k3 => k_is)
    (case a4 => k_is)
    (case l4 => k_is)
    (case c_4 => k_is)
    (case k4 => k_is)
    (case a5 => k_is)
    (case l5 => k_is)
    (case c_5 => k_is)
    (case k5 => k_is)
    (case a6 => k_is)
    (case l6 => k_is)
    (case c_6 => k_is)
    (case k6 => k_is)
    (case a7 => k_is)
    (case l7 => k_is)
    (case c_7 => k_is)
    (case k7 => k_is)
    (case a8 => k_is)
    (case l8 => k_is)
    (case c_8 => k_is)
    (case k8 => k_is)
    (case a9 => k_is)
    (case l9 => k_is)
    (case c_9 => k_is)
    (case k9 => k_is)
    (case a10 => k_is)
    (case l10 => k_is)
    (case c_10 => k_is)
    (case k10 => k_is)
    (case a11 => k_is)
    (case l11 => k_is)
    (case c_11 => k_is)
    (case k11 => k_is)
    (case a12 => k_is)
    (case l12 => k_is)
    (case c_12 => k_is)
    (case k12 => k_is)
    (case a13 => k_is)
    (case l13 => k_is)
    (case c_13 => k_is)
    (case k13 => k_is)
    (case a14 => k_is)
    (case l14 => k_is)
    (case c_14 => k_is)
    (case k14 => k_is)
    (case aJ => k_is)
    (case am0 => k_is)
    (case im0 => k_is)
    (case lm0 => k_is)
    (case c_m0 => k_is)
    (case km0 => k_is)
    (case am1 => k_is)
    (case im1 => k_is)
    (case lm1 => k_is)
    (case c_m1 => k_is)
    (case km1 => k_is)
    (case am2 => k_is)
    (case im2 => k_is)
    (case lm2 => k_is)
    (case c_m2 => k_is)
    (case km2 => k_is)
    (case am3 => k_is)
    (case im3 => k_is)
    (case lm3 => k_is)
    (case c_m3 => k_is)
    (case km3 => k_is)
    (case am4 => k_is)
    (case im4 => k_is)
    (case lm4 => k_is)
    (case c_m4 => k_is)
    (case km4 => k_is)
    (case am5 => k_is)
    (case im5 => k_is)
    (case lm5 => k_is)
    (case c_m5 => k_is)
    (case km5 => k_is)
    (case nG => k_is)
    (case aI => k_is)
    (case iI => k_is)
    (case lI => k_is)
    (case c_I => k_is)
    (case kI => k_is)
    (case d1 => k_is)
    (case d2 => k_is)
    (case d3 => k_is)
    (case mkJ => k_is)
    (case kJ => k_is)
    (case pgJ => k_is)
    (case hdJ => k_is)
    (case poJ => k_is)
    (case saJ => k_is)
    (case nW => k_is)
    (case nR => k_is)
    (case nB => k_is)
    (case nF => k_is)
    (case caJ => k_is)
    (case cnJ => k_is)
    (case ctJ => k_is)
    (case cmJ => k_is)
    (case icJ => k_is)
    (case tyJ => k_is)
    (case siJ => k_is)
    (case nfJ => k_is)
    (case niJ => k_is)
    (case xJ => k_is)
    (case okJ => kernel_rfl)
    (case eqJ => k_is)
    (case neJ => k_is)
    (case tyE => rfl)
    (case z_isi => k_is)
    (case z_int => k_is)
    (case z_bool => k_is)
    (case z_tuple => k_is)
    (case z_str => k_is)
    (case z_len => k_is)
    (case z_all => k_is)
    (case z_sum => k_is)
    (case z_zip => k_is)
    (case z_dict => k_is)
    (case z_list => k_is)
    (case z_min => k_is)
    (case z_range => k_is)
    (case z_enum => k_is)
    (case z_super => k_is)
    (case cl => k_is)
    (case cp => k_is)
    (case cw => k_is)
    (case ctg => k_is)
    (case cb => k_is)
    (case aM => k_is)
    (case L_mM => k_is)
    (case L_m0 => k_is)
    (case L_m1 => k_is)
    (case L_m2 => k_is)
    (case aP => k_is)
    (case L_mP => k_is)
    (case aR => k_is)
    (case L_R => k_is)
    (case keysR => k_keys)
    (case lowR => decide)
    (case rW => k_is)
    (case rF => k_is)
    (case rB => k_is)
    (case rx1 => k_is)
    (case rx2 => k_is)
    (case rx3 => k_is)
    (case L_r0 => k_is)
    (case L_r1 => k_is)
    (case gB => k_is)
    (case xB => k_is)
    (case rvB => decide +kernel)
    (case saB => k_is)
    (case gaB => k_is)
    (case ggB => k_is)
    (case noB => k_is)
    (case iB => k_is)
    (case tB => k_is)
    (case kB => k_is)
    (case exB => k_is)
    (case tyB => k_is)
    (case hdB => k_is)
    (case spB => ks_is)
    (case svB => k_is)
    (case mrB => k_is)
    (case opB => k_is)
    (case lB => k_is)
    (case ceB => k_is)
    (case coB => k_is)
    (case v2B => rfl)
    (case fiB => decide +kernel)
    (case toB => decide +kernel)
    (case c_B => k_is)
    (case icB => k_is)
    (case sbB => k_is)
    (case gN => k_is)
    (case exN => kernel_rfl)
    (case kN => k_is)
    (case sbN => k_is)
    (case tyN => k_is)
    (case icN => k_is)
    (case snB_ => k_is)
    (case snN => k_is)
    (case n12 => decide)
    (case n13 => decide)
    (case n23 => decide)
    (case hd1 => kernel_rfl)
    (case hd2 => kernel_rfl)
    (case hd3 => kernel_rfl)
    (case nt1 => rfl)
    (case nt2 => rfl)
    (case nt3 => rfl)
    (case tb1 => exact hT8 _ (by decide))
    (case tb2 => exact hT8 _ (by decide))
    (case tb3 => exact hT8 _ (by decide))
