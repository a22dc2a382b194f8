import PyProof.Rows.All
import Wide.All
import OpenK.AllK
import Wide.FinOn
import PyProof.SumWalkG
import PyProof.WalksMore
import HandS.ForMost
import HandS.Evl
import HandS.IsInst
import HandS.Conv
import HandS.TupAny
import HandS.TupLen
import HandS.TupSets
import HandS.Walk
import PySem.Challenge.RW_heardseams_k50_whole_classes_counted_by
set_option Elab.async false
namespace HS
/-! shapes as the law lists them -/
def up (s : List Nat) : List Nat := s.map (· + 1)
def rowOf (known : List (List (List Nat))) (many : Nat) : List (List Nat) :=
  (List.range' 1 (many - 1)).flatMap fun part => (known.getD part []).flatMap fun ah =>
    (known.getD (many - part) []).map fun be => up ah ++ [0] ++ up be
def knownAt : Nat → List (List (List Nat))
  | 0 => [[], [[]]]
  | j + 1 => knownAt j ++ [rowOf (knownAt j) (j + 2)]
def shapes (n : Nat) : List (List Nat) := (knownAt (n - 1)).getD n []

/-! spans and standings, as the law looks -/
def lowF (s : List Nat) (d : Nat) : Nat → Nat
  | 0 => 0
  | l + 1 => if d < s.getD l 0 then lowF s d l else l + 1
def highF (s : List Nat) (d : Nat) : Nat → Nat → Nat
  | 0, h => h
  | f + 1, h => if h < s.length ∧ d < s.getD h 0 then highF s d f (h + 1) else h
def spans (s : List Nat) : List (Nat × Nat) :=
  (List.range s.length).map fun i => (lowF s (s.getD i 0) i, highF s (s.getD i 0) s.length (i + 1))
def stand (sp : List (Nat × Nat)) (p q : Nat) : Nat :=
  if (sp.getD p (0, 0)).1 ≤ q ∧ q < (sp.getD p (0, 0)).2 then 0
  else if (sp.getD q (0, 0)).1 ≤ p ∧ p < (sp.getD q (0, 0)).2 then 1 else 2
def nrB (r : List Nat) (p q : Nat) : Bool := Nat.ble q (p + r.getD p 0)
def pairs (k : Nat) : List (Nat × Nat) :=
  (List.range k).flatMap fun p => (List.range' (p + 1) (k - (p + 1))).map fun q => (p, q)
def nearP (r : List Nat) (k : Nat) : List (Nat × Nat) := (pairs k).filter fun pq => nrB r pq.1 pq.2
def key (r : List Nat) (s : List Nat) : List Nat := (nearP r s.length).map fun pq => stand (spans s) pq.1 pq.2

/-! joinings, as the program works them out -/
structure JS where
  above : List (Option Nat)
  fair : Bool
  deriving DecidableEq
def jseams (s : List Nat) (f l d : Nat) : List Nat := ((List.range (l - f)).filter fun x => Nat.ble (s.getD (f + x) 0) d).map fun x => f + x
def jrun (s : List Nat) : Nat → List (Option Nat) → List (Nat × Nat × Nat × Option Nat) → Option JS
  | _, ab, [] => some ⟨ab, true⟩
  | 0, _, _ :: _ => none
  | n + 1, ab, (f, l, d, a) :: w =>
    if s.length < l then none
    else if f < l then
      match jseams s f l d with
      | [x] => if s.getD x 0 = d then jrun s n (ab.set x a) ((x + 1, l, d + 1, some x) :: (f, x, d + 1, some x) :: w) else some ⟨ab, false⟩
      | _ => some ⟨ab, false⟩
    else jrun s n ab w
def joins (s : List Nat) : Option JS := jrun s 40 (List.replicate s.length none) [(0, s.length, 0, none)]
def stepsL (ab : List (Option Nat)) : List (Nat × Nat) :=
  (List.range ab.length).filterMap fun o => (ab.getD o none).map fun one => (one, o)
def formA (r : List Nat) (ab : List (Option Nat)) : Bool := (stepsL ab).all fun x => Nat.ble x.1 x.2 || nrB r x.2 x.1
def aboveOf (s : List Nat) : List (Option Nat) := match joins s with | some R => R.above | none => []
def fairOf (s : List Nat) : Bool := match joins s with | some R => R.fair | none => false
def formB (r : List Nat) (s : List Nat) : Bool := formA r (aboveOf s)

/-! the numbers of forms -/
def sumN (f : Nat → Nat) : Nat → Nat
  | 0 => 0
  | n + 1 => sumN f n + f n
abbrev Tab := List (List (Nat × Nat))
def tW (t : Tab) (i j : Nat) : Nat := ((t.getD (j - i) []).getD i (0, 0)).1
def tA (t : Tab) (i j : Nat) : Nat := ((t.getD (j - i) []).getD i (0, 0)).2
def sW (W A : Nat → Nat → Nat) (i j : Nat) : Nat := sumN (fun x => A i (i + x) * W (i + x + 1) j) (j - i)
def sA (r : List Nat) (k : Nat) (W A : Nat → Nat → Nat) (i j : Nat) : Nat :=
  sumN (fun x => if j < k ∧ nrB r (i + x) j = true then A i (i + x) * W (i + x + 1) j else 0) (j - i)
def tab (r : List Nat) (k : Nat) : Nat → Tab
  | 0 => [List.replicate (k + 1) (1, 1)]
  | l + 1 => let t := tab r k l
    t ++ [(List.range (k - l)).map fun i => (sW (tW t) (tA t) i (i + l + 1), sA r k (tW t) (tA t) i (i + l + 1))]

/-! patterns of nearness -/
def pats : Nat → List (List Nat)
  | 0 => [[]]
  | 1 => [[0]]
  | k + 2 => (pats (k + 1)).flatMap fun r => (List.range (r.headD 0 + 2)).map fun h => h :: r

/-! the look at a pattern -/
def recB (r : List Nat) (k : Nat) (t : Tab) : Bool :=
  (List.range (k + 1)).all fun i => tW t i i == 1 && tA t i i == 1 &&
    (List.range' (i + 1) (k - i)).all fun j => tW t i j == sW (tW t) (tA t) i j && tA t i j == sA r k (tW t) (tA t) i j
def num (l : List Nat) : Nat := l.foldl (fun a c => a * 4 + (c + 1)) 0
def memB (x : Nat) : List Nat → Bool
  | [] => false
  | y :: l => if Nat.beq x y then true else memB x l
def nodB : List Nat → Bool
  | [] => true
  | x :: l => if memB x l then false else nodB l

end HS

set_option Elab.async false
set_option linter.all false
set_option maxRecDepth 100000
set_option maxHeartbeats 4000000
namespace HS
open PySem PySem.Spec PyProof.Rows L2 Evl

/-! ### the text by places -/
def top (i : Nat) : Stmt := PySem.Challenge.pw_heardseams_k50_whole_classes_counted_by.main.body.getD i (.Pass ⟨0, 0, 0, 0⟩)
abbrev s_is_integer : Stmt := top 7
abbrev s_is_between : Stmt := top 8
abbrev s_check_number : Stmt := top 9
abbrev s_J : Stmt := inClass (top 12) 0
abbrev s_is_fair : Stmt := top 13
abbrev s_is_shape : Stmt := top 14
abbrev s_steps_of : Stmt := top 15
abbrev s_check_lengths : Stmt := top 18
abbrev s_check_shape_for : Stmt := top 19
abbrev s_check_reading : Stmt := top 20
abbrev s_places_of : Stmt := top 21
abbrev s_step_to_form : Stmt := top 22
abbrev s_check_m : Stmt := top 25
abbrev s_is_form : Stmt := top 26
abbrev s_FI : Stmt := inClass (top 27) 0
abbrev s_FF : Stmt := inClass (top 27) 1
abbrev s_classes_many : Stmt := top 28
abbrev s_law_dice : Stmt := top 30
abbrev s_law_draw : Stmt := top 31
abbrev s_law_whole : Stmt := top 32
abbrev s_law_spans : Stmt := top 33
abbrev s_law_stand : Stmt := top 34
abbrev s_law_places : Stmt := top 35
abbrev s_law_near : Stmt := top 36
abbrev s_law_all : Stmt := top 37
abbrev s_law_lengths : Stmt := top 38
abbrev s_law_m : Stmt := top 39
abbrev s_law : Stmt := top 40

/-! ### what the top has left -/
structure Txt (K : PySem.W.Frag) (mg : Str → Option Value) (CJ CF : Addr) (t1 t2 t3 : Tok) : Prop where
  clJ : Cls K CJ
  clF : Cls K CF
  jfirst : NoAttr K CJ "first"
  jlast : NoAttr K CJ "last"
  jabove : NoAttr K CJ "above"
  jfair : NoAttr K CJ "fair"
  fat : NoAttr K CF "at"
  fm : NoAttr K CF "m"
  fwhole : NoAttr K CF "whole"
  fahead : NoAttr K CF "ahead"
  gJoinings : mg "Joinings" = some (.ref CJ)
  gForms : mg "Forms" = some (.ref CF)
  gMOST_WORDS : mg "MOST_WORDS" = some (.int 40 t1)
  gMOST_LENGTH : mg "MOST_LENGTH" = some (.int 1000000 t2)
  gMOST_NEAR : mg "MOST_NEAR" = some (.int 1000000000 t3)
  nlen : mg "len" = none
  nisinstance : mg "isinstance" = none
  nall : mg "all" = none
  nsum : mg "sum" = none
  nabs : mg "abs" = none
  nsorted : mg "sorted" = none
  nrange : mg "range" = none
  nenumerate : mg "enumerate" = none
  nint : mg "int" = none
  nbool : mg "bool" = none
  ntuple : mg "tuple" = none
  nlist : mg "list" = none

/-- a def of the text stands behind its name -/
structure Df (K : PySem.W.Frag) (mg : Str → Option Value) (x : Str) (st : Stmt) : Prop where
  ex : ∃ (f : Addr) (fd : FuncData), Fun K x x st f fd ∧ mg x = some (.ref f)
/-- a def keeps a promise, and may be called by its name -/
structure Cal (P : Program) (w : World) (K : PySem.W.Frag) (mg : Str → Option Value) (base : Heap) (x : Str) (k : Nat) (ps : List Str) (sp : Sp) : Prop where
  ex : ∃ (f : Addr) (fd : FuncData), FnOk P w K mg base CX0 k f fd ps sp ∧ mg x = some (.ref f) ∧ PySem.W.keepIn K (.ref f) = true ∧ Binds K fd ps []
section
variable {P : Program} {w : World} {K : PySem.W.Frag} {mg : Str → Option Value} {base : Heap}
theorem Df.cal {x : Str} {st : Stmt} {N ps : List Str} {k : Nat} {sp : Sp} (D : Df K mg x st) (S : FnScope N ps (defScope st))
    (hb : ∀ (kV doc pm : Value) (an : Option Addr) (cdv ct : Value) (us : List Value), us.length = ps.length → bindArgs (PySem.W.fnOf x x (defArgs st) (defBody st) (defScope st) .none kV doc pm an cdv ct) ⟨us, []⟩ = pure (ps.zip us))
    (len : ∀ vs H Q E, sp vs H Q E → vs.length = ps.length)
    (hbody : ∀ (f : Addr) (cdv : Value) (A : Around) (outer : List Env) (s : Shared) (H : Hp) (vs : List V) (Q : VK) (E : XK), Room k (A.deeper (envOfC x (defScope st) s.heap.objs.size f cdv)) → sp vs H Q E →
      ∃ t, PSs (cxOf CX0 P w K mg base N x (defScope st) f cdv A outer s H E).nox (defBody st) t ∧ t { nx := fun _ H' => Q .non H', rt := Q } (start N vs) H) : Cal P w K mg base x (k + 1) ps sp := by
  obtain ⟨f, fd, F, hm⟩ := D.ex
  exact ⟨f, fd, F.ok S len (hbody f), hm, F.kp, F.binds hb⟩
end

/-! ### rules of one's own -/
section
variable {K : PySem.W.Frag} {σ : L2.St} {H : Hp} {ta tb te : TE}
theorem ev_isi {x : V} {T : String} {t : Value} {b : Bool} (ha : Ev ta σ H x) (hb : Ev tb σ H (.ty T)) (ht : ∀ H1, Ex H H1 → TyX K H1 x t) (hk : PySem.W.kitOne K t (.type T) = some b) :
    Ev (tCB (rIsi K) (tCons ta (tCons tb tNil))) σ H (.bl b) := fun H1 e Q q =>
  ha H1 e _ fun H2 e2 => hb H2 (e.trans e2) _ fun H3 e3 => ⟨x, .ty T, t, .type T, b, rfl, .ty T, ht H3 ((e.trans e2).trans e3), hk, q H3 (e2.trans e3)⟩
theorem ev_chain {r r' : R2} {x y z : V} {a b : Bool} {tc : TE} (ha : Ev ta σ H x) (hb : Ev tb σ H y) (hc : Ev tc σ H z) (h1 : RV r x y H (.bl a)) (h2 : a = true → RV r' y z H (.bl b)) :
    Ev (tChain r r' ta tb tc) σ H (.bl (a && b)) := fun H1 e Q q =>
  ha H1 e _ fun H2 e2 => hb H2 (e.trans e2) _ fun H3 e3 => h1 H3 ((e.trans e2).trans e3) _ fun H4 e4 => ⟨a, rfl, by
    cases a with
    | true =>
      refine iteT ?_
      exact hc H4 (((e.trans e2).trans e3).trans e4) _ fun H5 e5 => h2 rfl H5 ((((e.trans e2).trans e3).trans e4).trans e5) Q fun H6 e6 => q H6 ((((e2.trans e3).trans e4).trans e5).trans e6)
    | false =>
      refine iteF ?_
      exact q H4 ((e2.trans e3).trans e4)⟩
theorem rv_lt {i j : Int} : RV (rI0 fun i j => .bl (decide (i < j))) (.int i) (.int j) H (.bl (decide (i < j))) := rv_I0 (g := fun i j => V.bl (decide (i < j)))
theorem rv_le {i j : Int} : RV (rI0 fun i j => .bl (decide (i ≤ j))) (.int i) (.int j) H (.bl (decide (i ≤ j))) := rv_I0 (g := fun i j => V.bl (decide (i ≤ j)))
theorem ty_int {H1 : Hp} {i : Int} : TyX K H1 (.int i) (.type "int") := .base (.int i)
theorem ty_tup {H1 : Hp} {a : Addr} {xs : List V} (h : H1 a = some (.tup xs)) : TyX K H1 (.ref a) (.type "tuple") := .base (.tup h)
end

/-! ### the small looks -/
def sp_is_integer : Sp := fun vs H Q _ => ∃ i : Int, vs = [.int i] ∧ RetV (.bl true) H Q
def sp_is_between : Sp := fun vs H Q _ => ∃ i lo hi : Int, vs = [.int i, .int lo, .int hi] ∧ lo ≤ i ∧ i ≤ hi ∧ RetV (.bl true) H Q
def sp_check_number : Sp := fun vs H Q _ => ∃ i lo hi : Int, vs = [.int i, .int lo, .int hi] ∧ lo ≤ i ∧ i ≤ hi ∧ RetV .non H Q
theorem sv_is_integer {H : Hp} {i : Int} : SpV sp_is_integer [.int i] H (.bl true) := fun _ _ _ q _ => ⟨i, rfl, q⟩
theorem sv_is_between {H : Hp} {i lo hi : Int} (h1 : lo ≤ i) (h2 : i ≤ hi) : SpV sp_is_between [.int i, .int lo, .int hi] H (.bl true) := fun _ _ _ q _ => ⟨i, lo, hi, rfl, h1, h2, q⟩
theorem sv_check_number {H : Hp} {i lo hi : Int} (h1 : lo ≤ i) (h2 : i ≤ hi) : SpV sp_check_number [.int i, .int lo, .int hi] H .non := fun _ _ _ q _ => ⟨i, lo, hi, rfl, h1, h2, q⟩

section
variable {P : Program} {w : World} {K : PySem.W.Frag} {mg : Str → Option Value} {base : Heap} {CJ CF : Addr} {t1 t2 t3 : Tok}
theorem sc_is_integer : FnScope ["thing"] ["thing"] (defScope s_is_integer) := ⟨rfl, rfl, rfl, by decide +kernel, rfl, by decide +kernel, by decide +kernel⟩
theorem cal_is_integer (T : Txt K mg CJ CF t1 t2 t3) (D : Df K mg "is_integer" s_is_integer) : Cal P w K mg base "is_integer" 1 ["thing"] sp_is_integer := by
  refine D.cal sc_is_integer (fun _ _ _ _ _ _ us hl => match us, hl with | [_], _ => rfl) (fun vs H Q E h => ?_) (fun f cdv A outer s H vs Q E hr h => ?_)
  · obtain ⟨i, rfl, _⟩ := h
    rfl
  · obtain ⟨i, rfl, k⟩ := h
    refine ⟨_, (pss_one (ps_ret (pe_and (pe_callB call_isi (by rfl) T.nisinstance (by decide +kernel) (pa_cons (pv 0) (pa_cons (pe_bltn (v := .ty "int") (by rfl) T.nint (by decide +kernel) rfl) pa_nil))) (pe_one (pe_not (pe_callB call_isi (by rfl) T.nisinstance (by decide +kernel) (pa_cons (pv 0) (pa_cons (pe_bltn (v := .ty "bool") (by rfl) T.nbool (by decide +kernel) rfl) pa_nil)))))))), ?_⟩
    exact s_ret (ev_andV (ev_isi (ev_var rfl) ev_c (fun _ _ => ty_int) (kit_ty (r := true) (by decide +kernel))) fun _ => ev_notV (ev_isi (ev_var rfl) ev_c (fun _ _ => ty_int) (kit_ty (r := false) (by decide +kernel)))) k
theorem sc_is_between : FnScope ["thing", "least", "most"] ["thing", "least", "most"] (defScope s_is_between) := ⟨rfl, rfl, rfl, by decide +kernel, rfl, by decide +kernel, by decide +kernel⟩
theorem cal_is_between (T : Txt K mg CJ CF t1 t2 t3) (D : Df K mg "is_between" s_is_between) (C1 : Cal P w K mg base "is_integer" 1 ["thing"] sp_is_integer) : Cal P w K mg base "is_between" 2 ["thing", "least", "most"] sp_is_between := by
  obtain ⟨_, _, Gis_integer, mis_integer, kis_integer, bis_integer⟩ := C1.ex
  refine D.cal sc_is_between (fun _ _ _ _ _ _ us hl => match us, hl with | [_, _, _], _ => rfl) (fun vs H Q E h => ?_) (fun f cdv A outer s H vs Q E hr h => ?_)
  · obtain ⟨i, lo, hi, rfl, _⟩ := h
    rfl
  · obtain ⟨i, lo, hi, rfl, h1, h2, k⟩ := h
    refine ⟨_, (pss_one (ps_ret (pe_and (pe_call Gis_integer (hr.mono (by decide)) (by rfl) mis_integer kis_integer bis_integer .nil pass0 (pa_cons (pv 0) pa_nil)) (pe_one (pe_chain op_le op_le (pv 1) (pv 0) (pv 2)))))), ?_⟩
    refine s_ret (ev_is (ev_andV (ev_call (ea_cons (ev_var rfl) ea_nil) sv_is_integer) fun _ => ev_chain (ev_var rfl) (ev_var rfl) (ev_var rfl) rv_le fun _ => rv_le) ?_) k
    rw [decide_eq_true h1, decide_eq_true h2]
    rfl
theorem sc_check_number : FnScope ["thing", "least", "most"] ["thing", "least", "most"] (defScope s_check_number) := ⟨rfl, rfl, rfl, by decide +kernel, rfl, by decide +kernel, by decide +kernel⟩
theorem cal_check_number (D : Df K mg "check_number" s_check_number) (C1 : Cal P w K mg base "is_between" 2 ["thing", "least", "most"] sp_is_between) : Cal P w K mg base "check_number" 3 ["thing", "least", "most"] sp_check_number := by
  obtain ⟨_, _, Gis_between, mis_between, kis_between, bis_between⟩ := C1.ex
  refine D.cal sc_check_number (fun _ _ _ _ _ _ us hl => match us, hl with | [_, _, _], _ => rfl) (fun vs H Q E h => ?_) (fun f cdv A outer s H vs Q E hr h => ?_)
  · obtain ⟨i, lo, hi, rfl, _⟩ := h
    rfl
  · obtain ⟨i, lo, hi, rfl, h1, h2, k⟩ := h
    refine ⟨_, (pss_one (ps_if (pt_not (pt_val (pe_call Gis_between (hr.mono (by decide)) (by rfl) mis_between kis_between bis_between .nil pass0 (pa_cons (pv 0) (pa_cons (pv 1) (pa_cons (pv 2) pa_nil)))))) (pss_one (ps_never)) pss_nil)), ?_⟩
    refine s_if (et_not (et_B (ev_call (ea_cons (ev_var rfl) (ea_cons (ev_var rfl) (ea_cons (ev_var rfl) ea_nil))) (sv_is_between h1 h2)))) (fun h => nomatch h) fun _ H1 e => k H1 e
end
end HS

set_option Elab.async false
set_option linter.all false
set_option maxRecDepth 100000
set_option maxHeartbeats 4000000
namespace HS
open PySem PySem.Spec PyProof.Rows L2 Evl

/-! ### sum of a tuple of ints -/
section
variable {prog : Program} {w : World} {A : Around} {E : Value → Shared → Prop} {s : Shared}
theorem sum_tup_raw {l : Addr} {its : List Value} {ns : List Int} {Q : Value → Shared → Prop} (hh : A.handled = none) (hl : IsTup s.heap l its.toArray) (hi : IntsAre its ns)
    (h : ∀ h' tk t', (∀ b o, s.heap.get? b = some o → h'.get? b = some o) → Q (.int ns.sum t') { s with heap := h', toks := tk }) :
    wpAny (model prog w) A (call (.builtin "sum") [.ref l]) Q E s := by
  obtain ⟨xs, e⟩ := hi.allInts.items
  have hn : numsOf (intItems xs).toList = ns := by rw [← e]; exact hi.numsOf
  rw [nums_intItems] at hn
  rw [e] at hl
  have hT : s.heap.IsTuple l (intItems xs) := hl
  have hlt : l < s.heap.objs.size := by obtain ⟨_, e, _⟩ := hT; exact Heap.lt_size e
  refine call_sum_walkG (wpAny_pyIter_tuple hT ?_)
  refine ⟨_, [s.heap.objs.size, l], [s.heap.objs.size], _, _, _, numAt xs, rfl, Walks.tuple (A := A.in1) hh _ l (Nat.ne_of_lt hlt) (intItems xs),
    ⟨⟨_, Heap.get?_push_size _ rfl, rfl, rfl⟩, hT.push _⟩, fun b hb => ?_, (fun _ _ => intItems_at), fun h' tk t' hk => ?_⟩
  · show b < (s.heap.push _).objs.size
    rw [Heap.size_push]
    rcases List.mem_cons.mp hb with rfl | hb
    · exact Nat.lt_succ_self _
    · rcases List.mem_cons.mp hb with rfl | hb
      · exact Nat.lt_succ_of_lt hlt
      · cases hb
  · have hold : ∀ b o, s.heap.get? b = some o → h'.get? b = some o := fun b o e => by
      refine hk b o (fun hm => ?_) (Heap.get?_push_of_some _ e)
      rcases List.mem_cons.mp hm with e1 | hm
      · exact absurd (e1 ▸ Heap.lt_size e) (Nat.lt_irrefl _)
      · cases hm
    have q := h h' tk t' hold
    have e2 : preSum (numAt xs) (intItems xs).size = ns.sum := by
      rw [preSum_eq, List.take_of_length_le (by simp [intItems]), hn]
    rw [e2]
    exact q
end
section
variable {X : Cx}
/-- sum(t) of a tuple of ints -/
def rSumT (K : PySem.W.Frag) : List V → Hp → VK → Prop := fun vs H Q => ∃ (a : Addr) (ns : List Int), vs = [V.ref a] ∧ SqT K H a (ns.map V.int) ∧ Q (.int ns.sum) H
theorem cr_sumT (hc : X.calm = true) : CallR X (.builtin "sum") (rSumT X.K) := by
  intro pins s σ H vs us Q I r h
  obtain ⟨a, ns, rfl, hs, q⟩ := h
  obtain ⟨its, rv, hl, _⟩ := I.tuple hs
  rw [Vals.ref1 r]
  exact sum_tup_raw (I.ok.hd hc) hl rv.ints fun h' tk t' hk => ⟨.int _, H, I.kept hk, ⟨_, rfl⟩, q⟩
end

/-! ### more of what evaluates to what -/
section
variable {K : PySem.W.Frag} {σ : L2.St} {H H' : Hp} {ta tb te tx : TE} {tu tw tz : TS} {D : Ends} {x y v : V} {p C dx : Addr} {fs : List (Str × V)} {f : Str}
theorem ev_fld (ha : Ev ta σ H (.ref p)) (hp : H p = some (.ins C dx fs)) (c : Cls K C) (n : NoAttr K C f) (l : fs.lookup f = some v) : Ev (tFld K ta f) σ H v := fun H1 e Q q =>
  ha H1 e _ fun H2 e2 => ⟨p, C, dx, fs, v, rfl, (e.trans e2) p _ hp, c, n, l, q H2 e2⟩
theorem s_fld (h : Ev te σ H v) (ho : Ev ta σ H (.ref p)) (hp : H p = some (.ins C dx fs)) (c : Cls K C) (n : NoAttr K C f) (hl : fs.length < 1000) (k : ∀ H1, Ex H H1 → D.nx σ (upd H1 p (.ins C dx (putF f v fs)))) : sFld K ta te f D σ H :=
  h H (Ex.refl H) _ fun H1 e1 => ho H1 e1 _ fun H2 e2 => ⟨p, C, dx, fs, rfl, (e1.trans e2) p _ hp, c, n, hl, k H2 (e1.trans e2)⟩
theorem s_fldL {xs : List V} (h : EvL te σ H xs) (ho : Ev ta σ H (.ref p)) (hp : H p = some (.ins C dx fs)) (c : Cls K C) (n : NoAttr K C f) (hl : fs.length < 1000)
    (k : ∀ l H1, H l = none → Ex H H1 → H1 l = some (.lst xs) → D.nx σ (upd H1 p (.ins C dx (putF f (.ref l) fs)))) : sFld K ta te f D σ H :=
  h H (Ex.refl H) _ fun l H1 hn e1 hx => ho H1 e1 _ fun H2 e2 => ⟨p, C, dx, fs, rfl, (e1.trans e2) p _ hp, c, n, hl, k l H2 hn (e1.trans e2) (e2 l _ hx)⟩
theorem q_fld (h : Ev te σ H v) (ho : Ev ta σ H (.ref p)) (hp : H p = some (.ins C dx fs)) (c : Cls K C) (n : NoAttr K C f) (hl : fs.length < 1000) (k : ∀ H1, Ex H H1 → tz D σ (upd H1 p (.ins C dx (putF f v fs)))) : tSeq (sFld K ta te f) tz D σ H :=
  s_fld (D := { D with nx := tz D }) h ho hp c n hl k
theorem q_fldL {xs : List V} (h : EvL te σ H xs) (ho : Ev ta σ H (.ref p)) (hp : H p = some (.ins C dx fs)) (c : Cls K C) (n : NoAttr K C f) (hl : fs.length < 1000)
    (k : ∀ l H1, H l = none → Ex H H1 → H1 l = some (.lst xs) → tz D σ (upd H1 p (.ins C dx (putF f (.ref l) fs)))) : tSeq (sFld K ta te f) tz D σ H :=
  s_fldL (D := { D with nx := tz D }) h ho hp c n hl k
theorem ev_lenT {a : Addr} {xs : List V} (ha : Ev ta σ H (.ref a)) (h : SqT K H a xs) : Ev (tCB (rLenS K) (tCons ta tNil)) σ H (.int (xs.length : Int)) := fun H1 e Q q =>
  ha H1 e _ fun H2 e2 => ⟨a, xs, rfl, Or.inr (ex_t (e.trans e2) h), q H2 e2⟩
theorem ev_ixT {a : Addr} {xs : List V} {i : Int} (ha : Ev ta σ H (.ref a)) (hb : Ev tb σ H (.int i)) (h : SqT K H a xs) (hi : atI xs i = some v) : Ev (tOp (rIxT K) ta tb) σ H v := ev_op ha hb (rv_ixT h hi)
theorem ev_ixL {a : Addr} {xs : List V} {i : Int} (ha : Ev ta σ H (.ref a)) (hb : Ev tb σ H (.int i)) (h : SqL K H a xs) (hi : atI xs i = some v) : Ev (tOp (rIxL K) ta tb) σ H v := ev_op ha hb (rv_ixL h hi)
/-- [None] * n -/
theorem el_rep {n : Nat} (hb : Ev tb σ H (.int (n : Int))) (hn : n ≤ 1000) : EvL (tOp rRep (tLst (tCons (tC .non) tNil)) tb) σ H (List.replicate n V.non) := fun H1 e Q q =>
  ⟨by show 1 ≤ sizeLine; decide, fun l hl => hb _ (e.trans (Ex.new hl)) _ fun H2 e2 => ⟨l, (n : Int), [.non], rfl, rfl, e2 l _ upd_same, by omega, by omega, Nat.le_trans (by show 1 * (n : Int).toNat ≤ 1000; omega) (by decide), fun p2 hp2 => by
    have e3 : (List.replicate (n : Int).toNat [V.non]).flatten = List.replicate n V.non := by simp
    rw [e3]
    exact q p2 _ (fresh_back ((Ex.new hl).trans e2) hp2) (((Ex.new hl).trans e2).trans (Ex.new hp2)) upd_same⟩⟩
/-- [.. for x in range(lo, n) if ..] -/
theorem el_lcR2 {ta : TA} {t : TT} {j : Nat} {vs : List Nat} {lo n : Int} (f : Nat → Bool) (v : Nat → V) (h : EvA ta σ H [.int lo, .int n]) (hn : 0 ≤ lo ∧ lo ≤ 40000 ∧ 0 ≤ n ∧ n ≤ 40000) (hw : ∀ x, wipe ((wipe σ vs).set j (some x)) vs = wipe σ vs)
    (ht : ∀ (i : Nat) H1, Ex H H1 → lo + (i : Int) < n → EvT t ((wipe σ vs).set j (some (.int (lo + (i : Int))))) H1 (f i)) (he : ∀ (i : Nat) H1, Ex H H1 → lo + (i : Int) < n → f i = true → Ev te ((wipe σ vs).set j (some (.int (lo + (i : Int))))) H1 (v i)) :
    EvL (tLc (iRng2 ta) (gName j) t te vs) σ H (given (n - lo).toNat f v) := fun H0 e Q q => h H0 e _ fun H1 e1 => ⟨lo, n, rfl, ⟨by omega, by omega, by omega, by omega⟩, fun Dl hD =>
  lc_range (lo := lo) (n := (n - lo).toNat) (Cw H1 f v Dl) ⟨hD, Ex.new hD, upd_same⟩ (fun i H' hi p =>
    ⟨hw _, cw_turn p (by omega) (ht i H1 (e.trans e1) (by omega)) (fun hf => he i H1 (e.trans e1) (by omega) hf)⟩) (fun H' p => q Dl H' (fresh_back e1 p.1) (e1.trans p.2.1) p.2.2)⟩
theorem rv_gt {i j : Int} : RV (rI0 fun i j => .bl (decide (j < i))) (.int i) (.int j) H (.bl (decide (j < i))) := rv_I0 (g := fun i j => V.bl (decide (j < i)))
theorem rv_ge {i j : Int} : RV (rI0 fun i j => .bl (decide (j ≤ i))) (.int i) (.int j) H (.bl (decide (j ≤ i))) := rv_I0 (g := fun i j => V.bl (decide (j ≤ i)))
theorem ev_add {i j : Int} (ha : Ev ta σ H (.int i)) (hb : Ev tb σ H (.int j)) : Ev (tOp (rI0 fun i j => .int (i + j)) ta tb) σ H (.int (i + j)) := ev_op ha hb (rv_I0 (g := fun i j => V.int (i + j)))
theorem ev_sub {i j : Int} (ha : Ev ta σ H (.int i)) (hb : Ev tb σ H (.int j)) : Ev (tOp (rI0 fun i j => .int (i - j)) ta tb) σ H (.int (i - j)) := ev_op ha hb (rv_I0 (g := fun i j => V.int (i - j)))
end

/-! ### rules over the written part K by name (for comprehensions' blocks) -/
section
variable {X : Cx} {K : PySem.W.Frag}
theorem ix_tupK (h : X.K = K := by rfl) : IxR X (rIxT K) := by
  subst h
  exact ix_tup
theorem op_catAK (h : X.K = K := by rfl) : OpR X (binaryOp .Add) (rCatA K) := by
  subst h
  exact op_catA
def rTupOf (K : PySem.W.Frag) : List V → Hp → VK → Prop := fun xs H Q => ∃ p ys, xs = [.ref p] ∧ ((SqL K H p ys ∧ ∀ l, H l = none → Q (.ref l) (upd H l (.tup ys))) ∨ (SqT K H p ys ∧ Q (.ref p) H))
theorem call_tuple_ofK (h : X.K = K := by rfl) : CallR X (.type "tuple") (rTupOf K) := by
  subst h
  exact call_tuple_of
theorem pi_tupK {tg e : Expr} {te : TE} (he : PE X e te) (h : X.K = K := by rfl) : PI X tg e (iTup K te) := by
  subst h
  exact pi_tup he
theorem pg_tupK {es : List Expr} {k : Nat} {t : TGs} {n : Nat} {pos : Pos} (hc : X.calm = true) (h : PGs X es t) (hK : X.K = K := by rfl)
    (hn : (assignEach es X.env).length = n := by rfl) (hst : (assignEach es X.env).findIdx? (·.1) = none := by rfl) : PG X (.Tuple es k pos) (gTup K n t) := by
  subst hK
  exact pg_tup hc h hn hst
end

/-! ### lists of numbers as values -/
def iV (s : List Nat) : List V := s.map fun (n : Nat) => V.int (n : Int)
theorem iV_len (s : List Nat) : (iV s).length = s.length := by unfold iV; rw [List.length_map]
theorem iV_at {s : List Nat} {j : Nat} (h : j < s.length) : atI (iV s) (j : Int) = some (.int ((s.getD j 0 : Nat) : Int)) := by
  refine atI_nat ?_
  unfold iV
  rw [List.getElem?_map, List.getD_eq_getElem?_getD, List.getElem?_eq_getElem h]
  rfl
end HS

set_option Elab.async false
set_option linter.all false
set_option maxRecDepth 100000
set_option maxHeartbeats 4000000
namespace HS
open PySem PySem.Spec PyProof.Rows L2 Evl

/-! ### Joinings: the object, what stands while it is worked out -/
def oV : Option Nat → V
  | none => .non
  | some n => .int (n : Int)
abbrev Fr4 := Nat × Nat × Nat × Option Nat
def frV (x : Fr4) : List V := [.int (x.1 : Int), .int (x.2.1 : Int), .int (x.2.2.1 : Int), oV x.2.2.2]
theorem n_fl : ¬ (("first" : Str) = "last") := by decide +kernel
theorem n_fa : ¬ (("first" : Str) = "above") := by decide +kernel
theorem n_ff : ¬ (("first" : Str) = "fair") := by decide +kernel
theorem n_la : ¬ (("last" : Str) = "above") := by decide +kernel
theorem n_lf : ¬ (("last" : Str) = "fair") := by decide +kernel
theorem n_af : ¬ (("above" : Str) = "fair") := by decide +kernel
def jf (l1 l2 l3 : Addr) (b : Bool) : List (Str × V) := [("first", .ref l1), ("last", .ref l2), ("above", .ref l3), ("fair", .bl b)]
theorem jf_made (l1 l2 l3 : Addr) (b : Bool) : putF "fair" (.bl b) (putF "above" (.ref l3) (putF "last" (.ref l2) (putF "first" (.ref l1) []))) = jf l1 l2 l3 b := by
  simp only [putF, if_neg n_fl, if_neg n_fa, if_neg n_ff, if_neg n_la, if_neg n_lf, if_neg n_af, jf]
theorem jf_put (l1 l2 l3 : Addr) (a b : Bool) : putF "fair" (.bl b) (jf l1 l2 l3 a) = jf l1 l2 l3 b := by
  simp only [putF, if_neg n_ff, if_neg n_lf, if_neg n_af, jf, if_pos]
theorem jf_first (l1 l2 l3 : Addr) (b : Bool) : (jf l1 l2 l3 b).lookup ("first" : Str) = some (.ref l1) := by
  rw [← jf_made, lookup_putF, if_neg n_ff, lookup_putF, if_neg n_fa, lookup_putF, if_neg n_fl, lookup_putF, if_pos rfl]
theorem jf_last (l1 l2 l3 : Addr) (b : Bool) : (jf l1 l2 l3 b).lookup ("last" : Str) = some (.ref l2) := by
  rw [← jf_made, lookup_putF, if_neg n_lf, lookup_putF, if_neg n_la, lookup_putF, if_pos rfl]
theorem jf_above (l1 l2 l3 : Addr) (b : Bool) : (jf l1 l2 l3 b).lookup ("above" : Str) = some (.ref l3) := by
  rw [← jf_made, lookup_putF, if_neg n_af, lookup_putF, if_pos rfl]
theorem jf_fair (l1 l2 l3 : Addr) (b : Bool) : (jf l1 l2 l3 b).lookup ("fair" : Str) = some (.bl b) := by
  rw [← jf_made, lookup_putF, if_pos rfl]

def sp_J (CJ : Addr) : Sp := fun vs H Q _ => ∃ (p dx a : Addr) (s : List Nat) (R : JS), vs = [.ref p, .ref a] ∧ H p = some (.ins CJ dx []) ∧ H a = some (.tup (iV s)) ∧ s.length ≤ 39 ∧ joins s = some R ∧
  ∀ (l1 l2 l3 : Addr) (H' : Hp), (∀ b o, H b = some o → b ≠ p → H' b = some o) → H' p = some (.ins CJ dx (jf l1 l2 l3 R.fair)) → H' l3 = some (.lst (R.above.map oV)) → Q .non H'

/-- the tuples of the frames that wait -/
abbrev Wt (H : Hp) (rs : List Addr) (ws : List Fr4) : Prop := Paired (fun t x => H t = some (.tup (frV x))) rs ws
theorem Wt.keep {H H' : Hp} {rs : List Addr} {ws : List Fr4} (h : Wt H rs ws) (k : ∀ t xs, H t = some (.tup xs) → H' t = some (.tup xs)) : Wt H' rs ws := Paired.mapP h fun t x e => k t _ e
theorem tup_upd {H : Hp} {x : Addr} {o u : HO} (h : H x = some o) (hn : ∀ xs, o ≠ .tup xs) : ∀ t xs, H t = some (.tup xs) → upd H x u t = some (.tup xs) := fun t xs e => by
  rw [upd_ne (ne_of e h fun z => hn xs z.symm)]
  exact e
theorem tup_ex {H H' : Hp} (e : Ex H H') : ∀ t xs, H t = some (.tup xs) → H' t = some (.tup xs) := fun t _ h => e t _ h

structure JI (s : List Nat) (R : JS) (H0 : Hp) (CJ p dx l1 l2 l3 wa : Addr) (m : Nat) (H : Hp) : Prop where
  kp : ∀ b o, H0 b = some o → b ≠ p → H b = some o
  ex : ∃ (f1 f2 : List V) (ab : List (Option Nat)) (rs : List Addr) (ws : List Fr4) (ok : Bool),
    H p = some (.ins CJ dx (jf l1 l2 l3 ok)) ∧ (H l1 = some (.lst f1) ∧ f1.length = s.length) ∧ (H l2 = some (.lst f2) ∧ f2.length = s.length) ∧ (H l3 = some (.lst (ab.map oV)) ∧ ab.length = s.length) ∧
    (H wa = some (.lst (rs.map V.ref).reverse) ∧ Wt H rs ws) ∧ ((ok = true ∧ ∃ n, m = n + 1 ∧ ws.length + n ≤ 41 ∧ jrun s n ab ws = some R) ∨ (ok = false ∧ m = 0 ∧ R = ⟨ab, false⟩))

theorem jseams_mem {s : List Nat} {f l d x : Nat} (h : x ∈ jseams s f l d) : f ≤ x ∧ x < l := by
  unfold jseams at h
  obtain ⟨y, hy, rfl⟩ := List.mem_map.mp h
  have := List.mem_range.mp (List.mem_filter.mp hy).1
  omega
theorem jseams_given (s : List Nat) (f l d : Nat) : (jseams s f l d).map (fun x => V.int ((x : Nat) : Int)) = given (l - f) (fun i => Nat.ble (s.getD (f + i) 0) d) (fun i => V.int ((f : Int) + (i : Int))) := by
  unfold jseams given
  rw [List.map_map]
  congr 1

theorem jrun_step {s : List Nat} {n : Nat} {ab : List (Option Nat)} {f l d : Nat} {a : Option Nat} {w : List Fr4} {R : JS} (h : jrun s (n + 1) ab ((f, l, d, a) :: w) = some R) :
    l ≤ s.length ∧ (¬ f < l → jrun s n ab w = some R) ∧ (f < l → ∀ x, jseams s f l d = [x] → s.getD x 0 = d → jrun s n (ab.set x a) ((x + 1, l, d + 1, some x) :: (f, x, d + 1, some x) :: w) = some R) ∧
      (f < l → (∀ x, jseams s f l d = [x] → ¬ s.getD x 0 = d) → R = ⟨ab, false⟩) := by
  unfold jrun at h
  by_cases h1 : s.length < l
  · rw [if_pos h1] at h
    cases h
  · rw [if_neg h1] at h
    refine ⟨by omega, fun hf => ?_, fun hf x hx hd => ?_, fun hf hx => ?_⟩
    · rw [if_neg hf] at h
      exact h
    · rw [if_pos hf, hx] at h
      simp only [if_pos hd] at h
      exact h
    · rw [if_pos hf] at h
      cases hj : jseams s f l d with
      | nil =>
        rw [hj] at h
        exact (Option.some.inj h).symm
      | cons x r =>
        cases r with
        | nil =>
          rw [hj] at h
          simp only [if_neg (hx x hj)] at h
          exact (Option.some.inj h).symm
        | cons y r =>
          rw [hj] at h
          exact (Option.some.inj h).symm
theorem ble_dec (x y : Nat) : decide ((x : Int) ≤ (y : Int)) = Nat.ble x y := by
  cases h : Nat.ble x y with
  | true => exact decide_eq_true (by have := Nat.le_of_ble_eq_true h; omega)
  | false => exact decide_eq_false (by have := Nat.not_le_of_not_ble_eq_true (by rw [h]; decide : ¬ Nat.ble x y = true); omega)
theorem jrun_zero {s : List Nat} {ab : List (Option Nat)} {x : Fr4} {w : List Fr4} {R : JS} : jrun s 0 ab (x :: w) = some R → False := by
  intro h
  unfold jrun at h
  cases h
theorem jrun_nil {s : List Nat} {n : Nat} {ab : List (Option Nat)} {R : JS} (h : jrun s n ab [] = some R) : R = ⟨ab, true⟩ := by
  cases n <;> (unfold jrun at h; exact (Option.some.inj h).symm)
theorem s_asgLU {σ : L2.St} {H : Hp} {te : TE} {D : Ends} {xs : List V} {i : Nat} (h : EvU te σ H xs)
    (k : ∀ t l H1, H t = none → H l = none → Ex H H1 → H1 t = some (.tup xs) → H1 l = some (.lst [.ref t]) → D.nx (σ.set i (some (.ref l))) H1) : tAsg (tLst (tCons te tNil)) (gName i) D σ H :=
  h H (Ex.refl H) _ fun t H1 ht e1 hx => ⟨by show 1 ≤ sizeLine; decide, fun l hl => k t l _ ht (fresh_back e1 hl) (e1.trans (Ex.new hl)) (Ex.new hl t _ hx) upd_same⟩

/-- the parts apart -/
structure Ap (H0 : Hp) (p l1 l2 l3 wa : Addr) : Prop where
  p1 : l1 ≠ p
  p2 : l2 ≠ p
  p3 : l3 ≠ p
  pw : wa ≠ p
  d12 : l1 ≠ l2
  d13 : l1 ≠ l3
  d1w : l1 ≠ wa
  d23 : l2 ≠ l3
  d2w : l2 ≠ wa
  d3w : l3 ≠ wa
  f1 : H0 l1 = none
  f2 : H0 l2 = none
  f3 : H0 l3 = none
  fw : H0 wa = none
structure JB (H0 : Hp) (CJ p dx l1 l2 l3 wa : Addr) (v1 v2 v3 vw : List V) (rs : List Addr) (ws : List Fr4) (H : Hp) : Prop where
  kp : ∀ b o, H0 b = some o → b ≠ p → H b = some o
  hP : H p = some (.ins CJ dx (jf l1 l2 l3 true))
  h1 : H l1 = some (.lst v1)
  h2 : H l2 = some (.lst v2)
  h3 : H l3 = some (.lst v3)
  hw : H wa = some (.lst vw)
  ht : Wt H rs ws
section
variable {H0 H H' : Hp} {CJ p dx l1 l2 l3 wa : Addr} {v1 v2 v3 vw u : List V} {rs : List Addr} {ws : List Fr4}
theorem JB.ex (B : JB H0 CJ p dx l1 l2 l3 wa v1 v2 v3 vw rs ws H) (e : Ex H H') : JB H0 CJ p dx l1 l2 l3 wa v1 v2 v3 vw rs ws H' :=
  ⟨fun b o q hb => e _ _ (B.kp b o q hb), e _ _ B.hP, e _ _ B.h1, e _ _ B.h2, e _ _ B.h3, e _ _ B.hw, Wt.keep B.ht (tup_ex e)⟩
theorem JB.set1 (A : Ap H0 p l1 l2 l3 wa) (B : JB H0 CJ p dx l1 l2 l3 wa v1 v2 v3 vw rs ws H) : JB H0 CJ p dx l1 l2 l3 wa u v2 v3 vw rs ws (upd H l1 (.lst u)) :=
  ⟨fun b o q hb => by rw [upd_ne (ne_of_none q A.f1)]; exact B.kp b o q hb, by rw [upd_ne A.p1.symm]; exact B.hP, upd_same, by rw [upd_ne A.d12.symm]; exact B.h2, by rw [upd_ne A.d13.symm]; exact B.h3, by rw [upd_ne A.d1w.symm]; exact B.hw, Wt.keep B.ht (tup_upd B.h1 fun _ z => nomatch z)⟩
theorem JB.set2 (A : Ap H0 p l1 l2 l3 wa) (B : JB H0 CJ p dx l1 l2 l3 wa v1 v2 v3 vw rs ws H) : JB H0 CJ p dx l1 l2 l3 wa v1 u v3 vw rs ws (upd H l2 (.lst u)) :=
  ⟨fun b o q hb => by rw [upd_ne (ne_of_none q A.f2)]; exact B.kp b o q hb, by rw [upd_ne A.p2.symm]; exact B.hP, by rw [upd_ne A.d12]; exact B.h1, upd_same, by rw [upd_ne A.d23.symm]; exact B.h3, by rw [upd_ne A.d2w.symm]; exact B.hw, Wt.keep B.ht (tup_upd B.h2 fun _ z => nomatch z)⟩
theorem JB.set3 (A : Ap H0 p l1 l2 l3 wa) (B : JB H0 CJ p dx l1 l2 l3 wa v1 v2 v3 vw rs ws H) : JB H0 CJ p dx l1 l2 l3 wa v1 v2 u vw rs ws (upd H l3 (.lst u)) :=
  ⟨fun b o q hb => by rw [upd_ne (ne_of_none q A.f3)]; exact B.kp b o q hb, by rw [upd_ne A.p3.symm]; exact B.hP, by rw [upd_ne A.d13]; exact B.h1, by rw [upd_ne A.d23]; exact B.h2, upd_same, by rw [upd_ne A.d3w.symm]; exact B.hw, Wt.keep B.ht (tup_upd B.h3 fun _ z => nomatch z)⟩
theorem JB.setw (A : Ap H0 p l1 l2 l3 wa) (B : JB H0 CJ p dx l1 l2 l3 wa v1 v2 v3 vw rs ws H) : JB H0 CJ p dx l1 l2 l3 wa v1 v2 v3 u rs ws (upd H wa (.lst u)) :=
  ⟨fun b o q hb => by rw [upd_ne (ne_of_none q A.fw)]; exact B.kp b o q hb, by rw [upd_ne A.pw.symm]; exact B.hP, by rw [upd_ne A.d1w]; exact B.h1, by rw [upd_ne A.d2w]; exact B.h2, by rw [upd_ne A.d3w]; exact B.h3, upd_same, Wt.keep B.ht (tup_upd B.hw fun _ z => nomatch z)⟩
theorem JB.push (A : Ap H0 p l1 l2 l3 wa) (B : JB H0 CJ p dx l1 l2 l3 wa v1 v2 v3 (rs.map V.ref).reverse rs ws H) {t : Addr} {x : Fr4} (h : H t = some (.tup (frV x))) :
    JB H0 CJ p dx l1 l2 l3 wa v1 v2 v3 ((t :: rs).map V.ref).reverse (t :: rs) (x :: ws) (upd H wa (.lst ((rs.map V.ref).reverse ++ [.ref t]))) := by
  have e : ((t :: rs).map V.ref).reverse = (rs.map V.ref).reverse ++ [V.ref t] := by simp
  have q := B.setw A (u := (rs.map V.ref).reverse ++ [.ref t])
  rw [e]
  exact ⟨q.kp, q.hP, q.h1, q.h2, q.h3, q.hw, .cons (tup_upd B.hw (fun _ z => nomatch z) _ _ h) q.ht⟩
end
theorem map_set_oV (ab : List (Option Nat)) (x : Nat) (a : Option Nat) : (ab.map oV).set x (oV a) = (ab.set x a).map oV := by rw [List.map_set]

section
variable {P : Program} {w : World} {K : PySem.W.Frag} {mg : Str → Option Value} {base : Heap} {CJ CF : Addr} {t1 t2 t3 : Tok}
abbrev N_J : List Str := ["self", "shape", "waiting", "first", "last", "depth", "above", "seam", "seams"]
theorem sc_J : FnScope N_J ["self", "shape"] (defScope s_J) := ⟨rfl, rfl, rfl, by decide +kernel, rfl, by decide +kernel, by decide +kernel⟩
theorem ok_J {f : Addr} {fd : FuncData} (T : Txt K mg CJ CF t1 t2 t3) (F : Fun K "__init__" "Joinings.__init__" s_J f fd) : FnOk P w K mg base CX0 1 f fd ["self", "shape"] (sp_J CJ) := by
  refine F.ok sc_J (fun vs H Q E h => ?_) (fun cdv A outer s H vs Q E hr h => ?_)
  · obtain ⟨p, dx, a, s, R, rfl, _⟩ := h
    rfl
  · obtain ⟨p, dx, a, s, R, rfl, hp, ha, hs, hR, k⟩ := h
    refine ⟨_, (pss_cons (ps_fld (pv 0) (pe_op op_rep (pe_lst (pa_cons pe_non pa_nil)) (pe_callB call_len_seq (by rfl) T.nlen PySem.boot_len (pa_cons (pv 1) pa_nil))) rfl)
      (pss_cons (ps_fld (pv 0) (pe_op op_rep (pe_lst (pa_cons pe_non pa_nil)) (pe_callB call_len_seq (by rfl) T.nlen PySem.boot_len (pa_cons (pv 1) pa_nil))) rfl)
      (pss_cons (ps_fld (pv 0) (pe_op op_rep (pe_lst (pa_cons pe_non pa_nil)) (pe_callB call_len_seq (by rfl) T.nlen PySem.boot_len (pa_cons (pv 1) pa_nil))) rfl)
      (pss_cons (ps_fld (pv 0) pe_bl rfl)
      (pss_cons (ps_set (i := 2) sc_J.nd rfl (Or.inl rfl) (pe_lst (pa_cons (pe_tup (pa_cons pe_int (pa_cons (pe_callB call_len_seq (by rfl) T.nlen PySem.boot_len (pa_cons (pv 1) pa_nil)) (pa_cons pe_int (pa_cons pe_non pa_nil))))) pa_nil)))
      (pss_one (ps_while PassesOwn.never (PW.pt (pw_and (pt_cmpR op_gt (pe_callB call_len_seq (by rfl) T.nlen PySem.boot_len (pa_cons (pv 2) pa_nil)) pe_int (nomark _)) (pw_and1 (pt_val (pe_fld (pv 0) rfl))))) (pss_cons (ps_asg (pe_bm0 PySem.F.plainAttrs_list PySem.F.slot_list_pop PySem.F.type_list_pop mt_pop (pv 2)) (pg_tup rfl (pgs_cons (pg_name (i := 3) sc_J.nd rfl (Or.inl rfl)) (pgs_cons (pg_name (i := 4) sc_J.nd rfl (Or.inl rfl)) (pgs_cons (pg_name (i := 5) sc_J.nd rfl (Or.inr rfl)) (pgs_cons (pg_name (i := 6) sc_J.nd rfl (Or.inl rfl)) pgs_nil))))))
      (pss_one (ps_if (pt_cmpR op_lt (pv 3) (pv 4) (nomark _)) (pss_cons (ps_setLc (i := 8) (own := [("seam", 7)]) (g := gName 7) rfl sc_J.nd rfl rfl (sw_true rfl rfl rfl (by decide +kernel)) (pi_range2 (by rfl) T.nrange (pa_cons (pv 3) (pa_cons (pv 4) pa_nil))) (blkOk_by (N := N_J) (sc := defScope s_J) (by decide +kernel)) (fun _ _ _ _ _ => pg_name (i := 7) sc_J.nd rfl (Or.inl rfl)) (fun _ _ _ _ _ => pts_one (pt_cmpR op_le (pe_ix (ix_tupK (K := K)) (pv 1) (pv 7) (fun _ _ => rfl)) (pv 5) (nomark _))) (fun _ _ _ _ _ => (pv 7)))
      (pss_one (ps_if (PW.pt (pw_or (pt_cmpR op_ne (pe_callB call_len_seq (by rfl) T.nlen PySem.boot_len (pa_cons (pv 8) pa_nil)) pe_int (nomark _)) (pw_or1 (pt_cmpR op_ne (pe_ix ix_tup (pv 1) (pe_ix ix_list (pv 8) pe_int (fun _ _ => rfl)) (fun _ _ => rfl)) (pv 5) (nomark _))))) (pss_one (ps_fld (pv 0) pe_bl rfl)) (pss_cons (ps_set (i := 7) sc_J.nd rfl (Or.inl rfl) (pe_ix ix_list (pv 8) pe_int (fun _ _ => rfl)))
      (pss_cons (ps_asg (pv 3) (pg_sub (pe_fld (pv 0) rfl) (pv 7) set_list))
      (pss_cons (ps_asg (pv 4) (pg_sub (pe_fld (pv 0) rfl) (pv 7) set_list))
      (pss_cons (ps_asg (pv 6) (pg_sub (pe_fld (pv 0) rfl) (pv 7) set_list))
      (pss_cons (ps_expr (pe_bm PySem.F.plainAttrs_list PySem.F.slot_list_append PySem.F.type_list_append mt_append (pv 2) (pa_cons (pe_tup (pa_cons (pv 3) (pa_cons (pv 7) (pa_cons (pe_op op_add (pv 5) pe_int) (pa_cons (pv 7) pa_nil))))) pa_nil)))
      (pss_one (ps_expr (pe_bm PySem.F.plainAttrs_list PySem.F.slot_list_append PySem.F.type_list_append mt_append (pv 2) (pa_cons (pe_tup (pa_cons (pe_op op_add (pv 7) pe_int) (pa_cons (pv 4) (pa_cons (pe_op op_add (pv 5) pe_int) (pa_cons (pv 7) pa_nil))))) pa_nil)))))))))))) pss_nil)))))))))), ?_⟩
    have npa : a ≠ p := ne_of ha hp (fun z => nomatch z)
    have eN : ∀ {H1 : Hp} {σ : L2.St}, H1 a = some (.tup (iV s)) → σ[1]? = some (some (.ref a)) → Ev (tCB (rLenS K) (tCons (tVar 1) tNil)) σ H1 (.int (s.length : Int)) := fun {H1 σ} h1 h2 => by
      have q := ev_lenT (K := K) (ev_var (H := H1) h2) (SqT.of h1)
      rw [iV_len] at q
      exact q
    -- self.first, self.last, self.above, self.fair
    refine q_fldL (el_rep (eN ha rfl) (by omega)) (ev_var rfl) hp T.clJ T.jfirst (by decide) fun l1 H1 n1 e1 h1 => ?_
    refine q_fldL (el_rep (eN (by rw [upd_ne npa]; exact e1 _ _ ha) rfl) (by omega)) (ev_var rfl) upd_same T.clJ T.jlast (by show 1 < 1000; decide) fun l2 H2 n2 e2 h2 => ?_
    refine q_fldL (el_rep (eN (by rw [upd_ne npa]; exact e2 _ _ (by rw [upd_ne npa]; exact e1 _ _ ha)) rfl) (by omega)) (ev_var rfl) upd_same T.clJ T.jabove (by simp only [putF, if_neg n_fl]; show 2 < 1000; decide) fun l3 H3 n3 e3 h3 => ?_
    refine q_fld ev_c (ev_var rfl) upd_same T.clJ T.jfair (by simp only [putF, if_neg n_fl, if_neg n_fa, if_neg n_la]; show 3 < 1000; decide) fun H4 e4 => ?_
    rw [jf_made]
    -- what stands now
    have p1 : l1 ≠ p := (ne_of_none hp n1).symm
    have p2 : l2 ≠ p := (ne_of_none upd_same n2).symm
    have p3 : l3 ≠ p := (ne_of_none upd_same n3).symm
    rw [upd_ne p2] at n2
    rw [upd_ne p3] at n3
    have d12 : l1 ≠ l2 := ne_of_none h1 n2
    have g1 : H2 l1 = some (.lst (List.replicate s.length V.non)) := e2 _ _ (by rw [upd_ne p1]; exact h1)
    have d13 : l1 ≠ l3 := ne_of_none g1 n3
    have d23 : l2 ≠ l3 := ne_of_none h2 n3
    have g1' : H4 l1 = some (.lst (List.replicate s.length V.non)) := e4 _ _ (by rw [upd_ne p1]; exact e3 _ _ (by rw [upd_ne p1]; exact g1))
    have g2' : H4 l2 = some (.lst (List.replicate s.length V.non)) := e4 _ _ (by rw [upd_ne p2]; exact e3 _ _ (by rw [upd_ne p2]; exact h2))
    have g3' : H4 l3 = some (.lst (List.replicate s.length V.non)) := e4 _ _ (by rw [upd_ne p3]; exact h3)
    have f1 : H l1 = Option.none := n1
    have f2 : H l2 = Option.none := fresh_back e1 n2
    have f3 : H l3 = Option.none := by
      cases q : H l3 with
      | none => rfl
      | some o =>
        have z := e2 _ _ (show upd H1 p _ l3 = some o by rw [upd_ne p3]; exact e1 _ _ q)
        rw [n3] at z
        cases z
    have kp4 : ∀ b o, H b = some o → b ≠ p → H4 b = some o := fun b o q hb => e4 _ _ (by rw [upd_ne hb]; exact e3 _ _ (by rw [upd_ne hb]; exact e2 _ _ (by rw [upd_ne hb]; exact e1 _ _ q)))
    -- waiting = [(0, len(shape), 0, None)]
    have ha4 : upd H4 p (.ins CJ dx (jf l1 l2 l3 true)) a = some (.tup (iV s)) := by rw [upd_ne npa]; exact kp4 _ _ ha npa
    refine s_asgLU (D := { nx := _, rt := Q }) (xs := frV (0, s.length, 0, none)) (eu_tup (ea_cons ev_c (ea_cons (eN ha4 rfl) (ea_cons ev_c (ea_cons ev_c ea_nil)))) (by show 4 ≤ 100000; decide)) fun t0 wa H5 nt nw e5 ht hw => ?_
    have pw : wa ≠ p := (ne_of_none upd_same nw).symm
    rw [upd_ne pw] at nw
    have d1w : l1 ≠ wa := ne_of_none g1' nw
    have d2w : l2 ≠ wa := ne_of_none g2' nw
    have d3w : l3 ≠ wa := ne_of_none g3' nw
    have fw : H wa = Option.none := by
      cases q : H wa with
      | none => rfl
      | some o =>
        rw [kp4 _ _ q pw] at nw
        cases nw
    have J5 : JI s R H CJ p dx l1 l2 l3 wa 41 H5 := by
      refine ⟨fun b o q hb => e5 _ _ (by rw [upd_ne hb]; exact kp4 _ _ q hb), List.replicate s.length V.non, List.replicate s.length V.non, List.replicate s.length none, [t0], [(0, s.length, 0, none)], true,
        e5 _ _ upd_same, ⟨e5 _ _ (by rw [upd_ne p1]; exact g1'), List.length_replicate⟩, ⟨e5 _ _ (by rw [upd_ne p2]; exact g2'), List.length_replicate⟩, ⟨e5 _ _ (by rw [upd_ne p3, List.map_replicate]; exact g3'), List.length_replicate⟩, ⟨hw, .cons ht .nil⟩, .inl ⟨rfl, 40, rfl, (by show 1 + 40 ≤ 41; decide), hR⟩⟩
    refine s_while (fun m σ' H' => (∃ x3 x4 x5 x6 x7 x8 : Option V, σ' = [some (.ref p), some (.ref a), some (.ref wa), x3, x4, x5, x6, x7, x8]) ∧ JI s R H CJ p dx l1 l2 l3 wa m H') 41 ⟨⟨none, none, none, none, none, none, rfl⟩, J5⟩ ?_
    rintro m σ' H' ⟨⟨x3, x4, x5, x6, x7, x8, rfl⟩, J⟩
    obtain ⟨kp, v1, v2, ab, rs, ws, okk, hP, hL1, hL2, hL3, ⟨hW, hT⟩, hc⟩ := J
    have hlen : rs.length = ws.length := Paired.length hT
    refine ⟨decide ((0 : Int) < (rs.length : Int)) && okk, et_and (et_test (ev_op (ev_is (ev_len (ev_var rfl) (SqL.of hW)) (by rw [List.length_reverse, List.length_map])) ev_c rv_gt)) (fun _ => et_B (ev_fld (ev_var rfl) hP T.clJ T.jfair (jf_fair _ _ _ _))), fun hb H6 e6 => ?_, fun hb H6 e6 => ?_⟩
    · -- a turn
      obtain ⟨hb1, rfl⟩ := Bool.and_eq_true_iff.mp hb
      rcases hc with ⟨_, n, rfl, hbd, hr⟩ | ⟨z, _⟩
      rotate_left
      · cases z
      cases hT with
      | nil => simp at hb1
      | @cons t fr rest wr hT1 hT2 =>
      obtain ⟨ff, ll, dd, aa⟩ := fr
      cases n with
      | zero => exact (jrun_zero hr).elim
      | succ n =>
      obtain ⟨hl, hno, hyes, hbad⟩ := jrun_step hr
      replace kp : ∀ b o, H b = some o → b ≠ p → H6 b = some o := fun b o q hb => e6 _ _ (kp b o q hb)
      replace hP := e6 _ _ hP
      replace hL1 : H6 l1 = some (.lst v1) ∧ v1.length = s.length := ⟨e6 _ _ hL1.1, hL1.2⟩
      replace hL2 : H6 l2 = some (.lst v2) ∧ v2.length = s.length := ⟨e6 _ _ hL2.1, hL2.2⟩
      replace hL3 : H6 l3 = some (.lst (ab.map oV)) ∧ ab.length = s.length := ⟨e6 _ _ hL3.1, hL3.2⟩
      replace hW := e6 _ _ hW
      replace hT1 := e6 _ _ hT1
      replace hT2 := Wt.keep hT2 (tup_ex e6)
      have hWe : ((t :: rest).map V.ref).reverse = (rest.map V.ref).reverse ++ [V.ref t] := by simp
      rw [hWe] at hW
      refine ⟨fun σ2 H2 => ∃ m', m' < n + 1 + 1 ∧ (∃ x3 x4 x5 x6 x7 x8 : Option V, σ2 = [some (.ref p), some (.ref a), some (.ref wa), x3, x4, x5, x6, x7, x8]) ∧ JI s R H CJ p dx l1 l2 l3 wa m' H2, fun _ _ z => z, ?_⟩
      -- first, last, depth, above = waiting.pop()
      refine ⟨_, rfl, .inl ⟨rfl, _, SqL.of hW⟩, wa, _, V.ref t, rfl, rfl, hW, (by simp), ?_⟩
      rw [List.dropLast_concat]
      have pwW : ∀ o, (upd H6 wa o) p = some (.ins CJ dx (jf l1 l2 l3 true)) := fun o => by rw [upd_ne (Ne.symm pw)]; exact hP
      have tw := tup_upd (u := .lst (rest.map V.ref).reverse) hW (fun _ z => nomatch z)
      generalize hG : upd H6 wa (.lst (rest.map V.ref).reverse) = H7 at tw
      have kp7 : ∀ b o, H b = some o → b ≠ p → H7 b = some o := fun b o q hb => by
        rw [← hG, upd_ne (ne_of_none q fw)]
        exact kp b o q hb
      have hP7 : H7 p = some (.ins CJ dx (jf l1 l2 l3 true)) := by rw [← hG]; exact pwW _
      have hL17 : H7 l1 = some (.lst v1) := by rw [← hG, upd_ne d1w]; exact hL1.1
      have hL27 : H7 l2 = some (.lst v2) := by rw [← hG, upd_ne d2w]; exact hL2.1
      have hL37 : H7 l3 = some (.lst (ab.map oV)) := by rw [← hG, upd_ne d3w]; exact hL3.1
      have hW7 : H7 wa = some (.lst (rest.map V.ref).reverse) := by rw [← hG, upd_same]
      have hT17 := tw _ _ hT1
      have hT27 := Wt.keep hT2 tw
      have ha7 : H7 a = some (.tup (iV s)) := kp7 _ _ ha npa
      refine ⟨t, _, rfl, SqT.of hT17, rfl, _, _, rfl, _, _, rfl, _, _, rfl, _, _, rfl, rfl, ?_⟩
      dsimp only
      simp only [List.set_cons_zero, List.set_cons_succ]
      refine s_if (et_test (ev_op (ev_var rfl) (ev_var rfl) rv_lt)) (fun hfl H8 e8 => ?_) (fun hfl H8 e8 => ?_)
      · have hfl' : ff < ll := by
          have := of_decide_eq_true hfl
          omega
        replace kp7 : ∀ b o, H b = some o → b ≠ p → H8 b = some o := fun b o q hb => e8 _ _ (kp7 b o q hb)
        replace hP7 := e8 _ _ hP7
        replace hL17 := e8 _ _ hL17
        replace hL27 := e8 _ _ hL27
        replace hL37 := e8 _ _ hL37
        replace hW7 := e8 _ _ hW7
        replace hT27 := Wt.keep hT27 (tup_ex e8)
        replace ha7 := e8 _ _ ha7
        -- seams = [seam for seam in range(first, last) if shape[seam] <= depth]
        refine q_asgL (el_lcR2 (fun i => Nat.ble (s.getD (ff + i) 0) dd) (fun i => .int ((ff : Int) + (i : Int))) (ea_cons (ev_var rfl) (ea_cons (ev_var rfl) ea_nil)) (by omega) (fun x => rfl)
          (fun i Hx ex hi => et_is (et_test (ev_op (ev_ixT (ev_var rfl) (ev_var rfl) (SqT.of (ex _ _ ha7)) (iV_at (j := ff + i) (by omega))) (ev_var rfl) rv_le)) (ble_dec _ _)) (fun i Hx ex hi _ => ev_var rfl)) fun Dl H9 nD e9 hD => ?_
        have ez : ((ll : Int) - (ff : Int)).toNat = ll - ff := by omega
        rw [ez, ← jseams_given] at hD
        simp only [List.set_cons_zero, List.set_cons_succ]
        replace kp7 : ∀ b o, H b = some o → b ≠ p → H9 b = some o := fun b o q hb => e9 _ _ (kp7 b o q hb)
        replace hP7 := e9 _ _ hP7
        replace hL17 := e9 _ _ hL17
        replace hL27 := e9 _ _ hL27
        replace hL37 := e9 _ _ hL37
        replace hW7 := e9 _ _ hW7
        replace hT27 := Wt.keep hT27 (tup_ex e9)
        replace ha7 := e9 _ _ ha7
        -- len(seams)
        have eL := ev_len (K := K) (ev_var (σ := [some (.ref p), some (.ref a), some (.ref wa), some (.int (ff : Int)), some (.int (ll : Int)), some (.int (dd : Int)), some (oV aa), x7, some (V.ref Dl)]) (i := 8) rfl) (SqL.of hD)
        by_cases hgood : ∃ x, jseams s ff ll dd = [x] ∧ s.getD x 0 = dd
        · obtain ⟨x, hx, hxd⟩ := hgood
          have hm := jseams_mem (s := s) (f := ff) (l := ll) (d := dd) (x := x) (by rw [hx]; exact List.mem_cons_self)
          rw [hx] at hD eL
          have A : Ap H p l1 l2 l3 wa := ⟨p1, p2, p3, pw, d12, d13, d1w, d23, d2w, d3w, f1, f2, f3, fw⟩
          have B : JB H CJ p dx l1 l2 l3 wa v1 v2 (ab.map oV) (rest.map V.ref).reverse rest wr H9 := ⟨kp7, hP7, hL17, hL27, hL37, hW7, hT27⟩
          have eI : atI [V.int (x : Int)] 0 = some (V.int (x : Int)) := rfl
          refine s_if (b := false) ?_ (fun z => nomatch z) (fun _ H10 e10 => ?_)
          · have z := et_or (et_test (ev_op eL (ev_c (v := .int 1)) (rv_ne rfl))) fun _ => et_test (ev_op (ev_ixT (K := K) (ev_var (i := 1) rfl) (ev_ixL (K := K) (ev_var (i := 8) rfl) (ev_c (v := .int 0)) (SqL.of hD) eI) (SqT.of ha7) (iV_at (j := x) (by omega))) (ev_var (i := 5) rfl) (rv_ne rfl))
            rw [hxd] at z
            refine et_is z ?_
            rw [decide_eq_true (rfl : V.int (dd : Int) = V.int (dd : Int)), decide_eq_true (show V.int (((List.map (fun (x : Nat) => V.int (x : Int)) [x]).length : Nat) : Int) = V.int 1 from rfl)]
            rfl
          · replace B := B.ex e10
            refine q_asg (ev_ixL (ev_var rfl) (ev_c (v := .int 0)) (SqL.of (e10 _ _ hD)) eI) fun H11 e11 => ?_
            simp only [List.set_cons_zero, List.set_cons_succ]
            replace B := B.ex e11
            refine q_setL (j := x) B.h1 (ev_var rfl) (ev_fld (ev_var rfl) B.hP T.clJ T.jfirst (jf_first _ _ _ _)) (ev_var rfl) (by omega) fun H12 e12 => ?_
            replace B := (B.ex e12).set1 A (u := v1.set x (.int (ff : Int)))
            refine q_setL (j := x) B.h2 (ev_var rfl) (ev_fld (ev_var rfl) B.hP T.clJ T.jlast (jf_last _ _ _ _)) (ev_var rfl) (by omega) fun H13 e13 => ?_
            replace B := (B.ex e13).set2 A (u := v2.set x (.int (ll : Int)))
            refine q_setL (j := x) B.h3 (ev_var rfl) (ev_fld (ev_var rfl) B.hP T.clJ T.jabove (jf_above _ _ _ _)) (ev_var rfl) (by rw [List.length_map]; omega) fun H14 e14 => ?_
            replace B := (B.ex e14).set3 A (u := (ab.map oV).set x (oV aa))
            rw [map_set_oV] at B
            rw [map_set_oV]
            have lr : rest.length < 100000 := by
              have := Paired.length B.ht
              rw [List.length_cons] at hbd
              omega
            refine q_appU (xs := (rest.map V.ref).reverse) (ys := frV (ff, x, dd + 1, some x)) B.hw (ev_var rfl) (eu_tup (ea_cons (ev_var rfl) (ea_cons (ev_var rfl) (ea_cons (ev_is (ev_add (ev_var rfl) ev_c) rfl) (ea_cons (ev_var rfl) ea_nil)))) (by show 4 ≤ 100000; decide)) (by rw [List.length_reverse, List.length_map]; exact lr) fun t1 H15 n1 e15 ht1 => ?_
            replace B := (B.ex e15).push A ht1
            have e16 : (rest.map V.ref).reverse ++ [V.ref t1] = ((t1 :: rest).map V.ref).reverse := by simp
            refine s_appU (xs := ((t1 :: rest).map V.ref).reverse) (ys := frV (x + 1, ll, dd + 1, some x)) B.hw (ev_var rfl) (eu_tup (ea_cons (ev_is (ev_add (ev_var rfl) ev_c) rfl) (ea_cons (ev_var rfl) (ea_cons (ev_is (ev_add (ev_var rfl) ev_c) rfl) (ea_cons (ev_var rfl) ea_nil)))) (by show 4 ≤ 100000; decide)) (by rw [List.length_reverse, List.length_map, List.length_cons]; have := Paired.length B.ht; rw [List.length_cons, List.length_cons] at this; rw [List.length_cons] at hbd; omega) fun t2 H16 n2 e16 ht2 => ?_
            replace B := (B.ex e16).push A ht2
            refine ⟨n + 1, by omega, ⟨_, _, _, _, _, _, rfl⟩, B.kp, _, _, _, _, _, true, B.hP, ⟨B.h1, by rw [List.length_set]; exact hL1.2⟩, ⟨B.h2, by rw [List.length_set]; exact hL2.2⟩, ⟨B.h3, by rw [List.length_set]; exact hL3.2⟩, ⟨B.hw, B.ht⟩, .inl ⟨rfl, n, rfl, ?_, hyes hfl' x hx hxd⟩⟩
            rw [List.length_cons, List.length_cons]
            rw [List.length_cons] at hbd
            omega
        · -- not fair
          refine s_if (b := true) ?_ (fun _ H10 e10 => ?_) (fun z => nomatch z)
          · by_cases h1 : (jseams s ff ll dd).length = 1
            · obtain ⟨x, hx⟩ := List.length_eq_one_iff.mp h1
              have hm := jseams_mem (s := s) (f := ff) (l := ll) (d := dd) (x := x) (by rw [hx]; exact List.mem_cons_self)
              rw [hx] at hD eL
              have eI : atI [V.int (x : Int)] 0 = some (V.int (x : Int)) := rfl
              refine et_is (et_or (et_test (ev_op eL (ev_c (v := .int 1)) (rv_ne rfl))) fun _ => et_test (ev_op (ev_ixT (K := K) (ev_var (i := 1) rfl) (ev_ixL (K := K) (ev_var (i := 8) rfl) (ev_c (v := .int 0)) (SqL.of hD) eI) (SqT.of ha7) (iV_at (j := x) (by omega))) (ev_var (i := 5) rfl) (rv_ne rfl))) ?_
              have nd : ¬ V.int ((s.getD x 0 : Nat) : Int) = V.int (dd : Int) := fun z => hgood ⟨x, hx, by injection z with z; omega⟩
              rw [decide_eq_false nd]
              simp
            · refine et_is (et_or (b := true) (et_test (ev_op eL (ev_c (v := .int 1)) (rv_ne rfl))) fun z => ?_) (Bool.or_true _)
              exfalso
              simp only [List.length_map, Bool.not_eq_false', decide_eq_true_eq] at z
              injection z with z
              omega
          · refine s_fld ev_c (ev_var rfl) (e10 _ _ hP7) T.clJ T.jfair (by show 4 < 1000; decide) fun H11 e11 => ?_
            rw [jf_put]
            refine ⟨0, by omega, ⟨_, _, _, _, _, _, rfl⟩, fun b o q hb => ?_, v1, v2, ab, rest, wr, false, upd_same, ⟨?_, hL1.2⟩, ⟨?_, hL2.2⟩, ⟨?_, hL3.2⟩, ⟨?_, ?_⟩, .inr ⟨rfl, rfl, hbad hfl' fun x hx hxd => hgood ⟨x, hx, hxd⟩⟩⟩
            · rw [upd_ne hb]
              exact e11 _ _ (e10 _ _ (kp7 _ _ q hb))
            · rw [upd_ne p1]
              exact e11 _ _ (e10 _ _ hL17)
            · rw [upd_ne p2]
              exact e11 _ _ (e10 _ _ hL27)
            · rw [upd_ne p3]
              exact e11 _ _ (e10 _ _ hL37)
            · rw [upd_ne pw]
              exact e11 _ _ (e10 _ _ hW7)
            · exact Wt.keep hT27 fun t xs q => tup_upd (e11 _ _ (e10 _ _ hP7)) (fun _ z => nomatch z) t xs (e11 _ _ (e10 _ _ q))
      · -- no seam: the frame falls away
        have hfl' : ¬ ff < ll := by
          have := of_decide_eq_false hfl
          omega
        refine ⟨n + 1, by omega, ⟨_, _, _, _, _, _, rfl⟩, fun b o q hb => e8 _ _ (kp7 b o q hb), v1, v2, ab, rest, wr, true, e8 _ _ hP7, ⟨e8 _ _ hL17, hL1.2⟩, ⟨e8 _ _ hL27, hL2.2⟩, ⟨e8 _ _ hL37, hL3.2⟩, ⟨e8 _ _ hW7, Wt.keep hT27 (tup_ex e8)⟩, .inl ⟨rfl, n, rfl, ?_, hno hfl'⟩⟩
        rw [List.length_cons] at hbd
        omega
    · -- the end
      have : R = ⟨ab, okk⟩ := by
        rcases hc with ⟨rfl, n, _, _, hr⟩ | ⟨rfl, _, hr⟩
        · have : rs.length = 0 := by
            simp only [Bool.and_true, decide_eq_false_iff_not] at hb
            omega
          have hw0 : ws = [] := List.length_eq_zero_iff.mp (by omega)
          rw [hw0] at hr
          exact jrun_nil hr
        · exact hr
      subst this
      exact k l1 l2 l3 H6 (fun b o q hb => e6 _ _ (kp b o q hb)) (e6 _ _ hP) (e6 _ _ hL3.1)
end
end HS

set_option Elab.async false
set_option linter.all false
set_option maxRecDepth 100000
set_option maxHeartbeats 4000000
namespace HS
open PySem PySem.Spec PyProof.Rows L2 Evl

/-! ### comprehensions over a tuple, all(..) -/
section
variable {K : PySem.W.Frag} {σ : L2.St} {H H' : Hp} {ta tb te tx : TE} {t : TT}
theorem et_yes : EvT tYes σ H true := fun H1 _ _ q => q H1 (Ex.refl H1)
theorem el_lcT {a : Addr} {xs : List V} {tl : TE} {j : Nat} {vs : List Nat} (f : Nat → Bool) (v : Nat → V) (h : Ev tl σ H (.ref a)) (hx : SqT K H a xs) (hz : xs.length ≤ 40000) (hw : ∀ x, wipe ((wipe σ vs).set j (some x)) vs = wipe σ vs)
    (ht : ∀ (i : Nat) (x : V) H1, Ex H H1 → xs[i]? = some x → EvT t ((wipe σ vs).set j (some x)) H1 (f i)) (he : ∀ (i : Nat) (x : V) H1, Ex H H1 → xs[i]? = some x → f i = true → Ev te ((wipe σ vs).set j (some x)) H1 (v i)) :
    EvL (tLc (iTup K tl) (gName j) t te vs) σ H (given xs.length f v) := fun H0 e Q q => h H0 e _ fun H1 e1 => ⟨a, rfl, ⟨xs, ex_t (e.trans e1) hx⟩, fun Dl hD =>
  lc_tup (xs := xs) (Cw H1 f v Dl) ⟨hD, Ex.new hD, upd_same⟩ (fun i H' _ p => ex_t ((e.trans e1).trans p.2.1) hx) (fun i x H' hi p => ⟨hw x, cw_turn p (by have := (List.getElem?_eq_some_iff.mp hi).1; omega) (ht i x H1 (e.trans e1) hi) (fun hf => he i x H1 (e.trans e1) hi hf)⟩)
    (fun H' p => q Dl H' (fresh_back e1 p.1) (e1.trans p.2.1) p.2.2)⟩
theorem given_all (n : Nat) (v : Nat → V) : given n (fun _ => true) v = (List.range n).map v := by
  unfold given
  rw [List.filter_eq_self.mpr fun _ _ => rfl]
theorem ev_all {bs : List Bool} (h : EvL te σ H (bs.map V.bl)) : Ev (tCB (rAll K) (tCons te tNil)) σ H (.bl (bs.all id)) := fun H1 e Q q =>
  h H1 e _ fun p H2 _ e2 hp => ⟨p, bs, rfl, SqL.of hp, q H2 e2⟩
/-- all([.. for x in t]) where every item passes -/
theorem ev_allT {a : Addr} {xs : List V} {tl : TE} {j : Nat} {vs : List Nat} (h : Ev tl σ H (.ref a)) (hx : SqT K H a xs) (hz : xs.length ≤ 40000) (hw : ∀ x, wipe ((wipe σ vs).set j (some x)) vs = wipe σ vs)
    (he : ∀ (i : Nat) (x : V) H1, Ex H H1 → xs[i]? = some x → Ev te ((wipe σ vs).set j (some x)) H1 (.bl true)) : Ev (tCB (rAll K) (tCons (tLc (iTup K tl) (gName j) tYes te vs) tNil)) σ H (.bl true) := by
  have z := el_lcT (K := K) (t := tYes) (te := te) (vs := vs) (j := j) (fun _ => true) (fun _ => .bl true) h hx hz hw (fun _ _ _ _ _ => et_yes) (fun i x H1 e hi _ => he i x H1 e hi)
  rw [given_all] at z
  have e : (List.range xs.length).map (fun _ => V.bl true) = ((List.range xs.length).map fun _ => true).map V.bl := by
    rw [List.map_map]
    rfl
  rw [e] at z
  refine ev_is (ev_all z) ?_
  congr 1
  rw [List.all_eq_true]
  intro b hb
  obtain ⟨_, _, rfl⟩ := List.mem_map.mp hb
  rfl
theorem iV_get {s : List Nat} {i : Nat} {x : V} (h : (iV s)[i]? = some x) : ∃ n : Nat, s[i]? = some n ∧ x = .int (n : Int) := by
  unfold iV at h
  rw [List.getElem?_map] at h
  cases q : s[i]? with
  | none =>
    rw [q] at h
    cases h
  | some n =>
    rw [q] at h
    exact ⟨n, rfl, (Option.some.inj h).symm⟩
theorem int_get {s : List Int} {i : Nat} {x : V} (h : (s.map V.int)[i]? = some x) : ∃ n : Int, s[i]? = some n ∧ x = .int n := by
  rw [List.getElem?_map] at h
  cases q : s[i]? with
  | none =>
    rw [q] at h
    cases h
  | some n =>
    rw [q] at h
    exact ⟨n, rfl, (Option.some.inj h).symm⟩
end

/-! ### shapes that are taken -/
structure OkS (s : List Nat) (ab : List (Option Nat)) : Prop where
  len : s.length ≤ 39
  run : joins s = some ⟨ab, true⟩
  abl : ab.length = s.length
  abb : ∀ (o x : Nat), ab[o]? = some (some x) → x < s.length

def sp_is_fair : Sp := fun vs H Q _ => ∃ (a : Addr) (s : List Nat) (ab : List (Option Nat)), vs = [.ref a] ∧ H a = some (.tup (iV s)) ∧ OkS s ab ∧ RetV (.bl true) H Q
def sp_check_shape_for : Sp := fun vs H Q _ => ∃ (n : Int) (a : Addr) (s : List Nat) (ab : List (Option Nat)), vs = [.int n, .ref a] ∧ H a = some (.tup (iV s)) ∧ OkS s ab ∧ (s.length : Int) + 1 = n ∧ RetV .non H Q
structure OkL (L : List Int) : Prop where
  one : 1 ≤ L.length
  most : L.length ≤ 40
  all : ∀ x ∈ L, 1 ≤ x ∧ x ≤ 1000000
def sp_check_lengths : Sp := fun vs H Q _ => ∃ (a : Addr) (L : List Int), vs = [.ref a] ∧ H a = some (.tup (L.map V.int)) ∧ OkL L ∧ RetV .non H Q
def sp_check_reading : Sp := fun vs H Q _ => ∃ (a b : Addr) (L : List Int) (s : List Nat) (ab : List (Option Nat)), vs = [.ref a, .ref b] ∧ H a = some (.tup (L.map V.int)) ∧ OkL L ∧ H b = some (.tup (iV s)) ∧ OkS s ab ∧ s.length + 1 = L.length ∧ RetV .non H Q
def sp_check_m : Sp := fun vs H Q _ => ∃ i : Int, vs = [.int i] ∧ 1 ≤ i ∧ i ≤ 1000000000 ∧ RetV .non H Q

section
variable {H : Hp} {a b : Addr} {s : List Nat} {ab : List (Option Nat)} {L : List Int} {n : Int}
theorem sv_is_fair (ha : H a = some (.tup (iV s))) (ok : OkS s ab) : SpV sp_is_fair [.ref a] H (.bl true) := fun _ e _ q _ => ⟨a, s, ab, rfl, e _ _ ha, ok, q⟩
theorem sv_check_shape_for (ha : H a = some (.tup (iV s))) (ok : OkS s ab) (hn : (s.length : Int) + 1 = n) : SpV sp_check_shape_for [.int n, .ref a] H .non := fun _ e _ q _ => ⟨n, a, s, ab, rfl, e _ _ ha, ok, hn, q⟩
theorem sv_check_lengths (ha : H a = some (.tup (L.map V.int))) (ok : OkL L) : SpV sp_check_lengths [.ref a] H .non := fun _ e _ q _ => ⟨a, L, rfl, e _ _ ha, ok, q⟩
theorem sv_check_reading (ha : H a = some (.tup (L.map V.int))) (ok : OkL L) (hb : H b = some (.tup (iV s))) (okS : OkS s ab) (hl : s.length + 1 = L.length) : SpV sp_check_reading [.ref a, .ref b] H .non := fun _ e _ q _ => ⟨a, b, L, s, ab, rfl, e _ _ ha, ok, e _ _ hb, okS, hl, q⟩
theorem sv_check_m (h1 : 1 ≤ n) (h2 : n ≤ 1000000000) : SpV sp_check_m [.int n] H .non := fun _ _ _ q _ => ⟨n, rfl, h1, h2, q⟩
end

section
variable {P : Program} {w : World} {K : PySem.W.Frag} {mg : Str → Option Value} {base : Heap} {CJ CF : Addr} {t1 t2 t3 : Tok}
/-- Joinings(shape) -/
theorem ev_makeJ {σ : L2.St} {H H1 : Hp} {ta : TE} {E : XK} {a : Addr} {s : List Nat} {ab : List (Option Nat)} (ha : Ev ta σ H (.ref a)) (hs : H a = some (.tup (iV s))) (ok : OkS s ab) (e : Ex H H1) {Q : VK}
    (q : ∀ (x dx l1 l2 l3 : Addr) H2, H1 x = none → Ex H1 H2 → H2 x = some (.ins CJ dx (jf l1 l2 l3 true)) → H2 l3 = some (.lst (ab.map oV)) → Q (.ref x) H2) : tMake CJ (sp_J CJ) [] E (tCons ta tNil) σ H1 Q :=
  ha H1 e _ fun H2 e2 => fun x dx nx ndx ne => ⟨x, dx, a, s, ⟨ab, true⟩, rfl, upd_same, by
    have h1 := e2 _ _ (e _ _ hs)
    rw [upd_ne (ne_of_none h1 nx), upd_ne (ne_of_none h1 ndx)]
    exact h1, ok.len, ok.run, fun l1 l2 l3 H' kp hp h3 => ⟨rfl, q x dx l1 l2 l3 H' (fresh_back e2 nx) (e2.trans fun b o hb => kp b o (by rw [upd_ne (ne_of_none hb nx), upd_ne (ne_of_none hb ndx)]; exact hb) (ne_of_none hb nx)) hp h3⟩⟩
theorem ev_fairJ {σ : L2.St} {H : Hp} {ta : TE} {E : XK} {a : Addr} {s : List Nat} {ab : List (Option Nat)} (T : Txt K mg CJ CF t1 t2 t3) (ha : Ev ta σ H (.ref a)) (hs : H a = some (.tup (iV s))) (ok : OkS s ab) :
    Ev (tFld K (tMake CJ (sp_J CJ) [] E (tCons ta tNil)) "fair") σ H (.bl true) := fun H1 e Q q =>
  ev_makeJ ha hs ok e fun x dx l1 l2 l3 H2 nx e2 hx h3 => ⟨x, CJ, dx, _, _, rfl, hx, T.clJ, T.jfair, jf_fair _ _ _ _, q H2 e2⟩

abbrev N_is_fair : List Str := ["thing", "depth"]
theorem sc_is_fair : FnScope N_is_fair ["thing"] (defScope s_is_fair) := ⟨rfl, rfl, rfl, by decide +kernel, rfl, by decide +kernel, by decide +kernel⟩
theorem cal_is_fair {fJ : Addr} {fdJ : FuncData} (T : Txt K mg CJ CF t1 t2 t3) (D : Df K mg "is_fair" s_is_fair) (C1 : Cal P w K mg base "is_integer" 1 ["thing"] sp_is_integer)
    (MJoinings : Mk K CJ fJ) (GJoinings : FnOk P w K mg base CX0 1 fJ fdJ ["self", "shape"] (sp_J CJ)) (bJoinings : Binds K fdJ ["self", "shape"] []) : Cal P w K mg base "is_fair" 3 ["thing"] sp_is_fair := by
  obtain ⟨_, _, Gis_integer, mis_integer, kis_integer, bis_integer⟩ := C1.ex
  refine D.cal sc_is_fair (fun _ _ _ _ _ _ us hl => match us, hl with | [_], _ => rfl) (fun vs H Q E h => ?_) (fun f cdv A outer s H vs Q E hr h => ?_)
  · obtain ⟨a, s, ab, rfl, _⟩ := h
    rfl
  · obtain ⟨a, s, ab, rfl, ha, ok, k⟩ := h
    refine ⟨_, (pss_cons (ps_if (PW.pt (pw_or (pt_not (pt_val (pe_callB call_isi (by rfl) T.nisinstance (by decide +kernel) (pa_cons (pv 0) (pa_cons (pe_bltn (v := .ty "tuple") (by rfl) T.ntuple (by decide +kernel) rfl) pa_nil))))) (pw_or1 (pt_not (pt_val (pe_callB (cr_all rfl) (by rfl) T.nall (by decide +kernel) (pa_cons (pe_lc (own := [("depth", 1)]) (g := gName 1) (tt := tYes) rfl sc_is_fair.nd (pi_tup (pv 0)) (blkOk_by (N := N_is_fair) (sc := defScope s_is_fair) (by decide +kernel)) (fun _ _ _ _ _ => pg_name (i := 1) sc_is_fair.nd rfl (Or.inl rfl)) (fun _ _ _ _ _ => pts_nil) (fun _ _ _ _ _ => (pe_and (pe_call Gis_integer (hr.mono (by decide)) (by rfl) mis_integer kis_integer bis_integer .nil pass0 (pa_cons (pv 1) pa_nil)) (pe_one (pe_cmpR op_ge (pv 1) pe_int (nomark _)))))) pa_nil))))))) (pss_one (ps_ret pe_bl)) pss_nil)
      (pss_one (ps_ret (pe_fld (pe_make MJoinings GJoinings (hr.mono (by decide)) (by rfl) T.gJoinings bJoinings .nil pass0 (pa_cons (pv 0) pa_nil)) rfl)))), ?_⟩
    refine q_when (b := false) ?_ (fun z => nomatch z) (fun _ H1 e1 => ?_)
    · refine et_or (a := false) (b := false) (et_not (a := true) (et_B (ev_isi (ev_var rfl) ev_c (fun _ e => ty_tup (e _ _ ha)) (kit_ty (r := true) (by decide +kernel))))) fun _ => et_not (a := true) (et_B ?_)
      refine ev_allT (ev_var rfl) (SqT.of ha) (by rw [iV_len]; have := ok.len; omega) (fun _ => rfl) fun i x H1 e1 hx => ?_
      obtain ⟨n, _, rfl⟩ := iV_get hx
      refine ev_is (ev_andV (ev_call (ea_cons (ev_var rfl) ea_nil) sv_is_integer) fun _ => ev_op (ev_var rfl) ev_c rv_ge) ?_
      rw [decide_eq_true (by omega)]
      rfl
    · exact s_ret (ev_fairJ T (ev_var rfl) (e1 _ _ ha) ok) fun H2 e2 => k H2 (e1.trans e2)
abbrev N_is_shape : List Str := ["thing"]
theorem sc_is_shape : FnScope N_is_shape ["thing"] (defScope s_is_shape) := ⟨rfl, rfl, rfl, by decide +kernel, rfl, by decide +kernel, by decide +kernel⟩
theorem cal_is_shape (T : Txt K mg CJ CF t1 t2 t3) (D : Df K mg "is_shape" s_is_shape) (C1 : Cal P w K mg base "is_fair" 3 ["thing"] sp_is_fair) : Cal P w K mg base "is_shape" 4 ["thing"] sp_is_fair := by
  obtain ⟨_, _, Gis_fair, mis_fair, kis_fair, bis_fair⟩ := C1.ex
  refine D.cal sc_is_shape (fun _ _ _ _ _ _ us hl => match us, hl with | [_], _ => rfl) (fun vs H Q E h => ?_) (fun f cdv A outer s H vs Q E hr h => ?_)
  · obtain ⟨a, s, ab, rfl, _⟩ := h
    rfl
  · obtain ⟨a, s, ab, rfl, ha, ok, k⟩ := h
    refine ⟨_, (pss_one (ps_ret (pe_and (pe_callB call_isi (by rfl) T.nisinstance (by decide +kernel) (pa_cons (pv 0) (pa_cons (pe_bltn (v := .ty "tuple") (by rfl) T.ntuple (by decide +kernel) rfl) pa_nil))) (pe_and (pe_cmpR op_lt (pe_callB call_len_seq (by rfl) T.nlen PySem.boot_len (pa_cons (pv 0) pa_nil)) (pe_glob (v := .int 40) (by rfl) T.gMOST_WORDS ⟨_, rfl⟩) (nomark _)) (pe_one (pe_call Gis_fair (hr.mono (by decide)) (by rfl) mis_fair kis_fair bis_fair .nil pass0 (pa_cons (pv 0) pa_nil))))))), ?_⟩
    refine s_ret (ev_is (ev_andV (ev_isi (ev_var rfl) ev_c (fun _ e => ty_tup (e _ _ ha)) (kit_ty (r := true) (by decide +kernel))) fun _ => ev_andV (ev_op (ev_lenT (ev_var rfl) (SqT.of ha)) ev_c rv_lt) fun _ => ev_call (ea_cons (ev_var rfl) ea_nil) (sv_is_fair ha ok)) ?_) k
    rw [iV_len, decide_eq_true (by have := ok.len; omega)]
    rfl
abbrev N_check_shape_for : List Str := ["words", "thing"]
theorem sc_check_shape_for : FnScope N_check_shape_for ["words", "thing"] (defScope s_check_shape_for) := ⟨rfl, rfl, rfl, by decide +kernel, rfl, by decide +kernel, by decide +kernel⟩
theorem cal_check_shape_for (T : Txt K mg CJ CF t1 t2 t3) (D : Df K mg "check_shape_for" s_check_shape_for) (C1 : Cal P w K mg base "is_shape" 4 ["thing"] sp_is_fair) : Cal P w K mg base "check_shape_for" 5 ["words", "thing"] sp_check_shape_for := by
  obtain ⟨_, _, Gis_shape, mis_shape, kis_shape, bis_shape⟩ := C1.ex
  refine D.cal sc_check_shape_for (fun _ _ _ _ _ _ us hl => match us, hl with | [_, _], _ => rfl) (fun vs H Q E h => ?_) (fun f cdv A outer s H vs Q E hr h => ?_)
  · obtain ⟨n, a, s, ab, rfl, _⟩ := h
    rfl
  · obtain ⟨n, a, s, ab, rfl, ha, ok, hn, k⟩ := h
    refine ⟨_, (pss_one (ps_if (PW.pt (pw_or (pt_not (pt_val (pe_call Gis_shape (hr.mono (by decide)) (by rfl) mis_shape kis_shape bis_shape .nil pass0 (pa_cons (pv 1) pa_nil)))) (pw_or1 (pt_cmpR op_ne (pe_op op_add (pe_callB call_len_seq (by rfl) T.nlen PySem.boot_len (pa_cons (pv 1) pa_nil)) pe_int) (pv 0) (nomark _))))) (pss_one (ps_never)) pss_nil)), ?_⟩
    refine s_if (b := false) ?_ (fun z => nomatch z) (fun _ H1 e1 => k H1 e1)
    refine et_is (et_or (et_not (et_B (ev_call (ea_cons (ev_var rfl) ea_nil) (sv_is_fair ha ok)))) fun _ => et_test (ev_op (ev_add (ev_lenT (ev_var rfl) (SqT.of ha)) ev_c) (ev_var rfl) (rv_ne rfl))) ?_
    rw [iV_len, hn, decide_eq_true rfl]
    rfl
abbrev N_check_lengths : List Str := ["thing", "length"]
theorem sc_check_lengths : FnScope N_check_lengths ["thing"] (defScope s_check_lengths) := ⟨rfl, rfl, rfl, by decide +kernel, rfl, by decide +kernel, by decide +kernel⟩
theorem cal_check_lengths (T : Txt K mg CJ CF t1 t2 t3) (D : Df K mg "check_lengths" s_check_lengths) (C1 : Cal P w K mg base "is_between" 2 ["thing", "least", "most"] sp_is_between) : Cal P w K mg base "check_lengths" 3 ["thing"] sp_check_lengths := by
  obtain ⟨_, _, Gis_between, mis_between, kis_between, bis_between⟩ := C1.ex
  refine D.cal sc_check_lengths (fun _ _ _ _ _ _ us hl => match us, hl with | [_], _ => rfl) (fun vs H Q E h => ?_) (fun f cdv A outer s H vs Q E hr h => ?_)
  · obtain ⟨a, L, rfl, _⟩ := h
    rfl
  · obtain ⟨a, L, rfl, ha, ok, k⟩ := h
    refine ⟨_, (pss_cons (ps_if (PW.pt (pw_or (pt_not (pt_val (pe_callB call_isi (by rfl) T.nisinstance (by decide +kernel) (pa_cons (pv 0) (pa_cons (pe_bltn (v := .ty "tuple") (by rfl) T.ntuple (by decide +kernel) rfl) pa_nil))))) (pw_or1 (pt_not (pt_chain op_le op_le pe_int (pe_callB call_len_seq (by rfl) T.nlen PySem.boot_len (pa_cons (pv 0) pa_nil)) (pe_glob (v := .int 40) (by rfl) T.gMOST_WORDS ⟨_, rfl⟩)))))) (pss_one (ps_never)) pss_nil)
      (pss_one (ps_if (pt_not (pt_val (pe_callB (cr_all rfl) (by rfl) T.nall (by decide +kernel) (pa_cons (pe_lc (own := [("length", 1)]) (g := gName 1) (tt := tYes) rfl sc_check_lengths.nd (pi_tup (pv 0)) (blkOk_by (N := N_check_lengths) (sc := defScope s_check_lengths) (by decide +kernel)) (fun _ _ _ _ _ => pg_name (i := 1) sc_check_lengths.nd rfl (Or.inl rfl)) (fun _ _ _ _ _ => pts_nil) (fun _ _ _ _ _ => (pe_call Gis_between (hr.mono (by decide)) (by rfl) mis_between kis_between bis_between .nil pass0 (pa_cons (pv 1) (pa_cons pe_int (pa_cons (pe_glob (v := .int 1000000) (by rfl) T.gMOST_LENGTH ⟨_, rfl⟩) pa_nil)))))) pa_nil)))) (pss_one (ps_never)) pss_nil))), ?_⟩
    refine q_when (b := false) ?_ (fun z => nomatch z) (fun _ H1 e1 => s_when (b := false) ?_ (fun z => nomatch z) (fun _ H2 e2 => k H2 (e1.trans e2)))
    · refine et_is (et_or (a := false) (et_not (a := true) (et_B (ev_isi (ev_var rfl) ev_c (fun _ e => ty_tup (e _ _ ha)) (kit_ty (r := true) (by decide +kernel))))) fun _ => et_not (et_test (ev_chain ev_c (ev_lenT (ev_var rfl) (SqT.of ha)) ev_c rv_le fun _ => rv_le))) ?_
      rw [List.length_map, decide_eq_true (by have := ok.one; omega), decide_eq_true (by have := ok.most; omega)]
      rfl
    · refine et_not (a := true) (et_B (ev_allT (ev_var rfl) (SqT.of (e1 _ _ ha)) (by rw [List.length_map]; have := ok.most; omega) (fun _ => rfl) fun i x H2 e2 hx => ?_))
      obtain ⟨n, hn, rfl⟩ := int_get hx
      have b := ok.all n (List.mem_of_getElem? hn)
      exact ev_call (ea_cons (ev_var rfl) (ea_cons ev_c (ea_cons ev_c ea_nil))) (sv_is_between b.1 b.2)
abbrev N_check_reading : List Str := ["lengths", "shape"]
theorem sc_check_reading : FnScope N_check_reading ["lengths", "shape"] (defScope s_check_reading) := ⟨rfl, rfl, rfl, by decide +kernel, rfl, by decide +kernel, by decide +kernel⟩
theorem cal_check_reading (T : Txt K mg CJ CF t1 t2 t3) (D : Df K mg "check_reading" s_check_reading) (C1 : Cal P w K mg base "check_lengths" 3 ["thing"] sp_check_lengths) (C2 : Cal P w K mg base "check_shape_for" 5 ["words", "thing"] sp_check_shape_for) :
    Cal P w K mg base "check_reading" 6 ["lengths", "shape"] sp_check_reading := by
  obtain ⟨_, _, Gcheck_lengths, mcheck_lengths, kcheck_lengths, bcheck_lengths⟩ := C1.ex
  obtain ⟨_, _, Gcheck_shape_for, mcheck_shape_for, kcheck_shape_for, bcheck_shape_for⟩ := C2.ex
  refine D.cal sc_check_reading (fun _ _ _ _ _ _ us hl => match us, hl with | [_, _], _ => rfl) (fun vs H Q E h => ?_) (fun f cdv A outer s H vs Q E hr h => ?_)
  · obtain ⟨a, b, L, s, ab, rfl, _⟩ := h
    rfl
  · obtain ⟨a, b, L, s, ab, rfl, ha, ok, hb, okS, hl, k⟩ := h
    refine ⟨_, (pss_cons (ps_expr (pe_call Gcheck_lengths (hr.mono (by decide)) (by rfl) mcheck_lengths kcheck_lengths bcheck_lengths .nil pass0 (pa_cons (pv 0) pa_nil)))
      (pss_one (ps_expr (pe_call Gcheck_shape_for (hr.mono (by decide)) (by rfl) mcheck_shape_for kcheck_shape_for bcheck_shape_for .nil pass0 (pa_cons (pe_callB call_len_seq (by rfl) T.nlen PySem.boot_len (pa_cons (pv 0) pa_nil)) (pa_cons (pv 1) pa_nil)))))), ?_⟩
    refine q_drop (ev_call (ea_cons (ev_var rfl) ea_nil) (sv_check_lengths ha ok)) fun H1 e1 => ?_
    refine s_drop (ev_call (ea_cons (ev_lenT (ev_var rfl) (SqT.of (e1 _ _ ha))) (ea_cons (ev_var rfl) ea_nil)) (sv_check_shape_for (e1 _ _ hb) okS (by rw [List.length_map]; omega))) fun H2 e2 => k H2 (e1.trans e2)
abbrev N_check_m : List Str := ["thing"]
theorem sc_check_m : FnScope N_check_m ["thing"] (defScope s_check_m) := ⟨rfl, rfl, rfl, by decide +kernel, rfl, by decide +kernel, by decide +kernel⟩
theorem cal_check_m (T : Txt K mg CJ CF t1 t2 t3) (D : Df K mg "check_m" s_check_m) (C1 : Cal P w K mg base "check_number" 3 ["thing", "least", "most"] sp_check_number) : Cal P w K mg base "check_m" 4 ["thing"] sp_check_m := by
  obtain ⟨_, _, Gcheck_number, mcheck_number, kcheck_number, bcheck_number⟩ := C1.ex
  refine D.cal sc_check_m (fun _ _ _ _ _ _ us hl => match us, hl with | [_], _ => rfl) (fun vs H Q E h => ?_) (fun f cdv A outer s H vs Q E hr h => ?_)
  · obtain ⟨i, rfl, _⟩ := h
    rfl
  · obtain ⟨i, rfl, h1, h2, k⟩ := h
    refine ⟨_, (pss_one (ps_expr (pe_call Gcheck_number (hr.mono (by decide)) (by rfl) mcheck_number kcheck_number bcheck_number .nil pass0 (pa_cons (pv 0) (pa_cons pe_int (pa_cons (pe_glob (v := .int 1000000000) (by rfl) T.gMOST_NEAR ⟨_, rfl⟩) pa_nil)))))), ?_⟩
    exact s_drop (ev_call (ea_cons (ev_var rfl) (ea_cons ev_c (ea_cons ev_c ea_nil))) (sv_check_number h1 h2)) fun H1 e1 => k H1 e1
end
end HS

set_option Elab.async false
set_option linter.all false
set_option maxRecDepth 100000
set_option maxHeartbeats 4000000
namespace HS
open PySem PySem.Spec PyProof.Rows L2 Evl

/-! ### places -/
def placesI (L : List Int) : List Int := (List.range (L.length - 1)).map fun i => (L.take (i + 1)).sum
theorem placesI_len (L : List Int) : (placesI L).length = L.length - 1 := by
  unfold placesI
  rw [List.length_map, List.length_range]
def sp_places : Sp := fun vs H Q _ => ∃ (a : Addr) (L : List Int), vs = [.ref a] ∧ H a = some (.tup (L.map V.int)) ∧ OkL L ∧ RetL ((placesI L).map V.int) H Q
theorem sl_places {H : Hp} {a : Addr} {L : List Int} (ha : H a = some (.tup (L.map V.int))) (ok : OkL L) : SpL sp_places [.ref a] H ((placesI L).map V.int) := fun _ e _ q _ => ⟨a, L, rfl, e _ _ ha, ok, fun p H2 hp e2 h2 => q p H2 hp e2 h2⟩
section
variable {K : PySem.W.Frag} {σ : L2.St} {H : Hp} {ta tb te : TE}
/-- t[:-1], a new tuple -/
theorem eu_sl1 {tl th : TO} {a : Addr} {xs : List V} (h : Ev te σ H (.ref a)) (h1 : EvO tl σ H none) (h2 : EvO th σ H (some (-1))) (hs : SqT K H a xs) (hx : 1 ≤ xs.length) : EvU (tSl (rSlA K) te tl th) σ H (xs.take (xs.length - 1)) := fun H1 e _ q =>
  h H1 e _ fun H2 e2 => h1 H2 (e.trans e2) _ fun H3 e3 => h2 H3 ((e.trans e2).trans e3) _ fun H4 e4 => by
    have c : HT.sIx xs.length xs.length (some (-1)) = xs.length - 1 := by
      show (if (-1 : Int) < 0 then ((-1 : Int) + (xs.length : Int)).toNat else min (-1 : Int).toNat xs.length) = _
      rw [if_pos (by decide)]
      omega
    have c2 : cutV xs none (some (-1)) = xs.take (xs.length - 1) := by
      unfold cutV
      rw [c]
      rfl
    refine ⟨a, xs, rfl, ex_t (((e.trans e2).trans e3).trans e4) hs, fun z => ?_, fun _ p hp => ?_⟩
    · rw [c] at z
      omega
    · rw [c2]
      exact q p _ (fresh_back ((e2.trans e3).trans e4) hp) (((e2.trans e3).trans e4).trans (Ex.new hp)) upd_same
/-- a for over a new tuple -/
theorem s_forNT {D : Ends} {g : TG} {tu : TS} {xs : List V} {tl : TE} (h : EvU tl σ H xs) (Pv : Addr → Nat → L2.St → Hp → Prop) (h0 : ∀ p H1, H p = none → Ex H H1 → H1 p = some (.tup xs) → Pv p 0 σ H1) (hl : ∀ p i σ' H', i ≤ xs.length → Pv p i σ' H' → SqT K H' p xs)
    (hs : ∀ p i x σ' H', xs[i]? = some x → Pv p i σ' H' → g x σ' H' fun σ2 H2 => tu { D with nx := Pv p (i + 1), ct := Pv p (i + 1), bk := D.nx } σ2 H2) (hd : ∀ p σ' H', Pv p xs.length σ' H' → D.nx σ' H') : tFor (iTup K tl) g tu D σ H :=
  h H (Ex.refl H) _ fun p H1 hp e h1 => ⟨p, rfl, ⟨xs, SqT.of h1⟩, for_tup (Pv p) (h0 p H1 hp e h1) (hl p) (hs p) (hd p)⟩
theorem q_forNT {D : Ends} {g : TG} {tu tz : TS} {xs : List V} {tl : TE} (h : EvU tl σ H xs) (Pv : Addr → Nat → L2.St → Hp → Prop) (h0 : ∀ p H1, H p = none → Ex H H1 → H1 p = some (.tup xs) → Pv p 0 σ H1) (hl : ∀ p i σ' H', i ≤ xs.length → Pv p i σ' H' → SqT K H' p xs)
    (hs : ∀ p i x σ' H', xs[i]? = some x → Pv p i σ' H' → g x σ' H' fun σ2 H2 => tu { D with nx := Pv p (i + 1), ct := Pv p (i + 1), bk := tz D } σ2 H2) (hd : ∀ p σ' H', Pv p xs.length σ' H' → tz D σ' H') : tSeq (tFor (iTup K tl) g tu) tz D σ H :=
  s_forNT (D := { D with nx := tz D }) h Pv h0 hl hs hd
end
theorem un_neg1 {X : Cx} {σ : L2.St} {H : Hp} {n : Int} : Ev (tUn (rU fun i => V.int (-i)) (tC (.int n))) σ H (.int (-n)) := ev_un ev_c ru_neg
theorem take_places {L : List Int} {i : Nat} (h : i < L.length - 1) : (List.range (i + 1)).map (fun j => (L.take (j + 1)).sum) = (List.range i).map (fun j => (L.take (j + 1)).sum) ++ [(L.take (i + 1)).sum] := by
  rw [List.range_succ, List.map_append]
  rfl

section
variable {P : Program} {w : World} {K : PySem.W.Frag} {mg : Str → Option Value} {base : Heap} {CJ CF : Addr} {t1 t2 t3 : Tok}
abbrev N_places_of : List Str := ["lengths", "found", "total", "length"]
theorem sc_places_of : FnScope N_places_of ["lengths"] (defScope s_places_of) := ⟨rfl, rfl, rfl, by decide +kernel, rfl, by decide +kernel, by decide +kernel⟩
theorem cal_places_of (D : Df K mg "places_of" s_places_of) : Cal P w K mg base "places_of" 1 ["lengths"] sp_places := by
  refine D.cal sc_places_of (fun _ _ _ _ _ _ us hl => match us, hl with | [_], _ => rfl) (fun vs H Q E h => ?_) (fun f cdv A outer s H vs Q E hr h => ?_)
  · obtain ⟨a, L, rfl, _⟩ := h
    rfl
  · obtain ⟨a, L, rfl, ha, ok, k⟩ := h
    have h1 := ok.one
    have h40 := ok.most
    refine ⟨_, (pss_cons (ps_set (i := 1) sc_places_of.nd rfl (Or.inl rfl) (pe_lst pa_nil))
      (pss_cons (ps_set (i := 2) sc_places_of.nd rfl (Or.inl rfl) pe_int)
      (pss_cons (ps_for PassesOwn.never rfl (pi_tup (pe_slice sl_tupA (pv 0) po_none (po_some (pe_un un_neg pe_int)))) (pg_name (i := 3) sc_places_of.nd rfl (Or.inl rfl)) (pss_cons (ps_aug (i := 2) sc_places_of.nd rfl (Or.inl rfl) (pv 3) ip_add)
      (pss_one (ps_expr (pe_bm PySem.F.plainAttrs_list PySem.F.slot_list_append PySem.F.type_list_append mt_append (pv 1) (pa_cons (pv 2) pa_nil))))))
      (pss_one (ps_ret (pv 1)))))), ?_⟩
    refine q_asgL (el_lst ea_nil (by decide)) fun l H1 nl e1 hl => ?_
    refine q_asg ev_c fun H2 e2 => ?_
    have ev1 : Ev (tUn (rU fun i => V.int (-i)) (tC (.int 1))) [some (V.ref a), some (V.ref l), some (V.int 0), none] H2 (.int (-1)) := ev_un ev_c ru_neg
    refine q_forNT (eu_sl1 (ev_var rfl) eo_none (eo_some ev1) (SqT.of (e2 _ _ (e1 _ _ ha))) (by rw [List.length_map]; omega))
      (fun p i σ' H' => (∃ x : Option V, σ' = [some (.ref a), some (.ref l), some (.int (L.take i).sum), x]) ∧ Ex H H' ∧ H' p = some (.tup ((L.map V.int).take ((L.map V.int).length - 1))) ∧ H' l = some (.lst (((List.range i).map fun j => (L.take (j + 1)).sum).map V.int)))
      (fun p H3 np e3 h3 => ⟨⟨_, rfl⟩, (e1.trans e2).trans e3, h3, e3 _ _ (e2 _ _ hl)⟩) (fun p i σ' H' _ q => SqT.of q.2.2.1) ?_ ?_
    · rintro p i x σ' H' hx ⟨⟨y, rfl⟩, ex, hp, hL⟩
      have hi : i < L.length - 1 := by
        have := (List.getElem?_eq_some_iff.mp hx).1
        rw [List.length_take, List.length_map] at this
        omega
      rw [List.getElem?_take_of_lt (by rw [List.length_map]; omega)] at hx
      obtain ⟨n, hn, rfl⟩ := int_get hx
      show tSeq _ _ _ [some (.ref a), some (.ref l), some (.int (L.take i).sum), some (.int n)] H'
      refine q_aug (a := (L.take i).sum) (b := n) rfl (ev_var rfl) fun H4 e4 => ?_
      refine s_app (e4 _ _ hL) (ev_var rfl) (ev_var rfl) (by rw [List.length_map, List.length_map, List.length_range]; omega) fun H5 e5 => ?_
      have nl' : H l = Option.none := nl
      refine ⟨⟨some (.int n), ?_⟩, Ex.mut ((ex.trans e4).trans e5) nl', ?_, ?_⟩
      · rw [sum_take hn]
        rfl
      · rw [upd_ne (ne_of (e5 _ _ (e4 _ _ hp)) (e5 _ _ (e4 _ _ hL)) fun z => nomatch z)]
        exact e5 _ _ (e4 _ _ hp)
      · rw [upd_same, take_places hi, List.map_append, ← sum_take hn]
        rfl
    · rintro p σ' H' ⟨⟨y, rfl⟩, ex, hp, hL⟩
      have e : ((L.map V.int).take ((L.map V.int).length - 1)).length = L.length - 1 := by
        rw [List.length_take, List.length_map]
        omega
      rw [e] at hL
      exact s_ret (ev_var rfl) fun H3 e3 => k l H3 nl (ex.trans e3) (e3 _ _ hL)
abbrev N_law_places : List Str := ["_law_lengths_here", "_law_found", "_law_total", "_law_length"]
theorem sc_law_places : FnScope N_law_places ["_law_lengths_here"] (defScope s_law_places) := ⟨rfl, rfl, rfl, by decide +kernel, rfl, by decide +kernel, by decide +kernel⟩
theorem cal_law_places (D : Df K mg "_law_places" s_law_places) : Cal P w K mg base "_law_places" 1 ["_law_lengths_here"] sp_places := by
  refine D.cal sc_law_places (fun _ _ _ _ _ _ us hl => match us, hl with | [_], _ => rfl) (fun vs H Q E h => ?_) (fun f cdv A outer s H vs Q E hr h => ?_)
  · obtain ⟨a, L, rfl, _⟩ := h
    rfl
  · obtain ⟨a, L, rfl, ha, ok, k⟩ := h
    have h1 := ok.one
    have h40 := ok.most
    refine ⟨_, (pss_cons (ps_set (i := 1) sc_law_places.nd rfl (Or.inl rfl) (pe_lst pa_nil))
      (pss_cons (ps_set (i := 2) sc_law_places.nd rfl (Or.inl rfl) pe_int)
      (pss_cons (ps_for PassesOwn.never rfl (pi_tup (pe_slice sl_tupA (pv 0) po_none (po_some (pe_un un_neg pe_int)))) (pg_name (i := 3) sc_law_places.nd rfl (Or.inl rfl)) (pss_cons (ps_set (i := 2) sc_law_places.nd rfl (Or.inl rfl) (pe_op op_add (pv 2) (pv 3)))
      (pss_one (ps_expr (pe_bm PySem.F.plainAttrs_list PySem.F.slot_list_append PySem.F.type_list_append mt_append (pv 1) (pa_cons (pv 2) pa_nil))))))
      (pss_one (ps_ret (pv 1)))))), ?_⟩
    refine q_asgL (el_lst ea_nil (by decide)) fun l H1 nl e1 hl => ?_
    refine q_asg ev_c fun H2 e2 => ?_
    have ev1 : Ev (tUn (rU fun i => V.int (-i)) (tC (.int 1))) [some (V.ref a), some (V.ref l), some (V.int 0), none] H2 (.int (-1)) := ev_un ev_c ru_neg
    refine q_forNT (eu_sl1 (ev_var rfl) eo_none (eo_some ev1) (SqT.of (e2 _ _ (e1 _ _ ha))) (by rw [List.length_map]; omega))
      (fun p i σ' H' => (∃ x : Option V, σ' = [some (.ref a), some (.ref l), some (.int (L.take i).sum), x]) ∧ Ex H H' ∧ H' p = some (.tup ((L.map V.int).take ((L.map V.int).length - 1))) ∧ H' l = some (.lst (((List.range i).map fun j => (L.take (j + 1)).sum).map V.int)))
      (fun p H3 np e3 h3 => ⟨⟨_, rfl⟩, (e1.trans e2).trans e3, h3, e3 _ _ (e2 _ _ hl)⟩) (fun p i σ' H' _ q => SqT.of q.2.2.1) ?_ ?_
    · rintro p i x σ' H' hx ⟨⟨y, rfl⟩, ex, hp, hL⟩
      have hi : i < L.length - 1 := by
        have := (List.getElem?_eq_some_iff.mp hx).1
        rw [List.length_take, List.length_map] at this
        omega
      rw [List.getElem?_take_of_lt (by rw [List.length_map]; omega)] at hx
      obtain ⟨n, hn, rfl⟩ := int_get hx
      show tSeq _ _ _ [some (.ref a), some (.ref l), some (.int (L.take i).sum), some (.int n)] H'
      refine q_asg (ev_add (ev_var rfl) (ev_var rfl)) fun H4 e4 => ?_
      refine s_app (e4 _ _ hL) (ev_var rfl) (ev_var rfl) (by rw [List.length_map, List.length_map, List.length_range]; omega) fun H5 e5 => ?_
      have nl' : H l = Option.none := nl
      refine ⟨⟨some (.int n), ?_⟩, Ex.mut ((ex.trans e4).trans e5) nl', ?_, ?_⟩
      · rw [sum_take hn]
        rfl
      · rw [upd_ne (ne_of (e5 _ _ (e4 _ _ hp)) (e5 _ _ (e4 _ _ hL)) fun z => nomatch z)]
        exact e5 _ _ (e4 _ _ hp)
      · rw [upd_same, take_places hi, List.map_append, ← sum_take hn]
        rfl
    · rintro p σ' H' ⟨⟨y, rfl⟩, ex, hp, hL⟩
      have e : ((L.map V.int).take ((L.map V.int).length - 1)).length = L.length - 1 := by
        rw [List.length_take, List.length_map]
        omega
      rw [e] at hL
      exact s_ret (ev_var rfl) fun H3 e3 => k l H3 nl (ex.trans e3) (e3 _ _ hL)
end

/-! ### regroupings -/
def stepsN (ab : List (Option Nat)) (i : Nat) : List (Nat × Nat) := (List.range i).filterMap fun o => (ab.getD o none).map fun one => (one, o)
theorem stepsN_all (ab : List (Option Nat)) : stepsN ab ab.length = stepsL ab := rfl
theorem stepsN_yes {ab : List (Option Nat)} {i x : Nat} (h : ab.getD i none = some x) : stepsN ab (i + 1) = stepsN ab i ++ [(x, i)] := by
  unfold stepsN
  rw [List.range_succ, List.filterMap_append, List.filterMap_cons, h]
  rfl
theorem stepsN_no {ab : List (Option Nat)} {i : Nat} (h : ab.getD i none = none) : stepsN ab (i + 1) = stepsN ab i := by
  unfold stepsN
  rw [List.range_succ, List.filterMap_append, List.filterMap_cons, h]
  exact List.append_nil _
abbrev PrA (H : Hp) (ts : List Addr) (ps : List (Nat × Nat)) : Prop := Paired (fun t (p : Nat × Nat) => H t = some (.tup [.int (p.1 : Int), .int (p.2 : Int)])) ts ps
theorem PrA.keep {H H' : Hp} {ts : List Addr} {ps : List (Nat × Nat)} (h : PrA H ts ps) (k : ∀ t xs, H t = some (.tup xs) → H' t = some (.tup xs)) : PrA H' ts ps := Paired.mapP h fun t x e => k t _ e
theorem Paired.snocP {α β : Type} {F : α → β → Prop} {a : α} {b : β} : ∀ {l : List α} {m : List β}, Paired F l m → F a b → Paired F (l ++ [a]) (m ++ [b])
  | _, _, .nil, h => .cons h .nil
  | _, _, .cons r t, h => .cons r (Paired.snocP t h)
theorem Paired.left_mem {α β : Type} {F : α → β → Prop} : ∀ {l : List α} {m : List β}, Paired F l m → ∀ a ∈ l, ∃ b ∈ m, F a b
  | _, _, .nil, _, h => by cases h
  | _, _, .cons r t, a, h => by
    rcases List.mem_cons.mp h with rfl | h
    · exact ⟨_, List.mem_cons_self, r⟩
    · obtain ⟨b, hb, f⟩ := Paired.left_mem t a h
      exact ⟨b, List.mem_cons_of_mem _ hb, f⟩
theorem Paired.right_mem {α β : Type} {F : α → β → Prop} : ∀ {l : List α} {m : List β}, Paired F l m → ∀ b ∈ m, ∃ a ∈ l, F a b
  | _, _, .nil, _, h => by cases h
  | _, _, .cons r t, b, h => by
    rcases List.mem_cons.mp h with rfl | h
    · exact ⟨_, List.mem_cons_self, r⟩
    · obtain ⟨a, ha, f⟩ := Paired.right_mem t b h
      exact ⟨a, List.mem_cons_of_mem _ ha, f⟩
theorem oV_get {ab : List (Option Nat)} {i : Nat} {y : V} (h : (ab.map oV)[i]? = some y) : y = oV (ab.getD i none) ∧ i < ab.length := by
  rw [List.getElem?_map] at h
  cases q : ab[i]? with
  | none =>
    rw [q] at h
    cases h
  | some o =>
    rw [q] at h
    refine ⟨?_, (List.getElem?_eq_some_iff.mp q).1⟩
    rw [List.getD_eq_getElem?_getD, q]
    exact (Option.some.inj h).symm
theorem steps_comp {K : PySem.W.Frag} {σ : L2.St} {H1 : Hp} {l3 a : Addr} {ab : List (Option Nat)} (hσ : σ = [some (.ref a), some (.ref l3), none, none]) (h3 : H1 l3 = some (.lst (ab.map oV))) (hz : ab.length ≤ 1000) {Q : VK}
    (q : ∀ (Dl : Addr) (ts : List Addr) (H2 : Hp), H1 Dl = none → Ex H1 H2 → H2 Dl = some (.lst (ts.map V.ref)) → PrA H2 ts (stepsL ab) → Q (.ref Dl) H2) :
    tLc (iEnum K (tCons (tVar 1) tNil)) (gTup K 2 (gCons (gName 2) (gCons (gName 3) gNil))) (tB (tNotN (tVar 3))) (tTup (tCons (tVar 3) (tCons (tVar 2) tNil))) [2, 3] σ H1 Q := by
  subst hσ
  refine ⟨_, rfl, l3, _, rfl, SqL.of h3, fun Dl hD => ?_⟩
  refine lc_it (walk_enum (K := K) (a := l3) (xs := ab.map oV)) (fun i H' => ∃ ts : List Addr, H' Dl = some (.lst (ts.map V.ref)) ∧ PrA H' ts (stepsN ab i) ∧ Ex H1 H') ⟨[], upd_same, .nil, Ex.new hD⟩
    (fun i H' _ p => by obtain ⟨_, _, _, e⟩ := p; exact SqL.of (e _ _ h3)) ?_ ?_
  · rintro i x H' H'' hi ⟨ts, hd, hp, e⟩ ⟨T, u, y, rfl, hT, rfl, hu, hy⟩
    obtain rfl : V.int ((i : Nat) : Int) = u := Option.some.inj hu
    obtain ⟨rfl, hi'⟩ := oV_get hy
    refine ⟨T, _, rfl, SqT.of upd_same, rfl, _, _, rfl, _, _, rfl, rfl, rfl, ?_⟩
    refine ⟨_, rfl, _, rfl, ?_⟩
    have ne : Dl ≠ T := ne_of_none hd hT
    have nt : ∀ t xs, H' t = some (.tup xs) → upd H' T (.tup [.int ((i : Nat) : Int), oV (ab.getD i none)]) t = some (.tup xs) := fun t xs h => by
      rw [upd_ne (ne_of_none h hT)]
      exact h
    cases hx : ab.getD i none with
    | none =>
      refine iteF ?_
      refine ⟨ts, by rw [upd_ne ne]; exact hd, ?_, e.trans (Ex.new hT)⟩
      rw [stepsN_no hx]
      rw [hx] at nt
      exact PrA.keep hp nt
    | some z =>
      refine iteT ?_
      rw [hx] at nt
      refine ⟨_, rfl, _, rfl, by show 2 ≤ sizeLine; decide, fun p hp' => ?_⟩
      have h1 : upd (upd H' T (.tup [.int ((i : Nat) : Int), oV (some z)])) p (.tup [oV (some z), .int ((i : Nat) : Int)]) Dl = some (.lst (ts.map V.ref)) := by
        rw [upd_ne (fun h => by subst h; rw [upd_ne ne] at hp'; rw [hd] at hp'; cases hp'), upd_ne ne]
        exact hd
      have kt : ∀ t xs, upd H' T (.tup [.int ((i : Nat) : Int), oV (some z)]) t = some (.tup xs) → upd (upd H' T (.tup [.int ((i : Nat) : Int), oV (some z)])) p (.tup [oV (some z), .int ((i : Nat) : Int)]) t = some (.tup xs) := fun t xs h => by
        rw [upd_ne (ne_of_none h hp')]
        exact h
      have kl := tup_upd (u := .lst (ts.map V.ref ++ [V.ref p])) h1 (fun _ z => nomatch z)
      refine ⟨_, h1, ?_, ts ++ [p], ?_, ?_, ?_⟩
      · have := Paired.length hp
        have h5 : (stepsN ab i).length ≤ i := by
          unfold stepsN
          exact Nat.le_trans (List.length_filterMap_le _ _) (Nat.le_of_eq List.length_range)
        rw [List.length_map]
        exact Nat.lt_of_le_of_lt (show ts.length ≤ 1000 by omega) (by decide)
      · rw [upd_same, List.map_append]
        rfl
      · rw [stepsN_yes hx]
        exact Paired.snocP (PrA.keep (PrA.keep (PrA.keep hp nt) kt) kl) (kl _ _ upd_same)
      · exact Ex.mut ((e.trans (Ex.new hT)).trans (Ex.new hp')) hD
  · rintro H' ⟨ts, hd, hp, e⟩
    have el : (ab.map oV).length = ab.length := List.length_map ..
    rw [el] at hp
    exact q Dl ts H' hD e hd hp

def formI (A : List Int) (m : Int) (ab : List (Option Nat)) : Bool := (stepsL ab).all fun x => !(decide (x.2 < x.1) && decide (m ≤ A.getD x.1 0 - A.getD x.2 0))
def sp_steps_of : Sp := fun vs H Q _ => ∃ (a : Addr) (s : List Nat) (ab : List (Option Nat)), vs = [.ref a] ∧ H a = some (.tup (iV s)) ∧ OkS s ab ∧
  ∀ (l : Addr) (ys : List V) (H' : Hp), H l = none → Ex H H' → H' l = some (.lst ys) → (∀ y ∈ ys, ∃ t p, y = .ref t ∧ p ∈ stepsL ab ∧ H' t = some (.tup [.int ((p.1 : Nat) : Int), .int ((p.2 : Nat) : Int)])) →
    (∀ p ∈ stepsL ab, ∃ t, V.ref t ∈ ys ∧ H' t = some (.tup [.int ((p.1 : Nat) : Int), .int ((p.2 : Nat) : Int)])) → Q (.ref l) H'
theorem stepsL_lt {ab : List (Option Nat)} {p : Nat × Nat} (h : p ∈ stepsL ab) : p.2 < ab.length ∧ ab[p.2]? = some (some p.1) := by
  unfold stepsL at h
  obtain ⟨o, ho, hp⟩ := List.mem_filterMap.mp h
  have ho' := List.mem_range.mp ho
  cases q : ab.getD o none with
  | none =>
    rw [q] at hp
    cases hp
  | some x =>
    rw [q] at hp
    have e : (x, o) = p := Option.some.inj hp
    subst e
    refine ⟨ho', ?_⟩
    rw [List.getD_eq_getElem?_getD, List.getElem?_eq_getElem ho'] at q
    rw [List.getElem?_eq_getElem ho']
    exact congrArg some q
section
variable {P : Program} {w : World} {K : PySem.W.Frag} {mg : Str → Option Value} {base : Heap} {CJ CF : Addr} {t1 t2 t3 : Tok}
/-- x = Joinings(shape).above -/
theorem q_aboveJ {σ : L2.St} {H : Hp} {ta : TE} {E : XK} {a : Addr} {s : List Nat} {ab : List (Option Nat)} {i : Nat} {tz : TS} {D : Ends} (T : Txt K mg CJ CF t1 t2 t3) (ha : Ev ta σ H (.ref a)) (hs : H a = some (.tup (iV s))) (ok : OkS s ab)
    (k : ∀ l3 H2, Ex H H2 → H2 l3 = some (.lst (ab.map oV)) → tz D (σ.set i (some (.ref l3))) H2) : tSeq (tAsg (tFld K (tMake CJ (sp_J CJ) [] E (tCons ta tNil)) "above") (gName i)) tz D σ H :=
  show tMake CJ (sp_J CJ) [] E (tCons ta tNil) σ H (fun x H1 => ∃ a C dx fs v, x = .ref a ∧ H1 a = some (.ins C dx fs) ∧ Cls K C ∧ NoAttr K C "above" ∧ fs.lookup ("above" : Str) = some v ∧ tz D (σ.set i (some v)) H1) from
  ev_makeJ ha hs ok (Ex.refl H) fun x dx l1 l2 l3 H2 nx e2 hx h3 => ⟨x, CJ, dx, _, _, rfl, hx, T.clJ, T.jabove, jf_above _ _ _ _, k l3 H2 e2 h3⟩
abbrev N_steps_of : List Str := ["shape", "above", "other", "one"]
theorem sc_steps_of : FnScope N_steps_of ["shape"] (defScope s_steps_of) := ⟨rfl, rfl, rfl, by decide +kernel, rfl, by decide +kernel, by decide +kernel⟩
theorem cal_steps_of {fJ : Addr} {fdJ : FuncData} (T : Txt K mg CJ CF t1 t2 t3) (D : Df K mg "steps_of" s_steps_of)
    (MJoinings : Mk K CJ fJ) (GJoinings : FnOk P w K mg base CX0 1 fJ fdJ ["self", "shape"] (sp_J CJ)) (bJoinings : Binds K fdJ ["self", "shape"] []) : Cal P w K mg base "steps_of" 3 ["shape"] sp_steps_of := by
  refine D.cal sc_steps_of (fun _ _ _ _ _ _ us hl => match us, hl with | [_], _ => rfl) (fun vs H Q E h => ?_) (fun f cdv A outer s H vs Q E hr h => ?_)
  · obtain ⟨a, s, ab, rfl, _⟩ := h
    rfl
  · obtain ⟨a, s, ab, rfl, ha, ok, k⟩ := h
    refine ⟨_, (pss_cons (ps_set (i := 1) sc_steps_of.nd rfl (Or.inl rfl) (pe_fld (pe_make MJoinings GJoinings (hr.mono (by decide)) (by rfl) T.gJoinings bJoinings .nil pass0 (pa_cons (pv 0) pa_nil)) rfl))
      (pss_one (ps_ret (pe_callB (cr_sortT (d := 2) (B := 64) (by decide)) (by rfl) T.nsorted (by decide +kernel) (pa_cons (pe_lc (own := [("other", 2), ("one", 3)]) (g := gTup K 2 (gCons (gName 2) (gCons (gName 3) gNil))) rfl sc_steps_of.nd (pi_enum (by rfl) T.nenumerate (pa_cons (pv 1) pa_nil)) (blkOk_by (N := N_steps_of) (sc := defScope s_steps_of) (by decide +kernel)) (fun _ _ _ _ _ => pg_tupK (K := K) (n := 2) rfl (pgs_cons (pg_name (i := 2) sc_steps_of.nd rfl (Or.inl rfl)) (pgs_cons (pg_name (i := 3) sc_steps_of.nd rfl (Or.inl rfl)) pgs_nil))) (fun _ _ _ _ _ => pts_one (pt_cmp (pc_notN (pv 3)))) (fun _ _ _ _ _ => (pe_tup (pa_cons (pv 3) (pa_cons (pv 2) pa_nil))))) pa_nil))))), ?_⟩
    refine q_aboveJ T (ev_var rfl) ha ok fun l3 H2 e2 h3 => ?_
    have hlen := ok.len
    have habl := ok.abl
    show tLc (iEnum K (tCons (tVar 1) tNil)) (gTup K 2 (gCons (gName 2) (gCons (gName 3) gNil))) (tB (tNotN (tVar 3))) (tTup (tCons (tVar 3) (tCons (tVar 2) tNil))) [2, 3] [some (.ref a), some (.ref l3), none, none] H2 (fun x H1 => rSortU K 2 64 [x] H1 Q)
    refine steps_comp (K := K) (a := a) rfl h3 (by omega) fun Dl ts H3 nD e3 hD hp => ?_
    have bd : ∀ p ∈ stepsL ab, p.1 < 39 ∧ p.2 < 39 := fun p hp => by
      have z := stepsL_lt hp
      have := ok.abb _ _ z.2
      omega
    refine ⟨Dl, ts.map V.ref, rfl, SqL.of hD, ?_, fun y hy => ?_, fun ys p perm _ np => ?_⟩
    · rw [List.length_map]
      have := Paired.length hp
      have h5 : (stepsL ab).length ≤ ab.length := by
        unfold stepsL
        exact Nat.le_trans (List.length_filterMap_le _ _) (Nat.le_of_eq List.length_range)
      omega
    · obtain ⟨t, ht, rfl⟩ := List.mem_map.mp hy
      obtain ⟨p, hp1, hp2⟩ := Paired.left_mem hp t ht
      have b := bd p hp1
      refine ⟨[(p.1 : Int), (p.2 : Int)], ⟨t, rfl, SqT.of hp2⟩, rfl, fun m hm => ?_⟩
      rcases List.mem_cons.mp hm with rfl | hm
      · omega
      · rcases List.mem_cons.mp hm with rfl | hm
        · omega
        · cases hm
    · have nP : ∀ t xs, H3 t = some (.tup xs) → upd H3 p (.lst ys) t = some (.tup xs) := fun t xs h => by
        rw [upd_ne (ne_of_none h np)]
        exact h
      refine k p ys _ (fresh_back (e2.trans e3) np) ((e2.trans e3).trans (Ex.new np)) upd_same (fun y hy => ?_) fun q hq => ?_
      · obtain ⟨t, ht, rfl⟩ := List.mem_map.mp (perm.mem_iff.mp hy)
        obtain ⟨p, hp1, hp2⟩ := Paired.left_mem hp t ht
        exact ⟨t, p, rfl, hp1, nP _ _ hp2⟩
      · obtain ⟨t, ht, h2⟩ := Paired.right_mem hp q hq
        exact ⟨t, perm.mem_iff.mpr (List.mem_map.mpr ⟨t, ht, rfl⟩), nP _ _ h2⟩
end
end HS

set_option Elab.async false
set_option linter.all false
set_option maxRecDepth 100000
set_option maxHeartbeats 4000000
namespace HS
open PySem PySem.Spec PyProof.Rows L2 Evl

def goodI (A : List Int) (m : Int) (x : Nat × Nat) : Bool := !(decide (x.2 < x.1) && decide (m ≤ A.getD x.1 0 - A.getD x.2 0))
def sp_step : Sp := fun vs H Q _ => ∃ (l a : Addr) (m : Int) (A : List Int) (s : List Nat) (ab : List (Option Nat)), vs = [.ref l, .ref a, .int m] ∧ H l = some (.lst (A.map V.int)) ∧ H a = some (.tup (iV s)) ∧ OkS s ab ∧ A.length = s.length ∧
  (formI A m ab = true → RetV .non H Q) ∧ (formI A m ab = false → ∀ H' b, Ex H H' → Q (.ref b) H')
theorem int_at {A : List Int} {j : Nat} (h : j < A.length) : atI (A.map V.int) (j : Int) = some (.int (A.getD j 0)) := by
  refine atI_nat ?_
  rw [List.getElem?_map, List.getD_eq_getElem?_getD, List.getElem?_eq_getElem h]
  rfl
theorem dec_lt (x y : Nat) : decide ((x : Int) < (y : Int)) = decide (x < y) := by
  by_cases h : x < y
  · rw [decide_eq_true h, decide_eq_true (by omega)]
  · rw [decide_eq_false h, decide_eq_false (by omega)]
theorem tup2_inj {a b c d : Nat} (h : HO.tup [V.int (a : Int), V.int (b : Int)] = HO.tup [V.int (c : Int), V.int (d : Int)]) : a = c ∧ b = d := by
  injection h with h
  injection h with h1 h2
  injection h2 with h2 _
  injection h1 with h1
  injection h2 with h2
  omega
section
variable {P : Program} {w : World} {K : PySem.W.Frag} {mg : Str → Option Value} {base : Heap} {CJ CF : Addr} {t1 t2 t3 : Tok}
abbrev N_step_to_form : List Str := ["at", "shape", "m", "one", "other"]
theorem sc_step_to_form : FnScope N_step_to_form ["at", "shape", "m"] (defScope s_step_to_form) := ⟨rfl, rfl, rfl, by decide +kernel, rfl, by decide +kernel, by decide +kernel⟩
theorem cal_step_to_form (D : Df K mg "step_to_form" s_step_to_form) (C1 : Cal P w K mg base "steps_of" 3 ["shape"] sp_steps_of) : Cal P w K mg base "step_to_form" 4 ["at", "shape", "m"] sp_step := by
  obtain ⟨_, _, Gsteps_of, msteps_of, ksteps_of, bsteps_of⟩ := C1.ex
  refine D.cal sc_step_to_form (fun _ _ _ _ _ _ us hl => match us, hl with | [_, _, _], _ => rfl) (fun vs H Q E h => ?_) (fun f cdv A outer s H vs Q E hr h => ?_)
  · obtain ⟨l, a, m, A, s, ab, rfl, _⟩ := h
    rfl
  · obtain ⟨l, a, m, L, s, ab, rfl, hl, ha, ok, hlen, k1, k2⟩ := h
    refine ⟨_, (pss_cons (ps_for PassesOwn.never rfl (pi_list (pe_call Gsteps_of (hr.mono (by decide)) (by rfl) msteps_of ksteps_of bsteps_of .nil pass0 (pa_cons (pv 1) pa_nil))) (pg_tup rfl (pgs_cons (pg_name (i := 3) sc_step_to_form.nd rfl (Or.inl rfl)) (pgs_cons (pg_name (i := 4) sc_step_to_form.nd rfl (Or.inl rfl)) pgs_nil))) (pss_one (ps_if (PW.pt (pw_and (pt_cmpR op_lt (pv 4) (pv 3) (nomark _)) (pw_and1 (pt_cmpR op_ge (pe_op op_sub (pe_ix ix_list (pv 0) (pv 3) (fun _ _ => rfl)) (pe_ix ix_list (pv 0) (pv 4) (fun _ _ => rfl))) (pv 2) (nomark _))))) (pss_one (ps_ret (pe_tup (pa_cons (pv 3) (pa_cons (pv 4) pa_nil))))) pss_nil)))
      (pss_one (ps_ret pe_non))), ?_⟩
    refine ⟨_, rfl, a, s, ab, rfl, ha, ok, fun l2 ys H1 n1 e1 h2 hy hp => ⟨l2, rfl, ⟨ys, SqL.of h2⟩, ?_⟩⟩
    refine for_list (K := K) (a := l2) (xs := ys) (fun i σ' H' => (∃ x3 x4 : Option V, σ' = [some (.ref l), some (.ref a), some (.int m), x3, x4]) ∧ Ex H1 H' ∧ ∀ j y, j < i → ys[j]? = some y → ∃ t p, y = .ref t ∧ H1 t = some (.tup [.int ((p.1 : Nat) : Int), .int ((p.2 : Nat) : Int)]) ∧ goodI L m p = true)
      ⟨⟨_, _, rfl⟩, Ex.refl H1, fun j y hj => absurd hj (Nat.not_lt_zero j)⟩ (fun i σ' H' _ q => SqL.of (q.2.1 _ _ h2)) ?_ ?_
    · rintro i y σ' H' hi ⟨⟨x3, x4, rfl⟩, e2, inv⟩
      obtain ⟨t, p, rfl, hps, ht⟩ := hy y (List.mem_of_getElem? hi)
      have b1 := stepsL_lt hps
      have b2 := ok.abb _ _ b1.2
      have b3 := ok.abl
      refine ⟨t, _, rfl, SqT.of (e2 _ _ ht), rfl, _, _, rfl, _, _, rfl, rfl, ?_⟩
      simp only [List.set_cons_zero, List.set_cons_succ]
      have hl' := e2 _ _ (e1 _ _ hl)
      refine s_when (b := !goodI L m p) ?_ (fun hb H3 e3 => ?_) (fun hb H3 e3 => ?_)
      · refine et_is (et_and (et_test (ev_op (ev_var rfl) (ev_var rfl) rv_lt)) fun _ => et_test (ev_op (ev_sub (ev_ixL (ev_var rfl) (ev_var rfl) (SqL.of hl') (int_at (by omega))) (ev_ixL (ev_var rfl) (ev_var rfl) (SqL.of hl') (int_at (by omega)))) (ev_var rfl) rv_ge)) ?_
        unfold goodI
        rw [dec_lt, Bool.not_not]
      · have bad : formI L m ab = false := by
          have hb' : goodI L m p = false := by simpa using hb
          unfold formI
          rw [List.all_eq_false]
          exact ⟨p, hps, by show ¬ goodI L m p = true; rw [hb']; decide⟩
        exact ⟨_, rfl, _, rfl, (by show 2 ≤ sizeLine; decide), fun q hq => k2 bad _ q (((e1.trans e2).trans e3).trans (Ex.new hq))⟩
      · have hb' : goodI L m p = true := by simpa using hb
        refine ⟨⟨_, _, rfl⟩, e2.trans e3, fun j y hj hy2 => ?_⟩
        by_cases hji : j < i
        · exact inv j y hji hy2
        · have : j = i := by omega
          subst this
          rw [hi] at hy2
          cases hy2
          exact ⟨t, p, rfl, ht, hb'⟩
    · rintro σ' H' ⟨⟨x3, x4, rfl⟩, e2, inv⟩
      have good : formI L m ab = true := by
        unfold formI
        rw [List.all_eq_true]
        intro p hps
        obtain ⟨t, ht, h3⟩ := hp p hps
        obtain ⟨j, hj⟩ := List.getElem?_of_mem ht
        obtain ⟨t', p', e, h4, g⟩ := inv j _ (List.getElem?_eq_some_iff.mp hj).1 hj
        injection e with e
        subst e
        rw [h3] at h4
        obtain ⟨q1, q2⟩ := tup2_inj (Option.some.inj h4)
        have : p = p' := Prod.ext q1 q2
        subst this
        exact g
      exact k1 good H' (e1.trans e2)

def sp_is_form : Sp := fun vs H Q _ => ∃ (a b : Addr) (m : Int) (L : List Int) (s : List Nat) (ab : List (Option Nat)), vs = [.ref a, .ref b, .int m] ∧ H a = some (.tup (L.map V.int)) ∧ OkL L ∧ H b = some (.tup (iV s)) ∧ OkS s ab ∧ s.length + 1 = L.length ∧ 1 ≤ m ∧ m ≤ 1000000000 ∧
  RetV (.bl (formI (placesI L) m ab)) H Q
theorem sv_is_form {H : Hp} {a b : Addr} {m : Int} {L : List Int} {s : List Nat} {ab : List (Option Nat)} (ha : H a = some (.tup (L.map V.int))) (ok : OkL L) (hb : H b = some (.tup (iV s))) (okS : OkS s ab) (hl : s.length + 1 = L.length) (h1 : 1 ≤ m) (h2 : m ≤ 1000000000) :
    SpV sp_is_form [.ref a, .ref b, .int m] H (.bl (formI (placesI L) m ab)) := fun _ e _ q _ => ⟨a, b, m, L, s, ab, rfl, e _ _ ha, ok, e _ _ hb, okS, hl, h1, h2, q⟩
abbrev N_is_form : List Str := ["lengths", "shape", "m"]
theorem sc_is_form : FnScope N_is_form ["lengths", "shape", "m"] (defScope s_is_form) := ⟨rfl, rfl, rfl, by decide +kernel, rfl, by decide +kernel, by decide +kernel⟩
theorem cal_is_form (D : Df K mg "is_form" s_is_form) (C1 : Cal P w K mg base "check_reading" 6 ["lengths", "shape"] sp_check_reading) (C2 : Cal P w K mg base "check_m" 4 ["thing"] sp_check_m)
    (C3 : Cal P w K mg base "step_to_form" 4 ["at", "shape", "m"] sp_step) (C4 : Cal P w K mg base "places_of" 1 ["lengths"] sp_places) : Cal P w K mg base "is_form" 7 ["lengths", "shape", "m"] sp_is_form := by
  obtain ⟨_, _, Gcheck_reading, mcheck_reading, kcheck_reading, bcheck_reading⟩ := C1.ex
  obtain ⟨_, _, Gcheck_m, mcheck_m, kcheck_m, bcheck_m⟩ := C2.ex
  obtain ⟨_, _, Gstep_to_form, mstep_to_form, kstep_to_form, bstep_to_form⟩ := C3.ex
  obtain ⟨_, _, Gplaces_of, mplaces_of, kplaces_of, bplaces_of⟩ := C4.ex
  refine D.cal sc_is_form (fun _ _ _ _ _ _ us hl => match us, hl with | [_, _, _], _ => rfl) (fun vs H Q E h => ?_) (fun f cdv A outer s H vs Q E hr h => ?_)
  · obtain ⟨a, b, m, L, s, ab, rfl, _⟩ := h
    rfl
  · obtain ⟨a, b, m, L, s, ab, rfl, ha, ok, hb, okS, hl, h1, h2, k⟩ := h
    refine ⟨_, (pss_cons (ps_expr (pe_call Gcheck_reading (hr.mono (by decide)) (by rfl) mcheck_reading kcheck_reading bcheck_reading .nil pass0 (pa_cons (pv 0) (pa_cons (pv 1) pa_nil))))
      (pss_cons (ps_expr (pe_call Gcheck_m (hr.mono (by decide)) (by rfl) mcheck_m kcheck_m bcheck_m .nil pass0 (pa_cons (pv 2) pa_nil)))
      (pss_one (ps_ret (pe_cmp (pc_isN (pe_call Gstep_to_form (hr.mono (by decide)) (by rfl) mstep_to_form kstep_to_form bstep_to_form .nil pass0 (pa_cons (pe_call Gplaces_of (hr.mono (by decide)) (by rfl) mplaces_of kplaces_of bplaces_of .nil pass0 (pa_cons (pv 0) pa_nil)) (pa_cons (pv 1) (pa_cons (pv 2) pa_nil))))) rfl))))), ?_⟩
    refine q_drop (ev_call (ea_cons (ev_var rfl) (ea_cons (ev_var rfl) ea_nil)) (sv_check_reading ha ok hb okS hl)) fun H1 e1 => ?_
    refine q_drop (ev_call (ea_cons (ev_var rfl) ea_nil) (sv_check_m h1 h2)) fun H2 e2 => ?_
    have ex := e1.trans e2
    have eP : EvL (tCall sp_places [] E0 (tCons (tVar 0) tNil)) [some (V.ref a), some (V.ref b), some (V.int m)] H2 ((placesI L).map V.int) := el_call (ea_cons (ev_var rfl) ea_nil) (sl_places (ex _ _ ha) ok)
    refine eP H2 (Ex.refl H2) _ fun l H3 nl e3 hl3 => ?_
    have e13 := ex.trans e3
    refine ⟨_, rfl, _, rfl, l, b, m, placesI L, s, ab, rfl, hl3, e13 _ _ hb, okS, by rw [placesI_len]; omega, fun g H4 e4 => ?_, fun g H4 c e4 => ?_⟩
    · have z := k H4 (e13.trans e4)
      rw [g] at z
      exact z
    · have z := k H4 (e13.trans e4)
      rw [g] at z
      exact z
end
end HS

set_option Elab.async false
set_option linter.all false
set_option maxRecDepth 100000
set_option maxHeartbeats 4000000
namespace HS
open PySem PySem.Spec PyProof.Rows L2 Evl

/-! ### dicts whose keys are tuples -/
section
variable {K : PySem.W.Frag} {σ : L2.St} {H : Hp} {td tk tv : TE} {d : Addr} {kvs : List (List Key × V)} {key : List Key} {v : V} {D : Ends} {tz : TS}
theorem ev_dgetT (hd : Ev td σ H (.ref d)) (hk : EvU tk σ H (key.map kV)) (h : H d = some (.dT kvs)) (hv : valV kvs key = some v) : Ev (tDGet td tk) σ H v := fun H1 e Q q =>
  hd H1 e _ fun H2 e2 => hk H2 (e.trans e2) _ fun b H3 nb e3 hb => ⟨d, v, rfl, hv ▸ DGet.t (((e.trans e2).trans e3) _ _ h) hb, q H3 (e2.trans e3)⟩
theorem s_dputT (hv : Ev tv σ H v) (hd : Ev td σ H (.ref d)) (hk : EvU tk σ H (key.map kV)) (h : H d = some (.dT kvs)) (hl : kvs.length ≤ 10000) (k : ∀ H1, Ex H H1 → D.nx σ (upd H1 d (.dT (putK kvs key v)))) : sDPut td tk tv D σ H :=
  hv H (Ex.refl H) _ fun H1 e1 => hd H1 e1 _ fun H2 e2 => hk H2 (e1.trans e2) _ fun b H3 nb e3 hb => ⟨d, _, rfl, DPut.t (((e1.trans e2).trans e3) _ _ h) hb (Nat.lt_of_le_of_lt hl (by decide)), k H3 ((e1.trans e2).trans e3)⟩
theorem q_dputT (hv : Ev tv σ H v) (hd : Ev td σ H (.ref d)) (hk : EvU tk σ H (key.map kV)) (h : H d = some (.dT kvs)) (hl : kvs.length ≤ 10000) (k : ∀ H1, Ex H H1 → tz D σ (upd H1 d (.dT (putK kvs key v)))) : tSeq (sDPut td tk tv) tz D σ H :=
  s_dputT (D := { D with nx := tz D }) hv hd hk h hl k
end
def kk (i j : Nat) : List Key := [Sum.inl (i : Int), Sum.inl (j : Int)]
theorem kk_inj {i j i' j' : Nat} (h : kk i j = kk i' j') : i = i' ∧ j = j' := by
  unfold kk at h
  injection h with h1 h2
  injection h2 with h2 _
  injection h1 with h1
  injection h2 with h2
  omega

/-! ### the object of the class Forms -/
theorem m_am : ¬ (("at" : Str) = "m") := by decide +kernel
theorem m_aw : ¬ (("at" : Str) = "whole") := by decide +kernel
theorem m_aa : ¬ (("at" : Str) = "ahead") := by decide +kernel
theorem m_mw : ¬ (("m" : Str) = "whole") := by decide +kernel
theorem m_ma : ¬ (("m" : Str) = "ahead") := by decide +kernel
theorem m_wa : ¬ (("whole" : Str) = "ahead") := by decide +kernel
def ffl (la : Addr) (m : Int) (dw da : Addr) : List (Str × V) := [("at", .ref la), ("m", .int m), ("whole", .ref dw), ("ahead", .ref da)]
theorem ffl_made (la : Addr) (m : Int) (dw da : Addr) : putF "ahead" (.ref da) (putF "whole" (.ref dw) (putF "m" (.int m) (putF "at" (.ref la) []))) = ffl la m dw da := by
  simp only [putF, if_neg m_am, if_neg m_aw, if_neg m_aa, if_neg m_mw, if_neg m_ma, if_neg m_wa, ffl]
theorem ffl_at (la : Addr) (m : Int) (dw da : Addr) : (ffl la m dw da).lookup ("at" : Str) = some (.ref la) := by
  rw [← ffl_made, lookup_putF, if_neg m_aa, lookup_putF, if_neg m_aw, lookup_putF, if_neg m_am, lookup_putF, if_pos rfl]
theorem ffl_m (la : Addr) (m : Int) (dw da : Addr) : (ffl la m dw da).lookup ("m" : Str) = some (.int m) := by
  rw [← ffl_made, lookup_putF, if_neg m_ma, lookup_putF, if_neg m_mw, lookup_putF, if_pos rfl]
theorem ffl_whole (la : Addr) (m : Int) (dw da : Addr) : (ffl la m dw da).lookup ("whole" : Str) = some (.ref dw) := by
  rw [← ffl_made, lookup_putF, if_neg m_wa, lookup_putF, if_pos rfl]
theorem ffl_ahead (la : Addr) (m : Int) (dw da : Addr) : (ffl la m dw da).lookup ("ahead" : Str) = some (.ref da) := by
  rw [← ffl_made, lookup_putF, if_pos rfl]
theorem ffl_no (la : Addr) (m : Int) (dw da : Addr) {f : Str} (h1 : ¬ f = "ahead") (h2 : ¬ f = "whole") (h3 : ¬ f = "m") (h4 : ¬ f = "at") : (ffl la m dw da).lookup f = none := by
  rw [← ffl_made, lookup_putF, if_neg h1, lookup_putF, if_neg h2, lookup_putF, if_neg h3, lookup_putF, if_neg h4]
  rfl

/-- nearness of places is a pattern -/
def NearR (A : List Int) (m : Int) (r : List Nat) : Prop := ∀ p q, p < q → q < A.length → (A.getD q 0 - A.getD p 0 < m ↔ nrB r p q = true)
def wV (W A : Nat → Nat → Nat) (i j : Nat) : Nat := if i = j then 1 else sW W A i j
def aV (r : List Nat) (k : Nat) (W A : Nat → Nat → Nat) (i j : Nat) : Nat := if i = j then 1 else sA r k W A i j
structure FAt (CF : Addr) (A : List Int) (m : Int) (H : Hp) (p dx la dw da : Addr) (kw ka : List (List Key × V)) : Prop where
  ob : H p = some (.ins CF dx (ffl la m dw da))
  hat : H la = some (.lst (A.map V.int))
  hw : H dw = some (.dT kw)
  ha : H da = some (.dT ka)
  ne : dw ≠ da
theorem FAt.ex {CF : Addr} {A : List Int} {m : Int} {H H' : Hp} {p dx la dw da : Addr} {kw ka : List (List Key × V)} (B : FAt CF A m H p dx la dw da kw ka) (e : Ex H H') : FAt CF A m H' p dx la dw da kw ka :=
  ⟨e _ _ B.ob, e _ _ B.hat, e _ _ B.hw, e _ _ B.ha, B.ne⟩
theorem FAt.putw {CF : Addr} {A : List Int} {m : Int} {H : Hp} {p dx la dw da : Addr} {kw ka u : List (List Key × V)} (B : FAt CF A m H p dx la dw da kw ka) : FAt CF A m (upd H dw (.dT u)) p dx la dw da u ka :=
  ⟨by rw [upd_ne (ne_of B.ob B.hw fun z => nomatch z)]; exact B.ob, by rw [upd_ne (ne_of B.hat B.hw fun z => nomatch z)]; exact B.hat, upd_same, by rw [upd_ne B.ne.symm]; exact B.ha, B.ne⟩
theorem FAt.puta {CF : Addr} {A : List Int} {m : Int} {H : Hp} {p dx la dw da : Addr} {kw ka u : List (List Key × V)} (B : FAt CF A m H p dx la dw da kw ka) : FAt CF A m (upd H da (.dT u)) p dx la dw da kw u :=
  ⟨by rw [upd_ne (ne_of B.ob B.ha fun z => nomatch z)]; exact B.ob, by rw [upd_ne (ne_of B.hat B.ha fun z => nomatch z)]; exact B.hat, by rw [upd_ne B.ne]; exact B.hw, upd_same, B.ne⟩
def sp_FF (CF : Addr) : Sp := fun vs H Q _ => ∃ (p dx la dw da : Addr) (m : Int) (A : List Int) (kw ka : List (List Key × V)) (i j : Nat) (r : List Nat) (W Aa : Nat → Nat → Nat), vs = [.ref p, .int (i : Int), .int (j : Int)] ∧ FAt CF A m H p dx la dw da kw ka ∧
  i ≤ j ∧ j ≤ A.length ∧ A.length ≤ 1000 ∧ kw.length ≤ 9000 ∧ ka.length ≤ 9000 ∧ NearR A m r ∧ (∀ x y, Aa x y < 18446744073709551616) ∧ (∀ x, i ≤ x → x < j → valV ka (kk i x) = some (.int (Aa i x : Int)) ∧ valV kw (kk (x + 1) j) = some (.int (W (x + 1) j : Int))) ∧
  ∀ H', (∀ b o, H b = some o → b ≠ dw → b ≠ da → H' b = some o) → FAt CF A m H' p dx la dw da (putK kw (kk i j) (.int (wV W Aa i j : Int))) (putK ka (kk i j) (.int (aV r A.length W Aa i j : Int))) → Q .non H'

theorem rv_mul {H : Hp} {i j : Int} (hc : CMul i j) : RV (rI CMul fun i j => .int (i * j)) (.int i) (.int j) H (.int (i * j)) := rv_I (g := fun i j => V.int (i * j)) hc
section
variable {P : Program} {w : World} {K : PySem.W.Frag} {mg : Str → Option Value} {base : Heap} {CJ CF : Addr} {t1 t2 t3 : Tok}
abbrev N_FF : List Str := ["self", "first", "last", "total", "near", "seam", "many"]
theorem sc_FF : FnScope N_FF ["self", "first", "last"] (defScope s_FF) := ⟨rfl, rfl, rfl, by decide +kernel, rfl, by decide +kernel, by decide +kernel⟩
theorem ok_FF {f : Addr} {fd : FuncData} (T : Txt K mg CJ CF t1 t2 t3) (F : Fun K "fill" "Forms.fill" s_FF f fd) : FnOk P w K mg base CX0 1 f fd ["self", "first", "last"] (sp_FF CF) := by
  refine F.ok sc_FF (fun vs H Q E h => ?_) (fun cdv A outer s H vs Q E hr h => ?_)
  · obtain ⟨p, dx, la, dw, da, m, A, kw, ka, i, j, r, W, Aa, rfl, _⟩ := h
    rfl
  · obtain ⟨p, dx, la, dw, da, m, L, kw, ka, i, j, r, W, Aa, rfl, B, hij, hjn, hn, hkw, hka, hnr, hbd, hval, k⟩ := h
    have hu := hu_of hr
    refine ⟨_, (pss_cons (ps_if (pt_cmpR op_eq (pv 1) (pv 2) (nomark _)) (pss_cons (ps_dput hu (pe_fld (pv 0) rfl) (pe_tup (pa_cons (pv 1) (pa_cons (pv 2) pa_nil))) pe_int rfl)
      (pss_cons (ps_dput hu (pe_fld (pv 0) rfl) (pe_tup (pa_cons (pv 1) (pa_cons (pv 2) pa_nil))) pe_int rfl)
      (pss_one (ps_retN)))) pss_nil)
      (pss_cons (ps_set (i := 3) sc_FF.nd rfl (Or.inl rfl) pe_int)
      (pss_cons (ps_set (i := 4) sc_FF.nd rfl (Or.inl rfl) pe_int)
      (pss_cons (ps_for PassesOwn.never rfl (pi_range2 (by rfl) T.nrange (pa_cons (pv 1) (pa_cons (pv 2) pa_nil))) (pg_name (i := 5) sc_FF.nd rfl (Or.inl rfl)) (pss_cons (ps_set (i := 6) sc_FF.nd rfl (Or.inl rfl) (pe_op op_mul (pe_dget hu (pe_fld (pv 0) rfl) (pe_tup (pa_cons (pv 1) (pa_cons (pv 5) pa_nil))) (fun _ _ => rfl)) (pe_dget hu (pe_fld (pv 0) rfl) (pe_tup (pa_cons (pe_op op_add (pv 5) pe_int) (pa_cons (pv 2) pa_nil))) (fun _ _ => rfl))))
      (pss_cons (ps_aug (i := 3) sc_FF.nd rfl (Or.inl rfl) (pv 6) ip_add)
      (pss_one (ps_if (PW.pt (pw_and (pt_cmpR op_lt (pv 2) (pe_callB call_len_seq (by rfl) T.nlen PySem.boot_len (pa_cons (pe_fld (pv 0) rfl) pa_nil)) (nomark _)) (pw_and1 (pt_cmpR op_lt (pe_op op_sub (pe_ix ix_list (pe_fld (pv 0) rfl) (pv 2) (fun _ _ => rfl)) (pe_ix ix_list (pe_fld (pv 0) rfl) (pv 5) (fun _ _ => rfl))) (pe_fld (pv 0) rfl) (nomark _))))) (pss_one (ps_aug (i := 4) sc_FF.nd rfl (Or.inl rfl) (pv 6) ip_add)) pss_nil)))))
      (pss_cons (ps_dput hu (pe_fld (pv 0) rfl) (pe_tup (pa_cons (pv 1) (pa_cons (pv 2) pa_nil))) (pv 3) rfl)
      (pss_one (ps_dput hu (pe_fld (pv 0) rfl) (pe_tup (pa_cons (pv 1) (pa_cons (pv 2) pa_nil))) (pv 4) rfl))))))), ?_⟩
    have eK : ∀ {σ : L2.St} {H1 : Hp}, σ[1]? = some (some (.int (i : Int))) → σ[2]? = some (some (.int (j : Int))) → EvU (tTup (tCons (tVar 1) (tCons (tVar 2) tNil))) σ H1 ((kk i j).map kV) := fun h1 h2 => eu_tup (ea_cons (ev_var h1) (ea_cons (ev_var h2) ea_nil)) (by show 2 ≤ 100000; decide)
    refine q_when (b := decide (i = j)) ?_ (fun hb H1 e1 => ?_) (fun hb H1 e1 => ?_)
    · refine et_is (et_test (ev_op (ev_var rfl) (ev_var rfl) (rv_eq rfl))) ?_
      by_cases h : i = j
      · subst h
        rw [decide_eq_true rfl, decide_eq_true rfl]
      · rw [decide_eq_false h, decide_eq_false (fun z => h (by injection z with z; omega))]
    · -- one word
      have h : i = j := of_decide_eq_true hb
      replace B := B.ex e1
      refine q_dputT (key := kk i j) ev_c (ev_fld (ev_var rfl) B.ob T.clF T.fwhole (ffl_whole _ _ _ _)) (eK rfl rfl) B.hw (by omega) fun H2 e2 => ?_
      have B2 := (B.ex e2).putw (u := putK kw (kk i j) (.int 1))
      refine q_dputT (key := kk i j) ev_c (ev_fld (ev_var rfl) B2.ob T.clF T.fahead (ffl_ahead _ _ _ _)) (eK rfl rfl) B2.ha (by omega) fun H3 e3 => ?_
      have B3 := (B2.ex e3).puta (u := putK ka (kk i j) (.int 1))
      have w1 : wV W Aa i j = 1 := by unfold wV; rw [if_pos h]
      have a1 : aV r L.length W Aa i j = 1 := by unfold aV; rw [if_pos h]
      refine k _ (fun b o q h1 h2 => ?_) (by rw [w1, a1]; exact B3)
      rw [upd_ne h2]
      exact e3 _ _ (by rw [upd_ne h1]; exact e2 _ _ (e1 _ _ q))
    · have h : ¬ i = j := of_decide_eq_false hb
      replace B := B.ex e1
      refine q_asg ev_c fun H2 e2 => ?_
      refine q_asg ev_c fun H3 e3 => ?_
      replace B := (B.ex e2).ex e3
      refine q_forR2 (ea_cons (ev_var rfl) (ea_cons (ev_var rfl) ea_nil)) (by omega)
        (fun x σ' H' => (∃ x5 x6 : Option V, σ' = [some (.ref p), some (.int (i : Int)), some (.int (j : Int)), some (.int (sumN (fun x => Aa i (i + x) * W (i + x + 1) j) x : Int)), some (.int (sumN (fun x => if j < L.length ∧ nrB r (i + x) j = true then Aa i (i + x) * W (i + x + 1) j else 0) x : Int)), x5, x6]) ∧ Ex H3 H')
        (fun H4 e4 => ⟨⟨_, _, rfl⟩, e4⟩) ?_ ?_
      · rintro x σ' H' hx ⟨⟨x5, x6, rfl⟩, e4⟩
        simp only [List.set_cons_zero, List.set_cons_succ]
        have C := B.ex e4
        have hx' : i + x < j := by omega
        obtain ⟨v1, v2⟩ := hval (i + x) (by omega) hx'
        have hb1 := hbd i (i + x)
        refine q_asg (v := .int ((Aa i (i + x) * W (i + x + 1) j : Nat) : Int)) ?_ fun H5 e5 => ?_
        · refine ev_is (ev_op (ev_dgetT (key := kk i (i + x)) (ev_fld (ev_var rfl) C.ob T.clF T.fahead (ffl_ahead _ _ _ _)) (eu_tup (ea_cons (ev_var rfl) (ea_cons (ev_var rfl) ea_nil)) (by show 2 ≤ 100000; decide)) C.ha v1)
            (ev_dgetT (key := kk (i + x + 1) j) (ev_fld (ev_var rfl) C.ob T.clF T.fwhole (ffl_whole _ _ _ _)) (eu_tup (ea_cons (ev_is (ev_add (ev_var rfl) ev_c) rfl) (ea_cons (ev_var rfl) ea_nil)) (by show 2 ≤ 100000; decide)) C.hw v2) (rv_mul (.inl ⟨by omega, by omega⟩))) ?_
          rw [Int.natCast_mul]
        · simp only [List.set_cons_zero, List.set_cons_succ]
          replace C := C.ex e5
          refine q_aug (a := _) (b := _) rfl (ev_var rfl) fun H6 e6 => ?_
          replace C := C.ex e6
          simp only [List.set_cons_zero, List.set_cons_succ]
          have es : (↑(sumN (fun x => Aa i (i + x) * W (i + x + 1) j) x) : Int) + ↑(Aa i (i + x) * W (i + x + 1) j) = ↑(sumN (fun x => Aa i (i + x) * W (i + x + 1) j) (x + 1)) := rfl
          refine s_when (b := decide (j < L.length ∧ nrB r (i + x) j = true)) ?_ (fun hb2 H7 e7 => ?_) (fun hb2 H7 e7 => ?_)
          · by_cases hj : j < L.length
            · refine et_is (et_and (et_test (ev_op (ev_var rfl) (ev_len (ev_fld (ev_var rfl) C.ob T.clF T.fat (ffl_at _ _ _ _)) (SqL.of C.hat)) rv_lt)) fun _ => et_test (ev_op (ev_sub (ev_ixL (ev_fld (ev_var rfl) C.ob T.clF T.fat (ffl_at _ _ _ _)) (ev_var rfl) (SqL.of C.hat) (int_at hj))
                (ev_ixL (ev_fld (ev_var rfl) C.ob T.clF T.fat (ffl_at _ _ _ _)) (ev_var rfl) (SqL.of C.hat) (int_at (j := i + x) (by omega)))) (ev_fld (ev_var rfl) C.ob T.clF T.fm (ffl_m _ _ _ _)) rv_lt)) ?_
              rw [List.length_map, decide_eq_true (by omega), Bool.true_and]
              have z := hnr (i + x) j hx' hj
              by_cases q : nrB r (i + x) j = true
              · rw [decide_eq_true (z.mpr q), decide_eq_true ⟨hj, q⟩]
              · rw [decide_eq_false (fun y => q (z.mp y)), decide_eq_false (fun y => q y.2)]
            · rw [decide_eq_false (fun y => hj y.1)]
              refine et_is (et_and (b := true) (et_test (ev_op (ev_var rfl) (ev_len (ev_fld (ev_var rfl) C.ob T.clF T.fat (ffl_at _ _ _ _)) (SqL.of C.hat)) rv_lt)) fun y => ?_) ?_
              · exfalso
                have := of_decide_eq_true y
                rw [List.length_map] at this
                omega
              · rw [List.length_map, decide_eq_false (by omega)]
                rfl
          · refine s_aug (a := _) (b := _) rfl (ev_var rfl) fun H8 e8 => ?_
            refine ⟨⟨some (.int ((i : Int) + (x : Int))), some (.int ((Aa i (i + x) * W (i + x + 1) j : Nat) : Int)), ?_⟩, ((((e4.trans e5).trans e6).trans e7).trans e8)⟩
            simp only [List.set_cons_zero, List.set_cons_succ]
            rw [show sumN (fun x => if j < L.length ∧ nrB r (i + x) j = true then Aa i (i + x) * W (i + x + 1) j else 0) (x + 1) = sumN (fun x => if j < L.length ∧ nrB r (i + x) j = true then Aa i (i + x) * W (i + x + 1) j else 0) x + Aa i (i + x) * W (i + x + 1) j from by
              show sumN _ x + (if _ then _ else _) = _
              rw [if_pos (of_decide_eq_true hb2)]]
            rfl
          · refine ⟨⟨some (.int ((i : Int) + (x : Int))), some (.int ((Aa i (i + x) * W (i + x + 1) j : Nat) : Int)), ?_⟩, (((e4.trans e5).trans e6).trans e7)⟩
            rw [show sumN (fun x => if j < L.length ∧ nrB r (i + x) j = true then Aa i (i + x) * W (i + x + 1) j else 0) (x + 1) = sumN (fun x => if j < L.length ∧ nrB r (i + x) j = true then Aa i (i + x) * W (i + x + 1) j else 0) x from by
              show sumN _ x + (if _ then _ else _) = _
              rw [if_neg (of_decide_eq_false hb2)]
              rfl]
            rfl
      · rintro σ' H' ⟨⟨x5, x6, rfl⟩, e4⟩
        have ez : ((j : Int) - (i : Int)).toNat = j - i := by omega
        rw [ez]
        have C := B.ex e4
        have w1 : sumN (fun x => Aa i (i + x) * W (i + x + 1) j) (j - i) = wV W Aa i j := by unfold wV sW; rw [if_neg h]
        have a1 : sumN (fun x => if j < L.length ∧ nrB r (i + x) j = true then Aa i (i + x) * W (i + x + 1) j else 0) (j - i) = aV r L.length W Aa i j := by unfold aV sA; rw [if_neg h]
        rw [w1, a1]
        refine q_dputT (key := kk i j) (ev_var rfl) (ev_fld (ev_var rfl) C.ob T.clF T.fwhole (ffl_whole _ _ _ _)) (eK rfl rfl) C.hw (by omega) fun H5 e5 => ?_
        have C2 := (C.ex e5).putw (u := putK kw (kk i j) (.int (wV W Aa i j : Int)))
        refine s_dputT (key := kk i j) (ev_var rfl) (ev_fld (ev_var rfl) C2.ob T.clF T.fahead (ffl_ahead _ _ _ _)) (eK rfl rfl) C2.ha (by omega) fun H6 e6 => ?_
        have C3 := (C2.ex e6).puta (u := putK ka (kk i j) (.int (aV r L.length W Aa i j : Int)))
        refine k _ (fun b o q h1 h2 => ?_) C3
        rw [upd_ne h2]
        exact e6 _ _ (by rw [upd_ne h1]; exact e5 _ _ (e4 _ _ (e3 _ _ (e2 _ _ (e1 _ _ q)))))
end
end HS

set_option Elab.async false
set_option linter.all false
set_option maxRecDepth 100000
set_option maxHeartbeats 4000000
namespace HS
open PySem PySem.Spec PyProof.Rows L2 Evl

theorem q_fldDT {K : PySem.W.Frag} {σ : L2.St} {H : Hp} {ta : TE} {tz : TS} {D : Ends} {p C dx : Addr} {fs : List (Str × V)} {f : Str} (ho : ∀ H1, Ex H H1 → Ev ta σ H1 (.ref p)) (hp : H p = some (.ins C dx fs)) (c : Cls K C) (n : NoAttr K C f) (hl : fs.length < 1000)
    (k : ∀ d H1, H d = none → Ex H H1 → H1 d = some (.dT []) → tz D σ (upd H1 p (.ins C dx (putF f (.ref d) fs)))) : tSeq (sFld K ta tDNewT f) tz D σ H := fun d hd =>
  ho _ (Ex.new hd) _ (Ex.refl _) _ fun H2 e2 => ⟨p, C, dx, fs, rfl, e2 _ _ (Ex.new hd _ _ hp), c, n, hl, k d H2 hd ((Ex.new hd).trans e2) (e2 _ _ upd_same)⟩
/-- tables that keep the recurrence -/
structure Rec (r : List Nat) (k : Nat) (W A : Nat → Nat → Nat) : Prop where
  w : ∀ i j, i ≤ j → j ≤ k → W i j = wV W A i j
  a : ∀ i j, i ≤ j → j ≤ k → A i j = aV r k W A i j
  b : ∀ i j, A i j < 18446744073709551616
def sp_FI (CF : Addr) : Sp := fun vs H Q _ => ∃ (p dx a : Addr) (m : Int) (L : List Int) (r : List Nat) (W A : Nat → Nat → Nat), vs = [.ref p, .ref a, .int m] ∧ H p = some (.ins CF dx []) ∧ H a = some (.tup (L.map V.int)) ∧ OkL L ∧ NearR (placesI L) m r ∧ Rec r (placesI L).length W A ∧
  ∀ (H' : Hp) (la dw da : Addr) (kw ka : List (List Key × V)), (∀ b o, H b = some o → b ≠ p → H' b = some o) → FAt CF (placesI L) m H' p dx la dw da kw ka → valV kw (kk 0 (placesI L).length) = some (.int (W 0 (placesI L).length : Int)) → Q .non H'
structure Done (k : Nat) (W A : Nat → Nat → Nat) (c d : Nat) (kw ka : List (List Key × V)) : Prop where
  lw : kw.length ≤ 100 * c + d
  la : ka.length ≤ 100 * c + d
  v : ∀ i j, i ≤ j → j ≤ k → (j < i + c ∨ (j = i + c ∧ i < d)) → valV kw (kk i j) = some (.int (W i j : Int)) ∧ valV ka (kk i j) = some (.int (A i j : Int))
theorem Done.put {k : Nat} {W A : Nat → Nat → Nat} {c d : Nat} {kw ka : List (List Key × V)} (D : Done k W A c d kw ka) : Done k W A c (d + 1) (putK kw (kk d (d + c)) (.int (W d (d + c) : Int))) (putK ka (kk d (d + c)) (.int (A d (d + c) : Int))) := by
  refine ⟨?_, ?_, fun i j h1 h2 h3 => ?_⟩
  · have := length_putK kw (kk d (d + c)) (.int (W d (d + c) : Int))
    have := D.lw
    omega
  · have := length_putK ka (kk d (d + c)) (.int (A d (d + c) : Int))
    have := D.la
    omega
  · rw [valV_put, valV_put]
    by_cases h : kk i j = kk d (d + c)
    · obtain ⟨rfl, rfl⟩ := kk_inj h
      rw [if_pos rfl, if_pos rfl]
      exact ⟨rfl, rfl⟩
    · rw [if_neg h, if_neg h]
      refine D.v i j h1 h2 ?_
      rcases h3 with h3 | ⟨h3, h4⟩
      · exact .inl h3
      · refine .inr ⟨h3, ?_⟩
        have : i ≠ d := fun e => h (by subst e; rw [h3])
        omega
section
variable {P : Program} {w : World} {K : PySem.W.Frag} {mg : Str → Option Value} {base : Heap} {CJ CF : Addr} {t1 t2 t3 : Tok}
abbrev N_FI : List Str := ["self", "lengths", "m", "words", "many", "first"]
theorem sc_FI : FnScope N_FI ["self", "lengths", "m"] (defScope s_FI) := ⟨rfl, rfl, rfl, by decide +kernel, rfl, by decide +kernel, by decide +kernel⟩
theorem ok_FI {f fF : Addr} {fd fdF : FuncData} (T : Txt K mg CJ CF t1 t2 t3) (F : Fun K "__init__" "Forms.__init__" s_FI f fd) (C4 : Cal P w K mg base "places_of" 1 ["lengths"] sp_places)
    (Gfill : FnOk P w K mg base CX0 1 fF fdF ["self", "first", "last"] (sp_FF CF)) (metF : Meth K CF "fill" fF) (bfill : Binds K fdF ["self", "first", "last"] []) : FnOk P w K mg base CX0 2 f fd ["self", "lengths", "m"] (sp_FI CF) := by
  obtain ⟨_, _, Gplaces_of, mplaces_of, kplaces_of, bplaces_of⟩ := C4.ex
  refine F.ok sc_FI (fun vs H Q E h => ?_) (fun cdv A outer s H vs Q E hr h => ?_)
  · obtain ⟨p, dx, a, m, L, r, W, A, rfl, _⟩ := h
    rfl
  · obtain ⟨p, dx, a, m, L, r, W, Aa, rfl, hp, ha, ok, hnr, hrec, k⟩ := h
    have hlen := placesI_len L
    have h1 := ok.one
    have h40 := ok.most
    generalize hkk : (placesI L).length = kN at *
    refine ⟨_, (pss_cons (ps_fld (pv 0) (pe_call Gplaces_of (hr.mono (by decide)) (by rfl) mplaces_of kplaces_of bplaces_of .nil pass0 (pa_cons (pv 1) pa_nil)) rfl)
      (pss_cons (ps_fld (pv 0) (pv 2) rfl)
      (pss_cons (ps_fld (pv 0) pe_dnewT rfl)
      (pss_cons (ps_fld (pv 0) pe_dnewT rfl)
      (pss_cons (ps_set (i := 3) sc_FI.nd rfl (Or.inl rfl) (pe_callB call_len_seq (by rfl) T.nlen PySem.boot_len (pa_cons (pv 1) pa_nil)))
      (pss_one (ps_for PassesOwn.never rfl (pi_range2 (by rfl) T.nrange (pa_cons pe_int (pa_cons (pe_op op_add (pv 3) pe_int) pa_nil))) (pg_name (i := 4) sc_FI.nd rfl (Or.inl rfl)) (pss_one (ps_for PassesOwn.never rfl (pi_range1 (by rfl) T.nrange (pa_cons (pe_op op_sub (pe_op op_add (pv 3) pe_int) (pv 4)) pa_nil)) (pg_name (i := 5) sc_FI.nd rfl (Or.inl rfl)) (pss_one (ps_expr (pe_meth (pv 0) T.clF metF Gfill (hr.mono (by decide)) bfill .nil pass0 (pa_cons (pv 5) (pa_cons (pe_op op_sub (pe_op op_add (pv 5) (pv 4)) pe_int) pa_nil)))))))))))))), ?_⟩
    have npa : a ≠ p := ne_of ha hp (fun z => nomatch z)
    refine q_fldL (el_call (ea_cons (ev_var rfl) ea_nil) (sl_places ha ok)) (ev_var rfl) hp T.clF T.fat (by show 0 < 1000; decide) fun la H1 n1 e1 h1l => ?_
    refine q_fld (ev_var rfl) (ev_var rfl) upd_same T.clF T.fm (by show 1 < 1000; decide) fun H2 e2 => ?_
    -- self.whole = {}, self.ahead = {}
    refine q_fldDT (fun _ _ => ev_var rfl) upd_same T.clF T.fwhole (by simp only [putF, if_neg m_am]; show 2 < 1000; decide) fun dw H3 ndw e3 hdw => ?_
    refine q_fldDT (fun _ _ => ev_var rfl) upd_same T.clF T.fahead (by simp only [putF, if_neg m_am, if_neg m_aw, if_neg m_mw]; show 3 < 1000; decide) fun da H4 nda e4 hda => ?_
    rw [ffl_made]
    have lp : la ≠ p := (ne_of_none hp n1).symm
    have wp : dw ≠ p := (ne_of_none upd_same ndw).symm
    have ap : da ≠ p := (ne_of_none upd_same nda).symm
    rw [upd_ne wp] at ndw
    rw [upd_ne ap] at nda
    have wa : dw ≠ da := ne_of_none hdw nda
    have kp4 : ∀ b o, H b = some o → b ≠ p → H4 b = some o := fun b o q hb => e4 _ _ (by rw [upd_ne hb]; exact e3 _ _ (by rw [upd_ne hb]; exact e2 _ _ (by rw [upd_ne hb]; exact e1 _ _ q)))
    have B4 : FAt CF (placesI L) m (upd H4 p (.ins CF dx (ffl la m dw da))) p dx la dw da [] [] :=
      ⟨upd_same, by rw [upd_ne lp]; exact e4 _ _ (by rw [upd_ne lp]; exact e3 _ _ (by rw [upd_ne lp]; exact e2 _ _ (by rw [upd_ne lp]; exact h1l))), by rw [upd_ne wp]; exact e4 _ _ (by rw [upd_ne wp]; exact hdw), by rw [upd_ne ap]; exact hda, wa⟩
    have fdw : H dw = Option.none := by
      cases q : H dw with
      | none => rfl
      | some o =>
        have z := e2 _ _ (show upd H1 p _ dw = some o by rw [upd_ne wp]; exact e1 _ _ q)
        rw [ndw] at z
        cases z
    have fda : H da = Option.none := by
      cases q : H da with
      | none => rfl
      | some o =>
        have z := e3 _ _ (show upd H2 p _ da = some o by rw [upd_ne ap]; exact e2 _ _ (show upd H1 p _ da = some o by rw [upd_ne ap]; exact e1 _ _ q))
        rw [nda] at z
        cases z
    have kp5 : ∀ b o, H b = some o → b ≠ p → upd H4 p (.ins CF dx (ffl la m dw da)) b = some o := fun b o q hb => by
      rw [upd_ne hb]
      exact kp4 b o q hb
    -- words = len(lengths)
    refine q_asg (ev_lenT (ev_var rfl) (SqT.of (kp5 _ _ ha npa))) fun H5 e5 => ?_
    rw [List.length_map]
    replace B4 := B4.ex e5
    replace kp5 : ∀ b o, H b = some o → b ≠ p → H5 b = some o := fun b o q hb => e5 _ _ (kp5 b o q hb)
    have eL : (L.length : Int) = (kN : Int) + 1 := by omega
    rw [eL]
    refine s_forR2 (lo := 1) (n := (kN : Int) + 1 + 1) (ea_cons ev_c (ea_cons (ev_add (ev_var rfl) ev_c) ea_nil)) (by omega)
      (fun c σ' H' => (∃ x4 x5 : Option V, σ' = [some (.ref p), some (.ref a), some (.int m), some (.int ((kN : Int) + 1)), x4, x5]) ∧ (∀ b o, H b = some o → b ≠ p → H' b = some o) ∧ ∃ kw ka, FAt CF (placesI L) m H' p dx la dw da kw ka ∧ Done kN W Aa c 0 kw ka)
      (fun H6 e6 => ⟨⟨_, _, rfl⟩, fun b o q hb => e6 _ _ (kp5 b o q hb), [], [], B4.ex e6, Nat.zero_le _, Nat.zero_le _, fun i j h1 h2 h3 => ?_⟩) ?_ ?_
    · exfalso
      omega
    · rintro c σ' H' hc ⟨⟨x4, x5, rfl⟩, kp, kw, ka, B, Dn⟩
      simp only [List.set_cons_zero, List.set_cons_succ]
      have en : (kN : Int) + 1 + 1 - (1 + (c : Int)) = ((kN + 1 - c : Nat) : Int) := by omega
      refine s_forR1 (n := ((kN + 1 - c : Nat) : Int)) (ea_cons (ev_is (ev_sub (ev_add (ev_var rfl) ev_c) (ev_var rfl)) (congrArg V.int en)) ea_nil) (by omega)
        (fun d σ' H' => (∃ x5 : Option V, σ' = [some (.ref p), some (.ref a), some (.int m), some (.int ((kN : Int) + 1)), some (.int (1 + (c : Int))), x5]) ∧ (∀ b o, H b = some o → b ≠ p → H' b = some o) ∧ ∃ kw ka, FAt CF (placesI L) m H' p dx la dw da kw ka ∧ Done kN W Aa c d kw ka)
        (fun H6 e6 => ⟨⟨_, rfl⟩, fun b o q hb => e6 _ _ (kp b o q hb), kw, ka, B.ex e6, Dn⟩) ?_ ?_
      · rintro d σ' H' hd ⟨⟨x5, rfl⟩, kp, kw, ka, B, Dn⟩
        simp only [List.set_cons_zero, List.set_cons_succ]
        have hdc : d + c ≤ kN := by omega
        have e6 : (d : Int) + (1 + (c : Int)) - 1 = ((d + c : Nat) : Int) := by omega
        refine ⟨_, rfl, p, dx, _, rfl, B.ob, ffl_no _ _ _ _ (by decide +kernel) (by decide +kernel) (by decide +kernel) (by decide +kernel), _, rfl, _, rfl, _, rfl, _, _, rfl, rfl, _, _, rfl, rfl, ?_⟩
        refine ⟨p, dx, la, dw, da, m, placesI L, kw, ka, d, d + c, r, W, Aa, ?_, B, by omega, by omega, by omega, ?_, ?_, hnr, hrec.b, fun x h1 h2 => ⟨(Dn.v d x h1 (by omega) (by omega)).2, (Dn.v (x + 1) (d + c) (by omega) hdc (by omega)).1⟩, fun H7 k7 B7 => ?_⟩
        · rw [← e6]
          rfl
        · have := Dn.lw
          omega
        · have := Dn.la
          omega
        · rw [hkk, ← hrec.w d (d + c) (by omega) hdc, ← hrec.a d (d + c) (by omega) hdc] at B7
          refine ⟨⟨_, rfl⟩, fun b o q hb => k7 b o (kp b o q hb) (ne_of_none q fdw) (ne_of_none q fda), _, _, B7, Dn.put⟩
      · rintro σ' H' ⟨⟨x5, rfl⟩, kp, kw, ka, B, Dn⟩
        have ed : ((kN + 1 - c : Nat) : Int).toNat = kN + 1 - c := by omega
        rw [ed] at Dn
        refine ⟨⟨_, _, rfl⟩, kp, kw, ka, B, ?_, ?_, fun i j h1 h2 h3 => Dn.v i j h1 h2 (by omega)⟩
        · have := Dn.lw
          omega
        · have := Dn.la
          omega
    · rintro σ' H' ⟨⟨x4, x5, rfl⟩, kp, kw, ka, B, Dn⟩
      have ed : ((kN : Int) + 1 + 1 - 1).toNat = kN + 1 := by omega
      rw [ed] at Dn
      exact k H' la dw da kw ka kp B (Dn.v 0 kN (Nat.zero_le _) (Nat.le_refl _) (.inl (by omega))).1

def sp_cm : Sp := fun vs H Q _ => ∃ (a : Addr) (m : Int) (L : List Int) (r : List Nat) (W A : Nat → Nat → Nat), vs = [.ref a, .int m] ∧ H a = some (.tup (L.map V.int)) ∧ OkL L ∧ 1 ≤ m ∧ m ≤ 1000000000 ∧ NearR (placesI L) m r ∧ Rec r (placesI L).length W A ∧ RetV (.int (W 0 (placesI L).length : Int)) H Q
theorem sv_cm {H : Hp} {a : Addr} {m : Int} {L : List Int} {r : List Nat} {W A : Nat → Nat → Nat} (ha : H a = some (.tup (L.map V.int))) (ok : OkL L) (h1 : 1 ≤ m) (h2 : m ≤ 1000000000) (hnr : NearR (placesI L) m r) (hrec : Rec r (placesI L).length W A) :
    SpV sp_cm [.ref a, .int m] H (.int (W 0 (placesI L).length : Int)) := fun _ e _ q _ => ⟨a, m, L, r, W, A, rfl, e _ _ ha, ok, h1, h2, hnr, hrec, q⟩
abbrev N_classes_many : List Str := ["lengths", "m"]
theorem sc_classes_many : FnScope N_classes_many ["lengths", "m"] (defScope s_classes_many) := ⟨rfl, rfl, rfl, by decide +kernel, rfl, by decide +kernel, by decide +kernel⟩
theorem cal_classes_many {fF : Addr} {fdF : FuncData} (T : Txt K mg CJ CF t1 t2 t3) (D : Df K mg "classes_many" s_classes_many) (C1 : Cal P w K mg base "check_lengths" 3 ["thing"] sp_check_lengths) (C2 : Cal P w K mg base "check_m" 4 ["thing"] sp_check_m)
    (MForms : Mk K CF fF) (GForms : FnOk P w K mg base CX0 2 fF fdF ["self", "lengths", "m"] (sp_FI CF)) (bForms : Binds K fdF ["self", "lengths", "m"] []) : Cal P w K mg base "classes_many" 5 ["lengths", "m"] sp_cm := by
  obtain ⟨_, _, Gcheck_lengths, mcheck_lengths, kcheck_lengths, bcheck_lengths⟩ := C1.ex
  obtain ⟨_, _, Gcheck_m, mcheck_m, kcheck_m, bcheck_m⟩ := C2.ex
  refine D.cal sc_classes_many (fun _ _ _ _ _ _ us hl => match us, hl with | [_, _], _ => rfl) (fun vs H Q E h => ?_) (fun f cdv A outer s H vs Q E hr h => ?_)
  · obtain ⟨a, m, L, r, W, A, rfl, _⟩ := h
    rfl
  · obtain ⟨a, m, L, r, W, Aa, rfl, ha, ok, h1, h2, hnr, hrec, k⟩ := h
    have hu := hu_of hr
    refine ⟨_, (pss_cons (ps_expr (pe_call Gcheck_lengths (hr.mono (by decide)) (by rfl) mcheck_lengths kcheck_lengths bcheck_lengths .nil pass0 (pa_cons (pv 0) pa_nil)))
      (pss_cons (ps_expr (pe_call Gcheck_m (hr.mono (by decide)) (by rfl) mcheck_m kcheck_m bcheck_m .nil pass0 (pa_cons (pv 1) pa_nil)))
      (pss_one (ps_ret (pe_dget hu (pe_fld (pe_make MForms GForms (hr.mono (by decide)) (by rfl) T.gForms bForms .nil pass0 (pa_cons (pv 0) (pa_cons (pv 1) pa_nil))) rfl) (pe_tup (pa_cons pe_int (pa_cons (pe_op op_sub (pe_callB call_len_seq (by rfl) T.nlen PySem.boot_len (pa_cons (pv 0) pa_nil)) pe_int) pa_nil))) (fun _ _ => rfl)))))), ?_⟩
    have h3 := ok.one
    refine q_drop (ev_call (ea_cons (ev_var rfl) ea_nil) (sv_check_lengths ha ok)) fun H1 e1 => ?_
    refine q_drop (ev_call (ea_cons (ev_var rfl) ea_nil) (sv_check_m h1 h2)) fun H2 e2 => ?_
    have ex := e1.trans e2
    refine ⟨_, rfl, _, rfl, fun x dx nx ndx ne => ?_⟩
    have hU : ∀ b o, H2 b = some o → upd (upd H2 dx (.own x)) x (.ins CF dx []) b = some o := fun b o q => by
      rw [upd_ne (ne_of_none q nx), upd_ne (ne_of_none q ndx)]
      exact q
    refine ⟨x, dx, a, m, L, r, W, Aa, rfl, upd_same, hU _ _ (ex _ _ ha), ok, hnr, hrec, fun H3 la dw da kw ka kp B hv => ⟨rfl, ?_⟩⟩
    have e3 : Ex H2 H3 := fun b o q => kp b o (hU b o q) (ne_of_none q nx)
    refine ⟨x, CF, dx, _, _, rfl, B.ob, T.clF, T.fwhole, ffl_whole _ _ _ _, ?_⟩
    have eT : EvU (tTup (tCons (tC (.int 0)) (tCons (tOp (rI0 fun i j => V.int (i - j)) (tCB (rLenS K) (tCons (tVar 0) tNil)) (tC (.int 1))) tNil))) [some (V.ref a), some (V.int m)] H3 ((kk 0 (placesI L).length).map kV) := by
      refine eu_tup (ea_cons ev_c (ea_cons (ev_is (ev_sub (ev_lenT (ev_var rfl) (SqT.of (e3 _ _ (ex _ _ ha)))) ev_c) ?_) ea_nil)) (by show 2 ≤ 100000; decide)
      rw [placesI_len, List.length_map]
      congr 1
      omega
    refine eT H3 (Ex.refl H3) _ fun b H4 nb e4 hb => ?_
    refine ⟨dw, _, rfl, hv ▸ DGet.t (e4 _ _ B.hw) hb, k H4 ((ex.trans e3).trans e4)⟩
end
end HS

set_option Elab.async false
set_option linter.all false
set_option maxRecDepth 100000
set_option maxHeartbeats 4000000
namespace HS
open PySem PySem.Spec PyProof.Rows L2 Evl

/-! ### more operators -/
section
variable {K : PySem.W.Frag} {σ : L2.St} {H : Hp} {ta tb : TE} {i j : Int}
theorem ev_mul (ha : Ev ta σ H (.int i)) (hb : Ev tb σ H (.int j)) (hc : CMul i j) : Ev (tOp (rI CMul fun i j => .int (i * j)) ta tb) σ H (.int (i * j)) := ev_op ha hb (rv_mul hc)
theorem ev_mod (ha : Ev ta σ H (.int i)) (hb : Ev tb σ H (.int j)) (hc : 0 < j) : Ev (tOp (rI (fun _ j => 0 < j) fun i j => .int (i % j)) ta tb) σ H (.int (i % j)) := ev_op ha hb (rv_I (C := fun _ j => 0 < j) (g := fun i j => V.int (i % j)) hc)
theorem ev_fdiv (ha : Ev ta σ H (.int i)) (hb : Ev tb σ H (.int j)) (hc : CDiv i j) : Ev (tOp (rI CDiv fun i j => .int (i / j)) ta tb) σ H (.int (i / j)) := ev_op ha hb (rv_I (C := CDiv) (g := fun i j => V.int (i / j)) hc)
theorem ev_pow (ha : Ev ta σ H (.int i)) (hb : Ev tb σ H (.int j)) (hc : CPow i j) : Ev (tOp (rI CPow fun i j => .int (i ^ j.toNat)) ta tb) σ H (.int (i ^ j.toNat)) := ev_op ha hb (rv_I (C := CPow) (g := fun i j => V.int (i ^ j.toNat)) hc)
def rInt1 : List V → Hp → VK → Prop := fun xs H Q => (∃ i, xs = [.int i] ∧ Q (.int i) H) ∨ ∃ k, xs = [.bl k] ∧ Q (.int (if k then 1 else 0)) H
theorem ev_int1 (ha : Ev ta σ H (.int i)) : Ev (tCB rInt1 (tCons ta tNil)) σ H (.int i) := fun H1 e _ q => ha H1 e _ fun H2 e2 => .inl ⟨i, rfl, q H2 e2⟩
theorem ev_int1b {k : Bool} (ha : Ev ta σ H (.bl k)) : Ev (tCB rInt1 (tCons ta tNil)) σ H (.int (if k then 1 else 0)) := fun H1 e _ q => ha H1 e _ fun H2 e2 => .inr ⟨k, rfl, q H2 e2⟩
def rAbs1 : List V → Hp → VK → Prop := fun xs H Q => ∃ i, xs = [.int i] ∧ Q (.int (if i < 0 then -i else i)) H
theorem ev_abs (ha : Ev ta σ H (.int i)) : Ev (tCB rAbs1 (tCons ta tNil)) σ H (.int (if i < 0 then -i else i)) := fun H1 e _ q => ha H1 e _ fun H2 e2 => ⟨i, rfl, q H2 e2⟩
end
theorem s_retLst {σ : L2.St} {H : Hp} {te : TE} {tr : TA} {D : Ends} {xs : List V} (h : EvL te σ H xs)
    (k : ∀ c H1, H c = none → Ex H H1 → H1 c = some (.lst xs) → tr σ H1 (fun vs H2 => (V.ref c :: vs).length ≤ sizeLine ∧ ∀ p, H2 p = none → D.rt (.ref p) (upd H2 p (.lst (V.ref c :: vs))))) : tRet (tLst (tCons te tr)) D σ H := h H (Ex.refl H) _ k

/-! ### the dice -/
def dL (c : Addr) (i b s k : Int) : List V := [.ref c, .int i, .int b, .int s, .int k]
theorem dL_len {c : Addr} {i b s k : Int} {j : Nat} (h : j < 5) : j < (dL c i b s k).length := h
structure DiceAt (H : Hp) (d c : Addr) (cs : List Int) (i b s k : Int) : Prop where
  hd : H d = some (.lst (dL c i b s k))
  hc : H c = some (.lst (cs.map V.int))
  ne : c ≠ d
  pos : ∀ x ∈ cs, 0 ≤ x
  i0 : 0 ≤ i
  b0 : 0 ≤ b
  s0 : 0 ≤ s
  s1 : s < 2147483647
theorem DiceAt.ex {H H' : Hp} {d c : Addr} {cs : List Int} {i b s k : Int} (D : DiceAt H d c cs i b s k) (e : Ex H H') : DiceAt H' d c cs i b s k := ⟨e _ _ D.hd, e _ _ D.hc, D.ne, D.pos, D.i0, D.b0, D.s0, D.s1⟩
theorem DiceAt.put {H : Hp} {d c : Addr} {cs : List Int} {i b s k i' b' s' k' : Int} (D : DiceAt H d c cs i b s k) {xs : List V} (hx : xs = dL c i' b' s' k') (hi : 0 ≤ i') (hb : 0 ≤ b') (h0 : 0 ≤ s') (h1 : s' < 2147483647) : DiceAt (upd H d (.lst xs)) d c cs i' b' s' k' :=
  ⟨by rw [upd_same, hx], by rw [upd_ne D.ne]; exact D.hc, D.ne, D.pos, hi, hb, h0, h1⟩
def sp_dice (K : PySem.W.Frag) : Sp := fun vs H Q _ => ∃ (a : Addr) (ns : List Int), vs = [.ref a] ∧ SqL K H a (ns.map V.int) ∧ ns.length ≤ 63 ∧ ∀ (H' : Hp) (d c : Addr) (cs : List Int) (i b s k : Int), H d = none → Ex H H' → DiceAt H' d c cs i b s k → Q (.ref d) H'
def sp_draw : Sp := fun vs H Q _ => ∃ (d c : Addr) (n : Int) (cs : List Int) (i b s k : Int), vs = [.ref d, .int n] ∧ DiceAt H d c cs i b s k ∧ 1 ≤ n ∧ n ≤ 1000000 ∧
  ∀ (H' : Hp) (v i' b' s' k' : Int), 0 ≤ v → v < n → (∀ x o, H x = some o → x ≠ d → H' x = some o) → DiceAt H' d c cs i' b' s' k' → Q (.int v) H'
theorem mod_small {x n : Int} (h : 0 < n) : 0 ≤ x % n ∧ x % n < n := ⟨Int.emod_nonneg x (by omega), Int.emod_lt_of_pos x h⟩
section
variable {P : Program} {w : World} {K : PySem.W.Frag} {mg : Str → Option Value} {base : Heap} {CJ CF : Addr} {t1 t2 t3 : Tok}
abbrev N_law_dice : List Str := ["_law_script", "_law_cell"]
theorem sc_law_dice : FnScope N_law_dice ["_law_script"] (defScope s_law_dice) := ⟨rfl, rfl, rfl, by decide +kernel, rfl, by decide +kernel, by decide +kernel⟩
theorem cal_law_dice (T : Txt K mg CJ CF t1 t2 t3) (D : Df K mg "_law_dice" s_law_dice) : Cal P w K mg base "_law_dice" 1 ["_law_script"] (sp_dice K) := by
  refine D.cal sc_law_dice (fun _ _ _ _ _ _ us hl => match us, hl with | [_], _ => rfl) (fun vs H Q E h => ?_) (fun f cdv A outer s H vs Q E hr h => ?_)
  · obtain ⟨a, ns, rfl, _⟩ := h
    rfl
  · obtain ⟨a, ns, rfl, ha, hn, k⟩ := h
    refine ⟨_, (pss_one (ps_ret (pe_lst (pa_cons (pe_lc (own := [("_law_cell", 1)]) (g := gName 1) (tt := tYes) rfl sc_law_dice.nd (pi_list (pe_slice sl_list (pv 0) po_none (po_some pe_int))) (blkOk_by (N := N_law_dice) (sc := defScope s_law_dice) (by decide +kernel)) (fun _ _ _ _ _ => pg_name (i := 1) sc_law_dice.nd rfl (Or.inl rfl)) (fun _ _ _ _ _ => pts_nil) (fun _ _ _ _ _ => (pe_callB call_abs (by rfl) T.nabs (by decide +kernel) (pa_cons (pe_callTy call_int1 (by rfl) T.nint (by decide +kernel) (pa_cons (pv 1) pa_nil)) pa_nil)))) (pa_cons pe_int (pa_cons pe_int (pa_cons pe_int (pa_cons pe_int pa_nil)))))))), ?_⟩
    have e0 : EvL (tSl (rSlL K) (tVar 0) tNoPart (tPart (tC (.int 63)))) [some (V.ref a), none] H (cutV (ns.map V.int) none (some 63)) := el_sl (ev_var rfl) eo_none (eo_some ev_c) ha
    have ec : cutV (ns.map V.int) none (some 63) = ns.map V.int := by
      unfold cutV
      show ((ns.map V.int).drop 0).take (HT.sIx (ns.map V.int).length (ns.map V.int).length (some ((63 : Nat) : Int)) - 0) = _
      rw [HT.sIx_nat, List.drop_zero, List.take_of_length_le]
      rw [List.length_map]
      omega
    rw [ec] at e0
    have e1 := el_lcNL (K := K) (σ := [some (V.ref a), none]) (t := tYes) (te := tCB rAbs1 (tCons (tCB rInt1 (tCons (tVar 1) tNil)) tNil)) (vs := [1]) (j := 1) (fun _ => true) (fun i => .int (if ns.getD i 0 < 0 then -(ns.getD i 0) else ns.getD i 0)) e0 (by rw [List.length_map]; omega) (fun _ => rfl) (fun _ _ _ _ _ => et_yes) (fun i x H1 ex hx _ => by
      obtain ⟨n, hn, rfl⟩ := int_get hx
      have e : ns.getD i 0 = n := by rw [List.getD_eq_getElem?_getD, hn]; rfl
      rw [e]
      exact ev_abs (ev_int1 (ev_var rfl)))
    rw [given_all] at e1
    refine s_retLst e1 fun c H1 nc e2 hc => ?_
    refine ⟨by show 5 ≤ sizeLine; decide, fun d nd => ?_⟩
    have hcd : c ≠ d := ne_of_none hc nd
    refine k _ d c ((List.range (ns.map V.int).length).map fun i => if ns.getD i 0 < 0 then -(ns.getD i 0) else ns.getD i 0) 0 0 1 0 (fresh_back e2 nd) (e2.trans (Ex.new nd)) ⟨upd_same, ?_, hcd, fun x hx => ?_, by omega, by omega, by omega, by omega⟩
    · rw [upd_ne hcd, hc, List.map_map]
      rfl
    · obtain ⟨i, _, rfl⟩ := List.mem_map.mp hx
      show 0 ≤ if ns.getD i 0 < 0 then -(ns.getD i 0) else ns.getD i 0
      split <;> omega
abbrev N_law_draw : List Str := ["_law_dice_here", "_law_sides", "_law_cell", "_law_digit", "_law_mixed"]
theorem sc_law_draw : FnScope N_law_draw ["_law_dice_here", "_law_sides"] (defScope s_law_draw) := ⟨rfl, rfl, rfl, by decide +kernel, rfl, by decide +kernel, by decide +kernel⟩
theorem cal_law_draw (T : Txt K mg CJ CF t1 t2 t3) (D : Df K mg "_law_draw" s_law_draw) : Cal P w K mg base "_law_draw" 1 ["_law_dice_here", "_law_sides"] sp_draw := by
  refine D.cal sc_law_draw (fun _ _ _ _ _ _ us hl => match us, hl with | [_, _], _ => rfl) (fun vs H Q E h => ?_) (fun f cdv A outer s H vs Q E hr h => ?_)
  · obtain ⟨d, c, n, cs, i, b, s, k, rfl, _⟩ := h
    rfl
  · obtain ⟨d, c, n, cs, i, b, s, kk, rfl, DA, hn1, hn2, k⟩ := h
    refine ⟨_, (pss_cut (ps_if (PW.pt (pw_and (pt_cmpR op_eq (pe_ix ix_list (pv 0) pe_int (fun _ _ => rfl)) pe_int (nomark _)) (pw_and1 (pt_cmpR op_lt (pe_ix ix_list (pv 0) pe_int (fun _ _ => rfl)) (pe_callB call_len_seq (by rfl) T.nlen PySem.boot_len (pa_cons (pe_ix ix_list (pv 0) pe_int (fun _ _ => rfl)) pa_nil)) (nomark _))))) (pss_cons (ps_set (i := 2) sc_law_draw.nd rfl (Or.inl rfl) (pe_ix ix_list (pe_ix ix_list (pv 0) pe_int (fun _ _ => rfl)) (pe_ix ix_list (pv 0) pe_int (fun _ _ => rfl)) (fun _ _ => rfl)))
      (pss_cons (ps_asg (pe_op op_add (pe_ix ix_list (pv 0) pe_int (fun _ _ => rfl)) pe_int) (pg_sub (pv 0) pe_int set_list))
      (pss_one (ps_if (pt_cmpR op_ge (pv 2) (pe_op op_pow pe_int pe_int) (nomark _)) (pss_one (ps_asg (pv 2) (pg_sub (pv 0) pe_int set_list))) (pss_one (ps_asg (pe_op op_mod (pe_callTy call_int1 (by rfl) T.nint (by decide +kernel) (pa_cons (pe_op op_add (pe_op op_add (pe_op op_mul (pe_ix ix_list (pv 0) pe_int (fun _ _ => rfl)) pe_int) (pe_op op_mul (pv 2) pe_int)) (pe_ix ix_list (pv 0) pe_int (fun _ _ => rfl))) pa_nil)) pe_int) (pg_sub (pv 0) pe_int set_list))))))) pss_nil)
      (pss_cons (ps_if (pt_cmpR op_gt (pe_ix ix_list (pv 0) pe_int (fun _ _ => rfl)) pe_int (nomark _)) (pss_cons (ps_set (i := 3) sc_law_draw.nd rfl (Or.inl rfl) (pe_op op_mod (pe_callTy call_int1 (by rfl) T.nint (by decide +kernel) (pa_cons (pe_ix ix_list (pv 0) pe_int (fun _ _ => rfl)) pa_nil)) (pv 1)))
      (pss_cons (ps_asg (pe_op op_fdiv (pe_callTy call_int1 (by rfl) T.nint (by decide +kernel) (pa_cons (pe_ix ix_list (pv 0) pe_int (fun _ _ => rfl)) pa_nil)) (pv 1)) (pg_sub (pv 0) pe_int set_list))
      (pss_one (ps_ret (pv 3))))) pss_nil)
      (pss_cons (ps_asg (pe_op op_add (pe_ix ix_list (pv 0) pe_int (fun _ _ => rfl)) pe_int) (pg_sub (pv 0) pe_int set_list))
      (pss_cons (ps_asg (pe_op op_mod (pe_callTy call_int1 (by rfl) T.nint (by decide +kernel) (pa_cons (pe_op op_add (pe_op op_add (pe_op op_mul (pe_ix ix_list (pv 0) pe_int (fun _ _ => rfl)) pe_int) (pe_op op_mul (pe_ix ix_list (pv 0) pe_int (fun _ _ => rfl)) pe_int)) pe_int) pa_nil)) pe_int) (pg_sub (pv 0) pe_int set_list))
      (pss_cons (ps_set (i := 4) sc_law_draw.nd rfl (Or.inl rfl) (pe_op op_mod (pe_callTy call_int1 (by rfl) T.nint (by decide +kernel) (pa_cons (pe_op op_mul (pe_ix ix_list (pv 0) pe_int (fun _ _ => rfl)) (pe_op op_add (pe_op op_fdiv (pe_ix ix_list (pv 0) pe_int (fun _ _ => rfl)) pe_int) pe_int)) pa_nil)) pe_int))
      (pss_cons (ps_set (i := 4) sc_law_draw.nd rfl (Or.inl rfl) (pe_op op_mod (pe_callTy call_int1 (by rfl) T.nint (by decide +kernel) (pa_cons (pe_op op_mul (pv 4) (pe_op op_add (pe_op op_fdiv (pv 4) pe_int) pe_int)) pa_nil)) pe_int))
      (pss_one (ps_ret (pe_op op_mod (pe_callTy call_int1 (by rfl) T.nint (by decide +kernel) (pa_cons (pe_op op_fdiv (pv 4) pe_int) pa_nil)) (pv 1)))))))))), ?_⟩
    have hM : (0 : Int) < 2147483647 := by decide
    -- the first if
    refine q_cut (M := fun σ' H1 => ∃ (i b s kk : Int) (x2 : Option V), σ' = [some (.ref d), some (.int n), x2, none, none] ∧ (∀ x o, H x = some o → x ≠ d → H1 x = some o) ∧ DiceAt H1 d c cs i b s kk) ?_ ?_
    · refine s_when (b := decide (b = 0) && decide (i < (cs.length : Int))) ?_ (fun hb H1 e1 => ?_) (fun hb H1 e1 => ⟨i, b, s, kk, _, rfl, fun x o q _ => e1 _ _ q, DA.ex e1⟩)
      · refine et_and (et_is (et_test (ev_op (ev_ixL (ev_var rfl) ev_c (SqL.of DA.hd) (rfl : atI _ 2 = some (V.int b))) ev_c (rv_eq rfl))) ?_) fun _ => et_test (ev_is (ev_op (ev_ixL (ev_var rfl) ev_c (SqL.of DA.hd) (rfl : atI _ 1 = some (V.int i))) (ev_len (ev_ixL (ev_var rfl) ev_c (SqL.of DA.hd) (rfl : atI _ 0 = some (V.ref c))) (SqL.of DA.hc)) rv_lt) (by rw [List.length_map]))
        by_cases h : b = 0
        · subst h
          rfl
        · rw [decide_eq_false h, decide_eq_false (fun z => h (by injection z))]
      · obtain ⟨hb1, hb2⟩ := Bool.and_eq_true_iff.mp hb
        have hb2 := of_decide_eq_true hb2
        have D1 := DA.ex e1
        have i0 := D1.i0
        obtain ⟨j, rfl⟩ : ∃ j : Nat, i = (j : Int) := ⟨i.toNat, by omega⟩
        have hj : j < cs.length := by omega
        have hx : 0 ≤ cs.getD j 0 := by
          refine DA.pos _ ?_
          rw [List.getD_eq_getElem?_getD, List.getElem?_eq_getElem hj]
          exact List.getElem_mem hj
        refine q_asg (ev_ixL (ev_ixL (ev_var rfl) ev_c (SqL.of D1.hd) (rfl : atI _ 0 = some (V.ref c))) (ev_ixL (ev_var rfl) ev_c (SqL.of D1.hd) (rfl : atI _ 1 = some (V.int (j : Int)))) (SqL.of D1.hc) (int_at hj)) fun H2 e2 => ?_
        replace D1 := D1.ex e2
        refine q_setL (j := 1) D1.hd (ev_add (ev_ixL (ev_var rfl) ev_c (SqL.of D1.hd) (rfl : atI _ 1 = some (V.int (j : Int)))) ev_c) (ev_var rfl) ev_c (dL_len (by decide)) fun H3 e3 => ?_
        replace D1 := (D1.ex e3).put (i' := (j : Int) + 1) (b' := b) (s' := s) (k' := kk) (xs := (dL c (j : Int) b s kk).set 1 (.int ((j : Int) + 1))) rfl (by omega) D1.b0 D1.s0 D1.s1
        have kp3 : ∀ x o, H x = some o → x ≠ d → upd H3 d (.lst ((dL c (j : Int) b s kk).set 1 (.int ((j : Int) + 1)))) x = some o := fun x o q hx => by
          rw [upd_ne hx]
          exact e3 _ _ (e2 _ _ (e1 _ _ q))
        refine s_if (b := decide ((10 : Int) ^ (18 : Int).toNat ≤ cs.getD j 0)) (et_test (ev_op (ev_var rfl) (ev_pow ev_c ev_c ⟨by decide, by decide, by decide⟩) rv_ge)) (fun _ H4 e4 => ?_) (fun _ H4 e4 => ?_)
        · replace D1 := D1.ex e4
          refine s_setL (j := 2) D1.hd (ev_var rfl) (ev_var rfl) ev_c (dL_len (by decide)) fun H5 e5 => ?_
          exact ⟨_, _, _, _, _, rfl, fun x o q hx => by rw [upd_ne hx]; exact e5 _ _ (e4 _ _ (kp3 x o q hx)), (D1.ex e5).put (i' := (j : Int) + 1) (b' := cs.getD j 0) (s' := s) (k' := kk) rfl (by omega) hx D1.s0 D1.s1⟩
        · replace D1 := D1.ex e4
          have g3 : atI (dL c ((j : Int) + 1) b s kk) 3 = some (V.int s) := rfl
          have g1 : atI (dL c ((j : Int) + 1) b s kk) 1 = some (V.int ((j : Int) + 1)) := rfl
          refine s_setL (j := 3) D1.hd (ev_mod (ev_int1 (ev_add (ev_add (ev_mul (ev_ixL (ev_var rfl) ev_c (SqL.of D1.hd) g3) ev_c (.inr ⟨by decide, by decide⟩)) (ev_mul (ev_var rfl) ev_c (.inr ⟨by decide, by decide⟩))) (ev_ixL (ev_var rfl) ev_c (SqL.of D1.hd) g1))) ev_c (by decide)) (ev_var rfl) ev_c (dL_len (by decide)) fun H5 e5 => ?_
          have ms := mod_small (x := s * 69621 + cs.getD j 0 * 40692 + ((j : Int) + 1)) hM
          exact ⟨_, _, _, _, _, rfl, fun x o q hx => by rw [upd_ne hx]; exact e5 _ _ (e4 _ _ (kp3 x o q hx)), (D1.ex e5).put (i' := (j : Int) + 1) (b' := b) (s' := (s * 69621 + cs.getD j 0 * 40692 + ((j : Int) + 1)) % 2147483647) (k' := kk) rfl (by omega) D1.b0 ms.1 ms.2⟩
    · rintro σ' H1 ⟨i, b, s, kk, x2, rfl, kp, D1⟩
      refine q_when (b := decide (0 < b)) (et_test (ev_op (ev_ixL (ev_var rfl) ev_c (SqL.of D1.hd) (rfl : atI _ 2 = some (V.int b))) ev_c rv_gt)) (fun hb H2 e2 => ?_) (fun hb H2 e2 => ?_)
      · replace D1 := D1.ex e2
        refine q_asg (ev_mod (ev_int1 (ev_ixL (ev_var rfl) ev_c (SqL.of D1.hd) (rfl : atI _ 2 = some (V.int b)))) (ev_var rfl) (by omega)) fun H3 e3 => ?_
        replace D1 := D1.ex e3
        refine q_setL (j := 2) D1.hd (ev_fdiv (ev_int1 (ev_ixL (ev_var rfl) ev_c (SqL.of D1.hd) (rfl : atI _ 2 = some (V.int b)))) (ev_var rfl) ⟨by omega, by omega⟩) (ev_var rfl) ev_c (dL_len (by decide)) fun H4 e4 => ?_
        have D2 := (D1.ex e4).put (i' := i) (b' := b / n) (s' := s) (k' := kk) (xs := (dL c i b s kk).set 2 (.int (b / n))) rfl D1.i0 (Int.ediv_nonneg D1.b0 (by omega)) D1.s0 D1.s1
        have ms := mod_small (x := b) (n := n) (by omega)
        refine s_ret (ev_var rfl) fun H5 e5 => k H5 (b % n) i (b / n) s kk ms.1 ms.2 (fun x o q hx => e5 _ _ ?_) (D2.ex e5)
        rw [upd_ne hx]
        exact e4 _ _ (e3 _ _ (e2 _ _ (kp x o q hx)))
      · replace D1 := D1.ex e2
        refine q_setL (j := 4) D1.hd (ev_add (ev_ixL (ev_var rfl) ev_c (SqL.of D1.hd) (rfl : atI _ 4 = some (V.int kk))) ev_c) (ev_var rfl) ev_c (dL_len (by decide)) fun H3 e3 => ?_
        have D2 := (D1.ex e3).put (i' := i) (b' := b) (s' := s) (k' := kk + 1) (xs := (dL c i b s kk).set 4 (.int (kk + 1))) rfl D1.i0 D1.b0 D1.s0 D1.s1
        have kp3 : ∀ x o, H x = some o → x ≠ d → upd H3 d (.lst ((dL c i b s kk).set 4 (.int (kk + 1)))) x = some o := fun x o q hx => by
          rw [upd_ne hx]
          exact e3 _ _ (e2 _ _ (kp x o q hx))
        have g3 : atI (dL c i b s (kk + 1)) 3 = some (V.int s) := rfl
        have g4 : atI (dL c i b s (kk + 1)) 4 = some (V.int (kk + 1)) := rfl
        refine q_setL (j := 3) D2.hd (ev_mod (ev_int1 (ev_add (ev_add (ev_mul (ev_ixL (ev_var rfl) ev_c (SqL.of D2.hd) g3) ev_c (.inr ⟨by decide, by decide⟩)) (ev_mul (ev_ixL (ev_var rfl) ev_c (SqL.of D2.hd) g4) ev_c (.inr ⟨by decide, by decide⟩))) ev_c)) ev_c (by decide)) (ev_var rfl) ev_c (dL_len (by decide)) fun H4 e4 => ?_
        have ms := mod_small (x := s * 48271 + (kk + 1) * 7919 + 1) hM
        generalize hs' : (s * 48271 + (kk + 1) * 7919 + 1) % 2147483647 = s' at ms
        have D3 := (D2.ex e4).put (i' := i) (b' := b) (s' := s') (k' := kk + 1) (xs := (dL c i b s (kk + 1)).set 3 (.int s')) rfl D1.i0 D1.b0 ms.1 ms.2
        have kp4 : ∀ x o, H x = some o → x ≠ d → upd H4 d (.lst ((dL c i b s (kk + 1)).set 3 (.int s'))) x = some o := fun x o q hx => by
          rw [upd_ne hx]
          exact e4 _ _ (kp3 x o q hx)
        have q3 : atI (dL c i b s' (kk + 1)) 3 = some (V.int s') := rfl
        refine q_asg (ev_mod (ev_int1 (ev_mul (ev_ixL (ev_var rfl) ev_c (SqL.of D3.hd) q3) (ev_add (ev_fdiv (ev_ixL (ev_var rfl) ev_c (SqL.of D3.hd) q3) ev_c ⟨by decide, by decide⟩) ev_c) (.inl ⟨by omega, by omega⟩))) ev_c (by decide)) fun H5 e5 => ?_
        have mm := mod_small (x := s' * (s' / 1009 + 69623)) (n := 2147483399) (by decide)
        generalize (s' * (s' / 1009 + 69623)) % 2147483399 = x at mm
        refine q_asg (ev_mod (ev_int1 (ev_mul (ev_var rfl) (ev_add (ev_fdiv (ev_var rfl) ev_c ⟨by decide, by decide⟩) ev_c) (.inl ⟨by omega, by omega⟩))) ev_c (by decide)) fun H6 e6 => ?_
        generalize (x * (x / 2003 + 40693)) % 2147483563 = y
        have my := mod_small (x := y / 16) (n := n) (by omega)
        refine s_ret (ev_mod (ev_int1 (ev_fdiv (ev_var rfl) ev_c ⟨by decide, by decide⟩)) (ev_var rfl) (by omega)) fun H7 e7 => k H7 (y / 16 % n) i b s' (kk + 1) my.1 my.2 (fun x o q hx => e7 _ _ (e6 _ _ (e5 _ _ (kp4 x o q hx)))) (((D3.ex e5).ex e6).ex e7)
end
end HS

set_option Elab.async false
set_option linter.all false
set_option maxRecDepth 100000
set_option maxHeartbeats 4000000
namespace HS
open PySem PySem.Spec PyProof.Rows L2 Evl

/-! ### sums of lengths -/
theorem getD_of {L : List Int} {i : Nat} (h : i < L.length) : L[i]? = some (L.getD i 0) := by
  rw [List.getD_eq_getElem?_getD, List.getElem?_eq_getElem h]
  rfl
theorem sum_succ {L : List Int} {i : Nat} (h : i < L.length) : (L.take (i + 1)).sum = (L.take i).sum + L.getD i 0 := sum_take (getD_of h)
theorem sum_bd {L : List Int} (ok : ∀ x ∈ L, 1 ≤ x ∧ x ≤ 1000000) : ∀ i, i ≤ L.length → (i : Int) ≤ (L.take i).sum ∧ (L.take i).sum ≤ 1000000 * (i : Int)
  | 0, _ => by simp
  | i + 1, h => by
    have ih := sum_bd ok i (by omega)
    rw [sum_succ (by omega)]
    have := ok _ (List.mem_of_getElem? (getD_of (L := L) (i := i) (by omega)))
    omega
theorem sum_lt {L : List Int} (ok : ∀ x ∈ L, 1 ≤ x ∧ x ≤ 1000000) {p : Nat} : ∀ d, p + d ≤ L.length → (L.take p).sum + (d : Int) ≤ (L.take (p + d)).sum
  | 0, _ => by simp
  | d + 1, h => by
    have ih := sum_lt ok (p := p) d (by omega)
    rw [show p + (d + 1) = (p + d) + 1 from rfl, sum_succ (by omega)]
    have := ok _ (List.mem_of_getElem? (getD_of (L := L) (i := p + d) (by omega)))
    omega
theorem placesI_at {L : List Int} {i : Nat} (h : i < L.length - 1) : (placesI L).getD i 0 = (L.take (i + 1)).sum := by
  rw [List.getD_eq_getElem?_getD]
  unfold placesI
  rw [List.getElem?_map, List.getElem?_range h]
  rfl
theorem placesI_lt {L : List Int} (ok : OkL L) {p q : Nat} (h : p < q) (hq : q < (placesI L).length) : (placesI L).getD p 0 < (placesI L).getD q 0 ∧ (placesI L).getD q 0 - (placesI L).getD p 0 ≤ 40000000 := by
  rw [placesI_len] at hq
  rw [placesI_at (by omega), placesI_at hq]
  have a := sum_lt ok.all (p := p + 1) (q - p) (by omega)
  have b := sum_bd ok.all (p + 1) (by omega)
  have c := sum_bd ok.all (q + 1) (by omega)
  have e : p + 1 + (q - p) = q + 1 := by omega
  rw [e] at a
  have := ok.most
  omega
theorem sum_all {L : List Int} (ok : OkL L) : 1 ≤ L.sum ∧ L.sum ≤ 40000000 := by
  have a := sum_bd ok.all L.length (Nat.le_refl _)
  rw [List.take_of_length_le (Nat.le_refl _)] at a
  have := ok.one
  have := ok.most
  omega

/-! ### draws within calls -/
def Kp (d : Addr) (H H' : Hp) : Prop := ∀ x o, H x = some o → x ≠ d → H' x = some o
theorem Kp.of {d : Addr} {H H' : Hp} (e : Ex H H') : Kp d H H' := fun x o q _ => e x o q
theorem Kp.trans {d : Addr} {H H1 H2 : Hp} (a : Kp d H H1) (b : Kp d H1 H2) : Kp d H H2 := fun x o q h => b x o (a x o q h) h
def DiceX (H : Hp) (d c : Addr) (cs : List Int) : Prop := ∃ i b s k, DiceAt H d c cs i b s k
theorem DiceX.ex {H H' : Hp} {d c : Addr} {cs : List Int} (D : DiceX H d c cs) (e : Ex H H') : DiceX H' d c cs := by
  obtain ⟨i, b, s, k, D⟩ := D
  exact ⟨i, b, s, k, D.ex e⟩
theorem DiceX.there {H : Hp} {d c : Addr} {cs : List Int} (D : DiceX H d c cs) : ∃ xs, H d = some (.lst xs) := by
  obtain ⟨i, b, s, k, D⟩ := D
  exact ⟨_, D.hd⟩
theorem DiceX.ne {H : Hp} {d c : Addr} {cs : List Int} (D : DiceX H d c cs) {p : Addr} (h : H p = none) : p ≠ d := by
  obtain ⟨xs, e⟩ := D.there
  exact (ne_of_none e h).symm
theorem DiceX.fresh {H H' : Hp} {d c : Addr} {cs : List Int} (D : DiceX H d c cs) (k : Kp d H H') {p : Addr} (h : H' p = none) (hd : ∃ xs, H' d = some xs) : H p = none := by
  cases q : H p with
  | none => rfl
  | some o =>
    by_cases e : p = d
    · subst e
      obtain ⟨xs, z⟩ := hd
      rw [h] at z
      cases z
    · rw [k _ _ q e] at h
      cases h
theorem draw_call {σ : L2.St} {H : Hp} {ta tb : TE} {d c : Addr} {n : Int} {cs : List Int} {E : XK} {Q : VK} (ha : Ev ta σ H (.ref d)) (hb : Ev tb σ H (.int n)) (D : DiceX H d c cs) (h1 : 1 ≤ n) (h2 : n ≤ 1000000)
    (q : ∀ H' v, 0 ≤ v → v < n → Kp d H H' → DiceX H' d c cs → Q (.int v) H') : tCall sp_draw [] E (tCons ta (tCons tb tNil)) σ H Q :=
  ha H (Ex.refl H) _ fun H1 e1 => hb H1 e1 _ fun H2 e2 => by
    obtain ⟨i, b, s, k, D⟩ := D
    exact ⟨d, c, n, cs, i, b, s, k, rfl, (D.ex e1).ex e2, h1, h2, fun H' v i' b' s' k' v0 v1 kp D' => q H' v v0 v1 ((Kp.of (e1.trans e2)).trans kp) ⟨i', b', s', k', D'⟩⟩
theorem q_draw {σ : L2.St} {H : Hp} {ta tb : TE} {d c : Addr} {n : Int} {cs : List Int} {E : XK} {D : Ends} {tz : TS} {j : Nat} (ha : Ev ta σ H (.ref d)) (hb : Ev tb σ H (.int n)) (X : DiceX H d c cs) (h1 : 1 ≤ n) (h2 : n ≤ 1000000)
    (q : ∀ H' v, 0 ≤ v → v < n → Kp d H H' → DiceX H' d c cs → tz D (σ.set j (some (.int v))) H') : tSeq (tAsg (tCall sp_draw [] E (tCons ta (tCons tb tNil))) (gName j)) tz D σ H :=
  show tCall sp_draw [] E (tCons ta (tCons tb tNil)) σ H (fun x H1 => tz D (σ.set j (some x)) H1) from draw_call ha hb X h1 h2 q
theorem yes_turn {σ : L2.St} {H : Hp} {te : TE} {N : V → Hp → Prop} {M : Hp → Prop} (h : te σ H N) : tYes σ H (fun b H3 => if b = true then te σ H3 N else M H3) := by
  show if true = true then te σ H N else M H
  exact iteT h
theorem add_draw {σ : L2.St} {H : Hp} {te ta tb : TE} {d c : Addr} {m n : Int} {cs : List Int} {E : XK} {Q : VK} (he : Ev te σ H (.int m)) (ha : ∀ H1, Ex H H1 → Ev ta σ H1 (.ref d)) (hb : ∀ H1, Ex H H1 → Ev tb σ H1 (.int n)) (X : DiceX H d c cs) (h1 : 1 ≤ n) (h2 : n ≤ 1000000)
    (q : ∀ H' v, 0 ≤ v → v < n → Kp d H H' → DiceX H' d c cs → Q (.int (m + v)) H') : tOp (rI0 fun i j => .int (i + j)) te (tCall sp_draw [] E (tCons ta (tCons tb tNil))) σ H Q :=
  he H (Ex.refl H) _ fun H1 e1 => draw_call (ha H1 e1) (hb H1 e1) (X.ex e1) h1 h2 fun H' v v0 v1 kp D' => ⟨_, _, rfl, rfl, q H' v v0 v1 ((Kp.of e1).trans kp) D'⟩
/-- x = e + draw(dice, n) -/
theorem q_addDraw {σ : L2.St} {H : Hp} {te ta tb : TE} {d c : Addr} {m n : Int} {cs : List Int} {E : XK} {D : Ends} {tz : TS} {j : Nat} (he : Ev te σ H (.int m)) (ha : ∀ H1, Ex H H1 → Ev ta σ H1 (.ref d)) (hb : ∀ H1, Ex H H1 → Ev tb σ H1 (.int n)) (X : DiceX H d c cs) (h1 : 1 ≤ n) (h2 : n ≤ 1000000)
    (q : ∀ H' v, 0 ≤ v → v < n → Kp d H H' → DiceX H' d c cs → tz D (σ.set j (some (.int (m + v)))) H') : tSeq (tAsg (tOp (rI0 fun i j => .int (i + j)) te (tCall sp_draw [] E (tCons ta (tCons tb tNil)))) (gName j)) tz D σ H :=
  he H (Ex.refl H) _ fun H1 e1 => draw_call (ha H1 e1) (hb H1 e1) (X.ex e1) h1 h2 fun H' v v0 v1 kp D' => ⟨_, _, rfl, rfl, q H' v v0 v1 ((Kp.of e1).trans kp) D'⟩
/-- [a, b, ..][draw(dice, n)], n items, all within bounds -/
theorem pick {K : PySem.W.Frag} {σ : L2.St} {H : Hp} {tl : TA} {ta tb : TE} {d c : Addr} {xs : List Int} {cs : List Int} {E : XK} {Q : VK} {lo hi : Int} (hx : EvA tl σ H (xs.map V.int)) (ha : ∀ H1, Ex H H1 → Ev ta σ H1 (.ref d)) (hb : ∀ H1, Ex H H1 → Ev tb σ H1 (.int (xs.length : Int)))
    (D : DiceX H d c cs) (h1 : 1 ≤ xs.length) (h2 : xs.length ≤ 100) (hbd : ∀ x ∈ xs, lo ≤ x ∧ x ≤ hi) (q : ∀ H' v, lo ≤ v → v ≤ hi → Kp d H H' → DiceX H' d c cs → Q (.int v) H') :
    tOp (rIxL K) (tLst tl) (tCall sp_draw [] E (tCons ta (tCons tb tNil))) σ H Q :=
  hx H (Ex.refl H) _ fun H1 e1 => ⟨by rw [List.length_map]; exact sz_of (by omega), fun p hp => by
    have e2 : Ex H (upd H1 p (.lst (xs.map V.int))) := e1.trans (Ex.new hp)
    have D2 := D.ex e2
    have ne : p ≠ d := (D.ex e1).ne hp
    refine draw_call (ha _ e2) (hb _ e2) D2 (by omega) (by omega) fun H' v v0 v1 kp D' => ?_
    obtain ⟨j, rfl⟩ : ∃ j : Nat, v = (j : Int) := ⟨v.toNat, by omega⟩
    have hj : j < xs.length := by omega
    have b := hbd _ (List.mem_of_getElem? (getD_of hj))
    exact ⟨p, _, (j : Int), _, rfl, rfl, SqL.of (kp _ _ upd_same ne), int_at hj, q H' _ b.1 b.2 ((Kp.of e2).trans kp) D'⟩⟩

def sp_whole : Sp := fun vs H Q _ => ∃ x y : Int, vs = [.int x, .int y] ∧ RetV (.bl (decide (x = y))) H Q
theorem sv_whole {H : Hp} {x y : Int} : SpV sp_whole [.int x, .int y] H (.bl (decide (x = y))) := fun _ _ _ q _ => ⟨x, y, rfl, q⟩
theorem dec_int (x y : Int) : decide (V.int x = V.int y) = decide (x = y) := by
  by_cases h : x = y
  · rw [decide_eq_true h, decide_eq_true (by rw [h])]
  · rw [decide_eq_false h, decide_eq_false (fun z => h (by injection z))]
def sp_lengths : Sp := fun vs H Q _ => ∃ (d c : Addr) (cs : List Int) (n : Nat), vs = [.ref d, .int (n : Int)] ∧ DiceX H d c cs ∧ 1 ≤ n ∧ n ≤ 40 ∧ ∀ (H' : Hp) (t : Addr) (L : List Int), OkL L → L.length = n → Kp d H H' → H' t = some (.tup (L.map V.int)) → DiceX H' d c cs → Q (.ref t) H'
def sp_m : Sp := fun vs H Q _ => ∃ (d c a : Addr) (cs L : List Int), vs = [.ref d, .ref a] ∧ DiceX H d c cs ∧ H a = some (.tup (L.map V.int)) ∧ OkL L ∧ ∀ (H' : Hp) (m : Int), 1 ≤ m → m ≤ 1000000000 → Kp d H H' → DiceX H' d c cs → Q (.int m) H'
section
variable {P : Program} {w : World} {K : PySem.W.Frag} {mg : Str → Option Value} {base : Heap} {CJ CF : Addr} {t1 t2 t3 : Tok}
abbrev N_law_whole : List Str := ["_law_told", "_law_due"]
theorem sc_law_whole : FnScope N_law_whole ["_law_told", "_law_due"] (defScope s_law_whole) := ⟨rfl, rfl, rfl, by decide +kernel, rfl, by decide +kernel, by decide +kernel⟩
theorem cal_law_whole (T : Txt K mg CJ CF t1 t2 t3) (D : Df K mg "_law_whole" s_law_whole) : Cal P w K mg base "_law_whole" 1 ["_law_told", "_law_due"] sp_whole := by
  refine D.cal sc_law_whole (fun _ _ _ _ _ _ us hl => match us, hl with | [_, _], _ => rfl) (fun vs H Q E h => ?_) (fun f cdv A outer s H vs Q E hr h => ?_)
  · obtain ⟨x, y, rfl, _⟩ := h
    rfl
  · obtain ⟨x, y, rfl, k⟩ := h
    refine ⟨_, (pss_one (ps_ret (pe_and (pe_callB call_isi (by rfl) T.nisinstance (by decide +kernel) (pa_cons (pv 0) (pa_cons (pe_bltn (v := .ty "int") (by rfl) T.nint (by decide +kernel) rfl) pa_nil))) (pe_and (pe_not (pe_callB call_isi (by rfl) T.nisinstance (by decide +kernel) (pa_cons (pv 0) (pa_cons (pe_bltn (v := .ty "bool") (by rfl) T.nbool (by decide +kernel) rfl) pa_nil)))) (pe_one (pe_cmpR op_eq (pv 0) (pv 1) (nomark _))))))), ?_⟩
    refine s_ret (ev_is (ev_andV (ev_isi (ev_var rfl) ev_c (fun _ _ => ty_int) (kit_ty (r := true) (by decide +kernel))) fun _ => ev_andV (ev_notV (ev_isi (ev_var rfl) ev_c (fun _ _ => ty_int) (kit_ty (r := false) (by decide +kernel)))) fun _ => ev_op (ev_var rfl) (ev_var rfl) (rv_eq rfl)) ?_) k
    rw [dec_int]
    simp
abbrev N_law_lengths : List Str := ["_law_dice_here", "_law_words", "_law_most", "_law_word"]
theorem sc_law_lengths : FnScope N_law_lengths ["_law_dice_here", "_law_words"] (defScope s_law_lengths) := ⟨rfl, rfl, rfl, by decide +kernel, rfl, by decide +kernel, by decide +kernel⟩
theorem cal_law_lengths (T : Txt K mg CJ CF t1 t2 t3) (D : Df K mg "_law_lengths" s_law_lengths) (C1 : Cal P w K mg base "_law_draw" 1 ["_law_dice_here", "_law_sides"] sp_draw) : Cal P w K mg base "_law_lengths" 2 ["_law_dice_here", "_law_words"] sp_lengths := by
  obtain ⟨_, _, Glaw_draw, mlaw_draw, klaw_draw, blaw_draw⟩ := C1.ex
  refine D.cal sc_law_lengths (fun _ _ _ _ _ _ us hl => match us, hl with | [_, _], _ => rfl) (fun vs H Q E h => ?_) (fun f cdv A outer s H vs Q E hr h => ?_)
  · obtain ⟨d, c, cs, n, rfl, _⟩ := h
    rfl
  · obtain ⟨d, c, cs, n, rfl, DX, n1, n40, k⟩ := h
    refine ⟨_, (pss_cons (ps_set (i := 2) sc_law_lengths.nd rfl (Or.inr rfl) (pe_ix ix_list (pe_lst (pa_cons pe_int (pa_cons pe_int (pa_cons pe_int (pa_cons pe_int (pa_cons (pe_op op_pow pe_int pe_int) pa_nil)))))) (pe_call Glaw_draw (hr.mono (by decide)) (by rfl) mlaw_draw klaw_draw blaw_draw .nil pass0 (pa_cons (pv 0) (pa_cons pe_int pa_nil))) (fun _ _ => rfl)))
      (pss_one (ps_ret (pe_callTy call_tuple_of (by rfl) T.ntuple (by decide +kernel) (pa_cons (pe_lc (own := [("_law_word", 3)]) (g := gName 3) (tt := tYes) rfl sc_law_lengths.nd (pi_range1 (by rfl) T.nrange (pa_cons (pv 1) pa_nil)) (blkOk_by (N := N_law_lengths) (sc := defScope s_law_lengths) (by decide +kernel)) (fun _ _ _ _ _ => pg_name (i := 3) sc_law_lengths.nd rfl (Or.inl rfl)) (fun _ _ _ _ _ => pts_nil) (fun _ _ _ _ _ => (pe_op op_add pe_int (pe_call Glaw_draw (hr.mono (by decide)) (by rfl) mlaw_draw klaw_draw blaw_draw .nil pass0 (pa_cons (pv 0) (pa_cons (pv 2) pa_nil)))))) pa_nil))))), ?_⟩
    refine pick (K := K) (lo := 1) (hi := 1000000) (xs := [1, 2, 4, 9, 10 ^ (6 : Int).toNat]) (c := c) (cs := cs) (ea_cons ev_c (ea_cons ev_c (ea_cons ev_c (ea_cons ev_c (ea_cons (ev_pow ev_c ev_c ⟨by decide, by decide, by decide⟩) ea_nil))))) (fun _ _ => ev_var rfl) (fun _ _ => ev_c) DX (by decide) (by decide) (by decide) fun H1 most m1 m2 k1 D1 => ?_
    refine ⟨_, rfl, (n : Int), rfl, by omega, by omega, fun Dl hD => ?_⟩
    have nd : Dl ≠ d := D1.ne hD
    refine lc_range (lo := 0) (n := (n : Int).toNat) (fun i H' => ∃ vs : List Int, H' Dl = some (.lst (vs.map V.int)) ∧ vs.length = i ∧ (∀ x ∈ vs, 1 ≤ x ∧ x ≤ 1000000) ∧ Kp d H1 H' ∧ DiceX H' d c cs)
      ⟨[], upd_same, rfl, fun x h => (nomatch h), Kp.of (Ex.new hD), D1.ex (Ex.new hD)⟩ ?_ ?_
    · rintro i H' hi ⟨vs, hv, hl, hb, kp, D'⟩
      refine ⟨rfl, ?_⟩
      refine yes_turn ?_
      refine add_draw (c := c) (cs := cs) ev_c (fun _ _ => ev_var rfl) (fun _ _ => ev_var rfl) D' m1 m2 fun H2 v v0 v1 k2 D2 => ?_
      refine ⟨vs.map V.int, k2 _ _ hv nd, by rw [List.length_map]; exact Nat.lt_of_le_of_lt (show vs.length ≤ 1000 by omega) (by decide), vs ++ [1 + v], ?_, ?_, ?_, ?_, ?_⟩
      · rw [upd_same, List.map_append]
        rfl
      · rw [List.length_append, hl]
        rfl
      · intro x hx
        rcases List.mem_append.mp hx with hx | hx
        · exact hb x hx
        · rw [List.mem_singleton.mp hx]
          omega
      · intro x o q hx
        by_cases e : x = Dl
        · subst e
          rw [hD] at q
          cases q
        · rw [upd_ne e]
          exact k2 _ _ (kp _ _ q hx) hx
      · obtain ⟨i', b', s', k', D2⟩ := D2
        have nc : Dl ≠ c := by
          intro e
          obtain ⟨_, _, _, _, D1⟩ := D1
          rw [e, D1.hc] at hD
          cases hD
        exact ⟨i', b', s', k', by rw [upd_ne (Ne.symm nd)]; exact D2.hd, by rw [upd_ne (Ne.symm nc)]; exact D2.hc, D2.ne, D2.pos, D2.i0, D2.b0, D2.s0, D2.s1⟩
    · rintro H' ⟨vs, hv, hl, hb, kp, D'⟩
      refine ⟨Dl, _, rfl, .inl ⟨SqL.of hv, fun t ht => ?_⟩⟩
      refine k _ t vs ⟨by omega, by omega, hb⟩ (by omega) ((k1.trans kp).trans (Kp.of (Ex.new ht))) upd_same (D'.ex (Ex.new ht))
abbrev N_law_m : List Str := ["_law_dice_here", "_law_lengths_here", "_law_at", "_law_kind", "_law_p", "_law_q"]
theorem sc_law_m : FnScope N_law_m ["_law_dice_here", "_law_lengths_here"] (defScope s_law_m) := ⟨rfl, rfl, rfl, by decide +kernel, rfl, by decide +kernel, by decide +kernel⟩
theorem cal_law_m (T : Txt K mg CJ CF t1 t2 t3) (D : Df K mg "_law_m" s_law_m) (C1 : Cal P w K mg base "_law_draw" 1 ["_law_dice_here", "_law_sides"] sp_draw) (C2 : Cal P w K mg base "_law_places" 1 ["_law_lengths_here"] sp_places) : Cal P w K mg base "_law_m" 2 ["_law_dice_here", "_law_lengths_here"] sp_m := by
  obtain ⟨_, _, Glaw_draw, mlaw_draw, klaw_draw, blaw_draw⟩ := C1.ex
  obtain ⟨_, _, Glaw_places, mlaw_places, klaw_places, blaw_places⟩ := C2.ex
  refine D.cal sc_law_m (fun _ _ _ _ _ _ us hl => match us, hl with | [_, _], _ => rfl) (fun vs H Q E h => ?_) (fun f cdv A outer s H vs Q E hr h => ?_)
  · obtain ⟨d, c, a, cs, L, rfl, _⟩ := h
    rfl
  · obtain ⟨d, c, a, cs, L, rfl, DX, ha, ok, k⟩ := h
    refine ⟨_, (pss_cons (ps_set (i := 2) sc_law_m.nd rfl (Or.inl rfl) (pe_call Glaw_places (hr.mono (by decide)) (by rfl) mlaw_places klaw_places blaw_places .nil pass0 (pa_cons (pv 1) pa_nil)))
      (pss_cons (ps_set (i := 3) sc_law_m.nd rfl (Or.inl rfl) (pe_call Glaw_draw (hr.mono (by decide)) (by rfl) mlaw_draw klaw_draw blaw_draw .nil pass0 (pa_cons (pv 0) (pa_cons pe_int pa_nil))))
      (pss_cons (ps_if (PW.pt (pw_or (pt_cmpR op_eq (pv 3) pe_int (nomark _)) (pw_or1 (pt_cmpR op_lt (pe_callB call_len_seq (by rfl) T.nlen PySem.boot_len (pa_cons (pv 2) pa_nil)) pe_int (nomark _))))) (pss_one (ps_ret (pe_ix ix_list (pe_lst (pa_cons pe_int (pa_cons pe_int (pa_cons (pe_op op_pow pe_int pe_int) pa_nil)))) (pe_call Glaw_draw (hr.mono (by decide)) (by rfl) mlaw_draw klaw_draw blaw_draw .nil pass0 (pa_cons (pv 0) (pa_cons pe_int pa_nil))) (fun _ _ => rfl)))) pss_nil)
      (pss_cons (ps_set (i := 4) sc_law_m.nd rfl (Or.inl rfl) (pe_call Glaw_draw (hr.mono (by decide)) (by rfl) mlaw_draw klaw_draw blaw_draw .nil pass0 (pa_cons (pv 0) (pa_cons (pe_op op_sub (pe_callB call_len_seq (by rfl) T.nlen PySem.boot_len (pa_cons (pv 2) pa_nil)) pe_int) pa_nil))))
      (pss_cons (ps_set (i := 5) sc_law_m.nd rfl (Or.inl rfl) (pe_op op_add (pe_op op_add (pv 4) pe_int) (pe_call Glaw_draw (hr.mono (by decide)) (by rfl) mlaw_draw klaw_draw blaw_draw .nil pass0 (pa_cons (pv 0) (pa_cons (pe_op op_sub (pe_op op_sub (pe_callB call_len_seq (by rfl) T.nlen PySem.boot_len (pa_cons (pv 2) pa_nil)) (pv 4)) pe_int) pa_nil)))))
      (pss_cons (ps_if (pt_cmpR op_eq (pv 3) pe_int (nomark _)) (pss_one (ps_ret (pe_op op_add (pe_callB (cr_sumT rfl) (by rfl) T.nsum (by decide +kernel) (pa_cons (pv 1) pa_nil)) (pe_call Glaw_draw (hr.mono (by decide)) (by rfl) mlaw_draw klaw_draw blaw_draw .nil pass0 (pa_cons (pv 0) (pa_cons pe_int pa_nil)))))) pss_nil)
      (pss_one (ps_ret (pe_op op_add (pe_op op_sub (pe_ix ix_list (pv 2) (pv 5) (fun _ _ => rfl)) (pe_ix ix_list (pv 2) (pv 4) (fun _ _ => rfl))) (pe_callTy call_int1 (by rfl) T.nint (by decide +kernel) (pa_cons (pe_cmpR op_gt (pv 3) pe_int (nomark _)) pa_nil))))))))))), ?_⟩
    have aD : a ≠ d := by
      obtain ⟨xs, e⟩ := DX.there
      exact ne_of ha e fun z => nomatch z
    refine q_asgL (el_call (ea_cons (ev_var rfl) ea_nil) (sl_places ha ok)) fun l H1 nl e1 hl => ?_
    have ld : l ≠ d := DX.ne nl
    refine q_draw (c := c) (cs := cs) (ev_var rfl) ev_c (DX.ex e1) (by decide) (by decide) fun H2 kind q0 q1 k2 D2 => ?_
    have K2 : Kp d H H2 := (Kp.of e1).trans k2
    replace hl := k2 _ _ hl ld
    replace ha := K2 _ _ ha aD
    have hL := placesI_len L
    have h40 := ok.most
    simp only [L2.start, List.map_cons, List.map_nil, List.length_cons, List.length_nil, List.replicate, List.cons_append, List.nil_append, List.set_cons_zero, List.set_cons_succ]
    refine q_when (b := decide (kind = 0) || decide (((placesI L).length : Int) < 2)) ?_ (fun hb H3 e3 => ?_) (fun hb H3 e3 => ?_)
    · refine et_is (et_or (et_test (ev_op (ev_var rfl) ev_c (rv_eq rfl))) fun _ => et_test (ev_op (ev_len (ev_var rfl) (SqL.of hl)) ev_c rv_lt)) ?_
      rw [dec_int, List.length_map]
    · refine pick (K := K) (lo := 1) (hi := 1000000000) (xs := [1, 2, 10 ^ (9 : Int).toNat]) (c := c) (cs := cs) (ea_cons ev_c (ea_cons ev_c (ea_cons (ev_pow ev_c ev_c ⟨by decide, by decide, by decide⟩) ea_nil))) (fun _ _ => ev_var rfl) (fun _ _ => ev_c) (D2.ex e3) (by decide) (by decide) (by decide) fun H4 m m1 m2 k4 D4 => ?_
      exact k H4 m m1 m2 ((K2.trans (Kp.of e3)).trans k4) D4
    · obtain ⟨hb1, hb2⟩ := Bool.or_eq_false_iff.mp hb
      have hb1 := of_decide_eq_false hb1
      have hb2 := of_decide_eq_false hb2
      replace hl := e3 _ _ hl
      replace ha := e3 _ _ ha
      replace K2 := K2.trans (Kp.of e3)
      replace D2 := D2.ex e3
      have eN : ∀ {σ : L2.St} {Hx : Hp}, σ[2]? = some (some (.ref l)) → Hx l = some (.lst ((placesI L).map V.int)) → Ev (tCB (rLenS K) (tCons (tVar 2) tNil)) σ Hx (.int ((placesI L).length : Int)) := fun h1 h2 => ev_is (ev_len (ev_var h1) (SqL.of h2)) (by rw [List.length_map])
      refine q_draw (c := c) (cs := cs) (ev_var rfl) (ev_sub (eN rfl hl) ev_c) D2 (by omega) (by omega) fun H4 p p0 p1 k4 D4 => ?_
      replace hl := k4 _ _ hl ld
      replace ha := k4 _ _ ha aD
      replace K2 := K2.trans k4
      refine q_addDraw (c := c) (cs := cs) (ev_add (ev_var rfl) ev_c) (fun _ _ => ev_var rfl) (fun Hx ex => ev_sub (ev_sub (eN rfl (ex _ _ hl)) (ev_var rfl)) ev_c) D4 (by omega) (by omega) fun H5 q q0' q1' k5 D5 => ?_
      replace hl := k5 _ _ hl ld
      replace ha := k5 _ _ ha aD
      replace K2 := K2.trans k5
      refine q_when (b := decide (kind = 1)) (et_is (et_test (ev_op (ev_var rfl) ev_c (rv_eq rfl))) (dec_int _ _)) (fun hb H6 e6 => ?_) (fun hb H6 e6 => ?_)
      · have sb := sum_all ok
        refine ⟨_, rfl, a, L, rfl, SqT.of (e6 _ _ ha), ?_⟩
        refine draw_call (c := c) (cs := cs) (ev_var rfl) ev_c (D5.ex e6) (by decide) (by decide) fun H7 v v0 v1 k7 D7 => ?_
        exact ⟨_, _, rfl, rfl, k H7 (L.sum + v) (by omega) (by omega) ((K2.trans (Kp.of e6)).trans k7) D7⟩
      · obtain ⟨p', rfl⟩ : ∃ p' : Nat, p = (p' : Int) := ⟨p.toNat, by omega⟩
        obtain ⟨q', hq⟩ : ∃ q' : Nat, (p' : Int) + 1 + q = (q' : Int) := ⟨((p' : Int) + 1 + q).toNat, by omega⟩
        rw [hq]
        have hq' : q' < (placesI L).length := by omega
        have b := placesI_lt ok (p := p') (q := q') (by omega) hq'
        refine s_ret (v := .int ((placesI L).getD q' 0 - (placesI L).getD p' 0 + (if decide (4 < kind) = true then 1 else 0))) (ev_add (ev_sub (ev_ixL (ev_var rfl) (ev_var rfl) (SqL.of (e6 _ _ hl)) (int_at hq')) (ev_ixL (ev_var rfl) (ev_var rfl) (SqL.of (e6 _ _ hl)) (int_at (by omega)))) (ev_int1b (ev_op (ev_var rfl) ev_c rv_gt))) fun H7 e7 => ?_
        refine k H7 _ ?_ ?_ ((K2.trans (Kp.of e6)).trans (Kp.of e7)) ((D5.ex e6).ex e7)
        · split <;> omega
        · split <;> omega
end
end HS

set_option Elab.async false
set_option linter.all false
set_option maxRecDepth 100000
set_option maxHeartbeats 4000000
namespace HS
open PySem PySem.Spec PyProof.Rows L2 Evl

/-! ### spans -/
theorem lowF_le (s : List Nat) (d : Nat) : ∀ l, lowF s d l ≤ l
  | 0 => Nat.le_refl _
  | l + 1 => by
    unfold lowF
    split
    · exact Nat.le_succ_of_le (lowF_le s d l)
    · exact Nat.le_refl _
theorem spans_len (s : List Nat) : (spans s).length = s.length := by
  unfold spans
  rw [List.length_map, List.length_range]
def spansN (s : List Nat) (i : Nat) : List (Nat × Nat) := (List.range i).map fun i => (lowF s (s.getD i 0) i, highF s (s.getD i 0) s.length (i + 1))
theorem spansN_succ (s : List Nat) (i : Nat) : spansN s (i + 1) = spansN s i ++ [(lowF s (s.getD i 0) i, highF s (s.getD i 0) s.length (i + 1))] := by
  unfold spansN
  rw [List.range_succ, List.map_append]
  rfl
def lowT (s : List Nat) (d : Nat) : Nat → Bool
  | 0 => false
  | l + 1 => decide (d < s.getD l 0)
theorem lowF_no {s : List Nat} {d : Nat} : ∀ {l}, lowT s d l = false → lowF s d l = l
  | 0, _ => rfl
  | l + 1, h => by
    unfold lowF
    rw [if_neg (of_decide_eq_false h)]
theorem highF_no {s : List Nat} {d h : Nat} : ∀ {f}, decide (h < s.length ∧ d < s.getD h 0) = false → highF s d f h = h
  | 0, _ => rfl
  | f + 1, q => by
    unfold highF
    rw [if_neg (of_decide_eq_false q)]
def sp_spans : Sp := fun vs H Q _ => ∃ (a : Addr) (s : List Nat), vs = [.ref a] ∧ H a = some (.tup (iV s)) ∧ s.length ≤ 39 ∧ ∀ (l : Addr) (ts : List Addr) (H' : Hp), H l = none → Ex H H' → H' l = some (.lst (ts.map V.ref)) → PrA H' ts (spans s) → Q (.ref l) H'
theorem dec_gt (x y : Nat) : decide ((x : Int) < (y : Int)) = decide (x < y) := dec_lt x y
section
variable {P : Program} {w : World} {K : PySem.W.Frag} {mg : Str → Option Value} {base : Heap} {CJ CF : Addr} {t1 t2 t3 : Tok}
abbrev N_law_spans : List Str := ["_law_shape", "_law_found", "_law_seam", "_law_low", "_law_high"]
theorem sc_law_spans : FnScope N_law_spans ["_law_shape"] (defScope s_law_spans) := ⟨rfl, rfl, rfl, by decide +kernel, rfl, by decide +kernel, by decide +kernel⟩
theorem cal_law_spans (T : Txt K mg CJ CF t1 t2 t3) (D : Df K mg "_law_spans" s_law_spans) : Cal P w K mg base "_law_spans" 1 ["_law_shape"] sp_spans := by
  refine D.cal sc_law_spans (fun _ _ _ _ _ _ us hl => match us, hl with | [_], _ => rfl) (fun vs H Q E h => ?_) (fun f cdv A outer s H vs Q E hr h => ?_)
  · obtain ⟨a, s, rfl, _⟩ := h
    rfl
  · obtain ⟨a, s, rfl, ha, hs, k⟩ := h
    refine ⟨_, (pss_cons (ps_set (i := 1) sc_law_spans.nd rfl (Or.inl rfl) (pe_lst pa_nil))
      (pss_cons (ps_for PassesOwn.never rfl (pi_range1 (by rfl) T.nrange (pa_cons (pe_callB call_len_seq (by rfl) T.nlen PySem.boot_len (pa_cons (pv 0) pa_nil)) pa_nil)) (pg_name (i := 2) sc_law_spans.nd rfl (Or.inl rfl)) (pss_cons (ps_set (i := 3) sc_law_spans.nd rfl (Or.inl rfl) (pv 2))
      (pss_cons (ps_while PassesOwn.never (PW.pt (pw_and (pt_cmpR op_gt (pv 3) pe_int (nomark _)) (pw_and1 (pt_cmpR op_gt (pe_ix ix_tup (pv 0) (pe_op op_sub (pv 3) pe_int) (fun _ _ => rfl)) (pe_ix ix_tup (pv 0) (pv 2) (fun _ _ => rfl)) (nomark _))))) (pss_one (ps_set (i := 3) sc_law_spans.nd rfl (Or.inl rfl) (pe_op op_sub (pv 3) pe_int))))
      (pss_cons (ps_set (i := 4) sc_law_spans.nd rfl (Or.inl rfl) (pe_op op_add (pv 2) pe_int))
      (pss_cons (ps_while PassesOwn.never (PW.pt (pw_and (pt_cmpR op_lt (pv 4) (pe_callB call_len_seq (by rfl) T.nlen PySem.boot_len (pa_cons (pv 0) pa_nil)) (nomark _)) (pw_and1 (pt_cmpR op_gt (pe_ix ix_tup (pv 0) (pv 4) (fun _ _ => rfl)) (pe_ix ix_tup (pv 0) (pv 2) (fun _ _ => rfl)) (nomark _))))) (pss_one (ps_set (i := 4) sc_law_spans.nd rfl (Or.inl rfl) (pe_op op_add (pv 4) pe_int))))
      (pss_one (ps_expr (pe_bm PySem.F.plainAttrs_list PySem.F.slot_list_append PySem.F.type_list_append mt_append (pv 1) (pa_cons (pe_tup (pa_cons (pv 3) (pa_cons (pv 4) pa_nil))) pa_nil)))))))))
      (pss_one (ps_ret (pv 1))))), ?_⟩
    refine q_asgL (el_lst ea_nil (by decide)) fun l H1 nl e1 hl => ?_
    have eN : ∀ {σ : L2.St} {Hx : Hp}, Hx a = some (.tup (iV s)) → σ[0]? = some (some (.ref a)) → Ev (tCB (rLenS K) (tCons (tVar 0) tNil)) σ Hx (.int (s.length : Int)) := fun h1 h2 => ev_is (ev_lenT (ev_var h2) (SqT.of h1)) (by rw [iV_len])
    refine q_forR1 (n := (s.length : Int)) (ea_cons (eN (e1 _ _ ha) rfl) ea_nil) (by omega)
      (fun i σ' H' => (∃ x2 x3 x4 : Option V, σ' = [some (.ref a), some (.ref l), x2, x3, x4]) ∧ Ex H H' ∧ ∃ ts : List Addr, H' l = some (.lst (ts.map V.ref)) ∧ PrA H' ts (spansN s i))
      (fun H2 e2 => ⟨⟨_, _, _, rfl⟩, e1.trans e2, [], e2 _ _ hl, .nil⟩) ?_ ?_
    · rintro i σ' H' hi ⟨⟨x2, x3, x4, rfl⟩, ex, ts, hts, hp⟩
      have hi' : i < s.length := by omega
      simp only [List.set_cons_zero, List.set_cons_succ]
      have ha' := ex _ _ ha
      refine q_asg (ev_var rfl) fun H2 e2 => ?_
      simp only [List.set_cons_zero, List.set_cons_succ]
      -- the low end
      refine q_while (fun m σ' H3 => ∃ lo : Nat, σ' = [some (.ref a), some (.ref l), some (.int (i : Int)), some (.int (lo : Int)), x4] ∧ Ex H2 H3 ∧ lowF s (s.getD i 0) lo = lowF s (s.getD i 0) i ∧ lo ≤ i ∧ m = lo) i ⟨i, rfl, Ex.refl H2, rfl, Nat.le_refl _, rfl⟩ ?_
      rintro m σ' H3 ⟨lo, rfl, e3, hlo, hle, rfl⟩
      have ha3 := e3 _ _ (e2 _ _ ha')
      refine ⟨lowT s (s.getD i 0) m, ?_, fun hb H4 e4 => ?_, fun hb H4 e4 => ?_⟩
      · cases m with
        | zero => exact et_is (et_and (b := false) (et_test (ev_op (ev_var rfl) ev_c rv_gt)) fun z => absurd (of_decide_eq_true z) (by omega)) (Bool.and_false _)
        | succ lo =>
          refine et_is (et_and (et_test (ev_op (ev_var rfl) ev_c rv_gt)) fun _ => et_test (ev_op (ev_ixT (ev_var rfl) (ev_is (ev_sub (ev_var rfl) ev_c) (congrArg V.int (show ((lo + 1 : Nat) : Int) - 1 = (lo : Int) by omega))) (SqT.of ha3) (iV_at (by omega))) (ev_ixT (ev_var rfl) (ev_var rfl) (SqT.of ha3) (iV_at hi')) rv_gt)) ?_
          rw [decide_eq_true (by omega), dec_lt]
          rfl
      · cases m with
        | zero => cases hb
        | succ lo =>
          refine ⟨fun σ2 H5 => ∃ m', m' < lo + 1 ∧ ∃ lo : Nat, σ2 = [some (.ref a), some (.ref l), some (.int (i : Int)), some (.int (lo : Int)), x4] ∧ Ex H2 H5 ∧ lowF s (s.getD i 0) lo = lowF s (s.getD i 0) i ∧ lo ≤ i ∧ m' = lo, fun _ _ z => z, ?_⟩
          refine s_asg (ev_is (ev_sub (ev_var rfl) ev_c) (congrArg V.int (show ((lo + 1 : Nat) : Int) - 1 = (lo : Int) by omega))) fun H5 e5 => ?_
          refine ⟨lo, Nat.lt_succ_self _, lo, rfl, (e3.trans e4).trans e5, ?_, by omega, rfl⟩
          rw [← hlo]
          show _ = if s.getD i 0 < s.getD lo 0 then lowF s (s.getD i 0) lo else lo + 1
          rw [if_pos (of_decide_eq_true hb)]
      · rw [lowF_no hb] at hlo
        -- the high end
        refine q_asg (ev_is (ev_add (ev_var rfl) ev_c) (show _ = V.int ((i + 1 : Nat) : Int) from rfl)) fun H5 e5 => ?_
        simp only [List.set_cons_zero, List.set_cons_succ]
        have e25 := ((e3.trans e4).trans e5)
        refine q_while (fun f σ' H6 => ∃ h : Nat, σ' = [some (.ref a), some (.ref l), some (.int (i : Int)), some (.int (m : Int)), some (.int (h : Int))] ∧ Ex H5 H6 ∧ highF s (s.getD i 0) f h = highF s (s.getD i 0) s.length (i + 1) ∧ h ≤ s.length ∧ s.length ≤ f + h) s.length ⟨i + 1, rfl, Ex.refl H5, rfl, by omega, by omega⟩ ?_
        rintro f σ' H6 ⟨h, rfl, e6, hh, hle2, hf⟩
        have ha6 := e6 _ _ (e25 _ _ (e2 _ _ ha'))
        refine ⟨decide (h < s.length ∧ s.getD i 0 < s.getD h 0), ?_, fun hb2 H7 e7 => ?_, fun hb2 H7 e7 => ?_⟩
        · by_cases hl2 : h < s.length
          · refine et_is (et_and (et_test (ev_op (ev_var rfl) (eN ha6 rfl) rv_lt)) fun _ => et_test (ev_op (ev_ixT (ev_var rfl) (ev_var rfl) (SqT.of ha6) (iV_at hl2)) (ev_ixT (ev_var rfl) (ev_var rfl) (SqT.of ha6) (iV_at hi')) rv_gt)) ?_
            rw [decide_eq_true (by omega), dec_lt, Bool.true_and]
            by_cases q : s.getD i 0 < s.getD h 0
            · rw [decide_eq_true q, decide_eq_true ⟨hl2, q⟩]
            · rw [decide_eq_false q, decide_eq_false fun z => q z.2]
          · refine et_is (et_and (b := false) (et_test (ev_op (ev_var rfl) (eN ha6 rfl) rv_lt)) fun z => absurd (of_decide_eq_true z) (by omega)) ?_
            rw [Bool.and_false, decide_eq_false fun z => hl2 z.1]
        · have hb2 := of_decide_eq_true hb2
          cases f with
          | zero => omega
          | succ f =>
            refine ⟨fun σ2 H8 => ∃ m', m' < f + 1 ∧ ∃ h : Nat, σ2 = [some (.ref a), some (.ref l), some (.int (i : Int)), some (.int (m : Int)), some (.int (h : Int))] ∧ Ex H5 H8 ∧ highF s (s.getD i 0) m' h = highF s (s.getD i 0) s.length (i + 1) ∧ h ≤ s.length ∧ s.length ≤ m' + h, fun _ _ z => z, ?_⟩
            refine s_asg (ev_is (ev_add (ev_var rfl) ev_c) (show _ = V.int ((h + 1 : Nat) : Int) from rfl)) fun H8 e8 => ?_
            refine ⟨f, Nat.lt_succ_self _, h + 1, rfl, (e6.trans e7).trans e8, ?_, by omega, by omega⟩
            rw [← hh]
            show _ = if h < s.length ∧ s.getD i 0 < s.getD h 0 then highF s (s.getD i 0) f (h + 1) else h
            rw [if_pos hb2]
        · rw [highF_no hb2] at hh
          have ex7 := ((e2.trans e25).trans e6).trans e7
          refine s_appU (xs := ts.map V.ref) (ys := [.int (m : Int), .int (h : Int)]) (ex7 _ _ hts) (ev_var rfl) (eu_tup (ea_cons (ev_var rfl) (ea_cons (ev_var rfl) ea_nil)) (by show 2 ≤ 100000; decide)) ?_ fun t H8 nt e8 ht => ?_
          · have := Paired.length hp
            unfold spansN at this
            rw [List.length_map, List.length_range] at this
            rw [List.length_map]
            omega
          · have nl' : H l = Option.none := nl
            have hl8 := e8 _ _ (ex7 _ _ hts)
            have kt := tup_upd (u := .lst (ts.map V.ref ++ [V.ref t])) hl8 (fun _ z => nomatch z)
            refine ⟨⟨_, _, _, rfl⟩, Ex.mut ((ex.trans ex7).trans e8) nl', ts ++ [t], ?_, ?_⟩
            · rw [upd_same, List.map_append]
              rfl
            · rw [spansN_succ, ← hlo, ← hh]
              exact Paired.snocP (PrA.keep (PrA.keep hp (tup_ex (ex7.trans e8))) kt) (kt _ _ ht)
    · rintro σ' H' ⟨⟨x2, x3, x4, rfl⟩, ex, ts, hts, hp⟩
      have en : (s.length : Int).toNat = s.length := by omega
      rw [en] at hp
      exact s_ret (ev_var rfl) fun H3 e3 => k l ts H3 nl (ex.trans e3) (e3 _ _ hts) (PrA.keep hp (tup_ex e3))
end
end HS

set_option Elab.async false
set_option linter.all false
set_option maxRecDepth 100000
set_option maxHeartbeats 4000000
namespace HS
open PySem PySem.Spec PyProof.Rows L2 Evl

/-! ### standings -/
def stS : Nat → Str
  | 0 => "over"
  | 1 => "under"
  | _ => "neither"
theorem Paired.getP {α β : Type} {F : α → β → Prop} : ∀ {l : List α} {m : List β} {i : Nat} {b : β}, Paired F l m → m[i]? = some b → ∃ a, l[i]? = some a ∧ F a b
  | _, _, _, _, .nil, e => by simp at e
  | _, _, 0, _, .cons r _, e => by
    have e := Option.some.inj e
    subst e
    exact ⟨_, rfl, r⟩
  | _, _, i + 1, b, .cons _ t, e => by
    obtain ⟨a, h1, h2⟩ := Paired.getP (i := i) (b := b) t e
    exact ⟨a, h1, h2⟩
def sp_stand : Sp := fun vs H Q _ => ∃ (l : Addr) (ts : List Addr) (sp : List (Nat × Nat)) (p q : Nat), vs = [.ref l, .int (p : Int), .int (q : Int)] ∧ H l = some (.lst (ts.map V.ref)) ∧ PrA H ts sp ∧ p < sp.length ∧ q < sp.length ∧ RetV (.str (stS (stand sp p q))) H Q
theorem sv_stand {H : Hp} {l : Addr} {ts : List Addr} {sp : List (Nat × Nat)} {p q : Nat} (hl : H l = some (.lst (ts.map V.ref))) (hp : PrA H ts sp) (h1 : p < sp.length) (h2 : q < sp.length) : SpV sp_stand [.ref l, .int (p : Int), .int (q : Int)] H (.str (stS (stand sp p q))) :=
  fun _ e _ k _ => ⟨l, ts, sp, p, q, rfl, e _ _ hl, PrA.keep hp (tup_ex e), h1, h2, k⟩
theorem dec_le (x y : Nat) : decide ((x : Int) ≤ (y : Int)) = decide (x ≤ y) := by
  by_cases h : x ≤ y
  · rw [decide_eq_true h, decide_eq_true (by omega)]
  · rw [decide_eq_false h, decide_eq_false (by omega)]
section
variable {P : Program} {w : World} {K : PySem.W.Frag} {mg : Str → Option Value} {base : Heap} {CJ CF : Addr} {t1 t2 t3 : Tok}
abbrev N_law_stand : List Str := ["_law_spans_here", "_law_one", "_law_other"]
theorem sc_law_stand : FnScope N_law_stand ["_law_spans_here", "_law_one", "_law_other"] (defScope s_law_stand) := ⟨rfl, rfl, rfl, by decide +kernel, rfl, by decide +kernel, by decide +kernel⟩
theorem cal_law_stand (D : Df K mg "_law_stand" s_law_stand) : Cal P w K mg base "_law_stand" 1 ["_law_spans_here", "_law_one", "_law_other"] sp_stand := by
  refine D.cal sc_law_stand (fun _ _ _ _ _ _ us hl => match us, hl with | [_, _, _], _ => rfl) (fun vs H Q E h => ?_) (fun f cdv A outer s H vs Q E hr h => ?_)
  · obtain ⟨l, ts, sp, p, q, rfl, _⟩ := h
    rfl
  · obtain ⟨l, ts, sp, p, q, rfl, hl, hp, h1, h2, k⟩ := h
    refine ⟨_, (pss_cons (ps_if (pt_chain op_le op_lt (pe_ix ix_tup (pe_ix ix_list (pv 0) (pv 1) (fun _ _ => rfl)) pe_int (fun _ _ => rfl)) (pv 2) (pe_ix ix_tup (pe_ix ix_list (pv 0) (pv 1) (fun _ _ => rfl)) pe_int (fun _ _ => rfl))) (pss_one (ps_ret pe_str)) pss_nil)
      (pss_cons (ps_if (pt_chain op_le op_lt (pe_ix ix_tup (pe_ix ix_list (pv 0) (pv 2) (fun _ _ => rfl)) pe_int (fun _ _ => rfl)) (pv 1) (pe_ix ix_tup (pe_ix ix_list (pv 0) (pv 2) (fun _ _ => rfl)) pe_int (fun _ _ => rfl))) (pss_one (ps_ret pe_str)) pss_nil)
      (pss_one (ps_ret pe_str)))), ?_⟩
    have gt : ∀ (Hx : Hp), Ex H Hx → ∀ (i x : Nat), x < sp.length → ∀ j, [some (V.ref l), some (V.int (p : Int)), some (V.int (q : Int))][j]? = some (some (V.int (x : Int))) → i = 0 ∨ i = 1 →
        Ev (tOp (rIxT K) (tOp (rIxL K) (tVar 0) (tVar j)) (tC (.int (i : Int)))) [some (V.ref l), some (V.int (p : Int)), some (V.int (q : Int))] Hx (.int ((if i = 0 then (sp.getD x (0, 0)).1 else (sp.getD x (0, 0)).2 : Nat) : Int)) := fun Hx ex i x hx j hj hi => by
      have e : sp[x]? = some (sp.getD x (0, 0)) := by
        rw [List.getD_eq_getElem?_getD, List.getElem?_eq_getElem hx]
        rfl
      obtain ⟨t, ht, hx2⟩ := Paired.getP hp e
      have g : atI (ts.map V.ref) (x : Int) = some (V.ref t) := atI_nat (by rw [List.getElem?_map, ht]; rfl)
      refine ev_ixT (ev_ixL (ev_var rfl) (ev_var hj) (SqL.of (ex _ _ hl)) g) ev_c (SqT.of (ex _ _ hx2)) ?_
      rcases hi with rfl | rfl <;> rfl
    refine q_when (b := decide ((sp.getD p (0, 0)).1 ≤ q) && decide (q < (sp.getD p (0, 0)).2)) ?_ (fun hb H1 e1 => ?_) (fun hb H1 e1 => ?_)
    · refine et_is (et_test (ev_chain (gt H (Ex.refl H) 0 p h1 1 rfl (.inl rfl)) (ev_var rfl) (gt H (Ex.refl H) 1 p h1 1 rfl (.inr rfl)) rv_le fun _ => rv_lt)) ?_
      rw [if_pos rfl, if_neg (by decide), dec_le, dec_lt]
    · have z : stand sp p q = 0 := by
        unfold stand
        rw [if_pos ⟨of_decide_eq_true (Bool.and_eq_true_iff.mp hb).1, of_decide_eq_true (Bool.and_eq_true_iff.mp hb).2⟩]
      rw [z] at k
      exact s_ret ev_c fun H2 e2 => k H2 (e1.trans e2)
    · have n0 : ¬ ((sp.getD p (0, 0)).1 ≤ q ∧ q < (sp.getD p (0, 0)).2) := fun z => by
        rw [decide_eq_true z.1, decide_eq_true z.2] at hb
        cases hb
      refine q_when (b := decide ((sp.getD q (0, 0)).1 ≤ p) && decide (p < (sp.getD q (0, 0)).2)) ?_ (fun hb2 H2 e2 => ?_) (fun hb2 H2 e2 => ?_)
      · refine et_is (et_test (ev_chain (gt H1 e1 0 q h2 2 rfl (.inl rfl)) (ev_var rfl) (gt H1 e1 1 q h2 2 rfl (.inr rfl)) rv_le fun _ => rv_lt)) ?_
        rw [if_pos rfl, if_neg (by decide), dec_le, dec_lt]
      · have z : stand sp p q = 1 := by
          unfold stand
          rw [if_neg n0, if_pos ⟨of_decide_eq_true (Bool.and_eq_true_iff.mp hb2).1, of_decide_eq_true (Bool.and_eq_true_iff.mp hb2).2⟩]
        rw [z] at k
        exact s_ret ev_c fun H3 e3 => k H3 ((e1.trans e2).trans e3)
      · have n1 : ¬ ((sp.getD q (0, 0)).1 ≤ p ∧ p < (sp.getD q (0, 0)).2) := fun z => by
          rw [decide_eq_true z.1, decide_eq_true z.2] at hb2
          cases hb2
        have z : stand sp p q = 2 := by
          unfold stand
          rw [if_neg n0, if_neg n1]
        rw [z] at k
        exact s_ret ev_c fun H3 e3 => k H3 ((e1.trans e2).trans e3)
end

/-! ### the near standings -/
def pre (k p d : Nat) : List (Nat × Nat) := ((List.range p).flatMap fun p => (List.range' (p + 1) (k - (p + 1))).map fun q => (p, q)) ++ (List.range' (p + 1) d).map fun q => (p, q)
theorem pre_zero (k : Nat) : pre k 0 0 = [] := rfl
theorem pre_all (k : Nat) : pre k k 0 = pairs k := by
  unfold pre pairs
  simp
theorem pre_snoc (k p d : Nat) : pre k p (d + 1) = pre k p d ++ [(p, p + 1 + d)] := by
  unfold pre
  rw [List.append_assoc, List.range'_concat, List.map_append]
  congr 2
  simp
theorem pre_next (k p : Nat) : pre k (p + 1) 0 = pre k p (k - (p + 1)) := by
  unfold pre
  rw [List.range_succ, List.flatMap_append]
  simp
theorem pre_mem {k p d : Nat} {x : Nat × Nat} (h : x ∈ pre k p d) : x.1 < p ∨ (x.1 = p ∧ x.2 < p + 1 + d) := by
  unfold pre at h
  rcases List.mem_append.mp h with h | h
  · obtain ⟨p', hp, hx⟩ := List.mem_flatMap.mp h
    obtain ⟨q, hq, rfl⟩ := List.mem_map.mp hx
    exact .inl (List.mem_range.mp hp)
  · obtain ⟨q, hq, rfl⟩ := List.mem_map.mp h
    have := (List.mem_range'_1.mp hq).2
    exact .inr ⟨rfl, this⟩
def kvOf (sp : List (Nat × Nat)) (r : List Nat) (l : List (Nat × Nat)) : List (List Key × V) := (l.filter fun pq => nrB r pq.1 pq.2).map fun pq => (kk pq.1 pq.2, V.str (stS (stand sp pq.1 pq.2)))
theorem valV_none {κ : Type} [DecidableEq κ] : ∀ {kvs : List (κ × V)} {k : κ}, (∀ kv ∈ kvs, kv.1 ≠ k) → valV kvs k = none
  | [], _, _ => rfl
  | p :: r, k, h => by
    rw [valV_neg (h p List.mem_cons_self)]
    exact valV_none fun kv hk => h kv (List.mem_cons_of_mem _ hk)
theorem kvOf_new {sp : List (Nat × Nat)} {r : List Nat} {k p d : Nat} : valV (kvOf sp r (pre k p d)) (kk p (p + 1 + d)) = none := by
  refine valV_none fun kv hk => ?_
  unfold kvOf at hk
  obtain ⟨x, hx, rfl⟩ := List.mem_map.mp hk
  have := pre_mem (List.mem_filter.mp hx).1
  intro e
  obtain ⟨e1, e2⟩ := kk_inj e
  omega
theorem kvOf_yes {sp : List (Nat × Nat)} {r : List Nat} {k p d : Nat} (h : nrB r p (p + 1 + d) = true) : kvOf sp r (pre k p (d + 1)) = kvOf sp r (pre k p d) ++ [(kk p (p + 1 + d), V.str (stS (stand sp p (p + 1 + d))))] := by
  unfold kvOf
  rw [pre_snoc, List.filter_append, List.map_append, List.filter_cons, if_pos h]
  rfl
theorem kvOf_no {sp : List (Nat × Nat)} {r : List Nat} {k p d : Nat} (h : ¬ nrB r p (p + 1 + d) = true) : kvOf sp r (pre k p (d + 1)) = kvOf sp r (pre k p d) := by
  unfold kvOf
  rw [pre_snoc, List.filter_append, List.map_append, List.filter_cons, if_neg h]
  exact List.append_nil _
theorem kvOf_len {sp : List (Nat × Nat)} {r : List Nat} (l : List (Nat × Nat)) : (kvOf sp r l).length ≤ l.length := by
  unfold kvOf
  rw [List.length_map]
  exact List.length_filter_le _ _
theorem pre_len {k : Nat} : ∀ p d, (pre k p d).length ≤ k * p + d
  | 0, 0 => by simp [pre]
  | p, d + 1 => by
    rw [pre_snoc, List.length_append]
    have := pre_len (k := k) p d
    simp
    omega
  | p + 1, 0 => by
    rw [pre_next]
    have := pre_len (k := k) p (k - (p + 1))
    rw [Nat.mul_succ]
    omega
def nearKV (r s : List Nat) : List (List Key × V) := kvOf (spans s) r (pairs s.length)
def sp_near : Sp := fun vs H Q _ => ∃ (a b : Addr) (m : Int) (L : List Int) (s r : List Nat), vs = [.ref a, .ref b, .int m] ∧ H a = some (.tup (L.map V.int)) ∧ OkL L ∧ H b = some (.tup (iV s)) ∧ s.length ≤ 39 ∧ s.length + 1 = L.length ∧ NearR (placesI L) m r ∧
  ∀ (d : Addr) (H' : Hp), H d = none → Ex H H' → H' d = some (.dT (nearKV r s)) → Q (.ref d) H'
section
variable {P : Program} {w : World} {K : PySem.W.Frag} {mg : Str → Option Value} {base : Heap} {CJ CF : Addr} {t1 t2 t3 : Tok}
abbrev N_law_near : List Str := ["_law_lengths_here", "_law_shape", "_law_m_here", "_law_at", "_law_spans_here", "_law_found", "_law_p", "_law_q"]
theorem sc_law_near : FnScope N_law_near ["_law_lengths_here", "_law_shape", "_law_m_here"] (defScope s_law_near) := ⟨rfl, rfl, rfl, by decide +kernel, rfl, by decide +kernel, by decide +kernel⟩
theorem cal_law_near (T : Txt K mg CJ CF t1 t2 t3) (D : Df K mg "_law_near" s_law_near) (C1 : Cal P w K mg base "_law_places" 1 ["_law_lengths_here"] sp_places) (C2 : Cal P w K mg base "_law_spans" 1 ["_law_shape"] sp_spans)
    (C3 : Cal P w K mg base "_law_stand" 1 ["_law_spans_here", "_law_one", "_law_other"] sp_stand) : Cal P w K mg base "_law_near" 2 ["_law_lengths_here", "_law_shape", "_law_m_here"] sp_near := by
  obtain ⟨_, _, Glaw_places, mlaw_places, klaw_places, blaw_places⟩ := C1.ex
  obtain ⟨_, _, Glaw_spans, mlaw_spans, klaw_spans, blaw_spans⟩ := C2.ex
  obtain ⟨_, _, Glaw_stand, mlaw_stand, klaw_stand, blaw_stand⟩ := C3.ex
  refine D.cal sc_law_near (fun _ _ _ _ _ _ us hl => match us, hl with | [_, _, _], _ => rfl) (fun vs H Q E h => ?_) (fun f cdv A outer s H vs Q E hr h => ?_)
  · obtain ⟨a, b, m, L, s, r, rfl, _⟩ := h
    rfl
  · obtain ⟨a, b, m, L, s, r, rfl, ha, ok, hb, hs, hsl, hnr, k⟩ := h
    have hu := hu_of hr
    refine ⟨_, (pss_cons (ps_set (i := 3) sc_law_near.nd rfl (Or.inl rfl) (pe_call Glaw_places (hr.mono (by decide)) (by rfl) mlaw_places klaw_places blaw_places .nil pass0 (pa_cons (pv 0) pa_nil)))
      (pss_cons (ps_set (i := 4) sc_law_near.nd rfl (Or.inl rfl) (pe_call Glaw_spans (hr.mono (by decide)) (by rfl) mlaw_spans klaw_spans blaw_spans .nil pass0 (pa_cons (pv 1) pa_nil)))
      (pss_cons (ps_set (i := 5) sc_law_near.nd rfl (Or.inl rfl) pe_dnewT)
      (pss_cons (ps_for PassesOwn.never rfl (pi_range1 (by rfl) T.nrange (pa_cons (pe_callB call_len_seq (by rfl) T.nlen PySem.boot_len (pa_cons (pv 1) pa_nil)) pa_nil)) (pg_name (i := 6) sc_law_near.nd rfl (Or.inl rfl)) (pss_one (ps_for PassesOwn.never rfl (pi_range2 (by rfl) T.nrange (pa_cons (pe_op op_add (pv 6) pe_int) (pa_cons (pe_callB call_len_seq (by rfl) T.nlen PySem.boot_len (pa_cons (pv 1) pa_nil)) pa_nil))) (pg_name (i := 7) sc_law_near.nd rfl (Or.inl rfl)) (pss_one (ps_if (pt_cmpR op_lt (pe_op op_sub (pe_ix ix_list (pv 3) (pv 7) (fun _ _ => rfl)) (pe_ix ix_list (pv 3) (pv 6) (fun _ _ => rfl))) (pv 2) (nomark _)) (pss_one (ps_dput hu (pv 5) (pe_tup (pa_cons (pv 6) (pa_cons (pv 7) pa_nil))) (pe_call Glaw_stand (hr.mono (by decide)) (by rfl) mlaw_stand klaw_stand blaw_stand .nil pass0 (pa_cons (pv 4) (pa_cons (pv 6) (pa_cons (pv 7) pa_nil)))) rfl)) pss_nil)))))
      (pss_one (ps_ret (pv 5))))))), ?_⟩
    have hpl := placesI_len L
    refine q_asgL (el_call (ea_cons (ev_var rfl) ea_nil) (sl_places ha ok)) fun la H1 nla e1 hla => ?_
    refine ⟨_, rfl, b, s, rfl, e1 _ _ hb, hs, fun lsp ts H2 nl2 e2 hlsp hts => ?_⟩
    -- found = {}
    intro d nd
    have e3 : Ex H2 (upd H2 d (.dT [])) := Ex.new nd
    have hd3 : upd H2 d (.dT []) d = some (.dT []) := upd_same
    generalize upd H2 d (.dT []) = H3 at e3 hd3
    have nd0 : H d = Option.none := fresh_back (e1.trans e2) nd
    have eN : ∀ {σ : L2.St} {Hx : Hp}, Hx b = some (.tup (iV s)) → σ[1]? = some (some (.ref b)) → Ev (tCB (rLenS K) (tCons (tVar 1) tNil)) σ Hx (.int (s.length : Int)) := fun h1 h2 => ev_is (ev_lenT (ev_var h2) (SqT.of h1)) (by rw [iV_len])
    have bs := ((e1.trans e2).trans e3)
    have spl := spans_len s
    show tSeq _ _ _ [some (.ref a), some (.ref b), some (.int m), some (.ref la), some (.ref lsp), some (.ref d), none, none] H3
    refine q_forR1 (n := (s.length : Int)) (ea_cons (eN (bs _ _ hb) rfl) ea_nil) (by omega)
      (fun p σ' H' => (∃ x6 x7 : Option V, σ' = [some (.ref a), some (.ref b), some (.int m), some (.ref la), some (.ref lsp), some (.ref d), x6, x7]) ∧ Ex H2 H' ∧ H' d = some (.dT (kvOf (spans s) r (pre s.length p 0))))
      (fun H4 e4 => ⟨⟨_, _, rfl⟩, e3.trans e4, e4 _ _ hd3⟩) ?_ ?_
    · rintro p σ' H' hp ⟨⟨x6, x7, rfl⟩, ex, hd⟩
      have hp' : p < s.length := by omega
      simp only [List.set_cons_zero, List.set_cons_succ]
      have bx := ((e1.trans e2).trans ex)
      refine s_forR2 (lo := (p : Int) + 1) (n := (s.length : Int)) (ea_cons (ev_add (ev_var rfl) ev_c) (ea_cons (eN (bx _ _ hb) rfl) ea_nil)) (by omega)
        (fun q σ' H' => (∃ x7 : Option V, σ' = [some (.ref a), some (.ref b), some (.int m), some (.ref la), some (.ref lsp), some (.ref d), some (.int (p : Int)), x7]) ∧ Ex H2 H' ∧ H' d = some (.dT (kvOf (spans s) r (pre s.length p q))))
        (fun H4 e4 => ⟨⟨_, rfl⟩, ex.trans e4, e4 _ _ hd⟩) ?_ ?_
      · rintro q σ' H' hq ⟨⟨x7, rfl⟩, ex, hd⟩
        simp only [List.set_cons_zero, List.set_cons_succ]
        have hq' : p + 1 + q < s.length := by omega
        have eq : (p : Int) + 1 + (q : Int) = ((p + 1 + q : Nat) : Int) := rfl
        rw [eq]
        have hl := (e2.trans ex) _ _ hla
        have near := hnr p (p + 1 + q) (by omega) (by omega)
        refine s_when (b := nrB r p (p + 1 + q)) ?_ (fun hbn H5 e5 => ?_) (fun hbn H5 e5 => ?_)
        · refine et_is (et_test (ev_op (ev_sub (ev_ixL (ev_var rfl) (ev_var rfl) (SqL.of hl) (int_at (j := p + 1 + q) (by omega))) (ev_ixL (ev_var rfl) (ev_var rfl) (SqL.of hl) (int_at (j := p) (by omega)))) (ev_var rfl) rv_lt)) ?_
          cases hn : nrB r p (p + 1 + q) with
          | true => exact decide_eq_true (near.mpr hn)
          | false =>
            refine decide_eq_false fun z => ?_
            rw [near.mp z] at hn
            cases hn
        · refine s_dputT (key := kk p (p + 1 + q)) (ev_call (ea_cons (ev_var rfl) (ea_cons (ev_var rfl) (ea_cons (ev_var rfl) ea_nil))) (sv_stand ((ex.trans e5) _ _ hlsp) (PrA.keep hts (tup_ex (ex.trans e5))) (by omega) (by omega))) (ev_var rfl) (eu_tup (ea_cons (ev_var rfl) (ea_cons (ev_var rfl) ea_nil)) (by show 2 ≤ 100000; decide)) (e5 _ _ hd) ?_ fun H6 e6 => ?_
          · have h1 := kvOf_len (sp := spans s) (r := r) (pre s.length p q)
            have h2 := pre_len (k := s.length) p q
            have h3 : s.length * p ≤ 39 * 39 := Nat.mul_le_mul hs (by omega)
            omega
          · refine ⟨⟨_, rfl⟩, Ex.mut ((ex.trans e5).trans e6) nd, ?_⟩
            rw [upd_same, kvOf_yes hbn, putK_new _ kvOf_new]
        · refine ⟨⟨_, rfl⟩, ex.trans e5, ?_⟩
          rw [kvOf_no (by rw [hbn]; decide)]
          exact e5 _ _ hd
      · rintro σ' H' ⟨⟨x7, rfl⟩, ex, hd⟩
        refine ⟨⟨_, _, rfl⟩, ex, ?_⟩
        rw [pre_next]
        have e : ((s.length : Int) - ((p : Int) + 1)).toNat = s.length - (p + 1) := by omega
        rw [e] at hd
        exact hd
    · rintro σ' H' ⟨⟨x6, x7, rfl⟩, ex, hd⟩
      have e : (s.length : Int).toNat = s.length := by omega
      rw [e, pre_all] at hd
      exact s_ret (ev_var rfl) fun H4 e4 => k d H4 nd0 (((e1.trans e2).trans ex).trans e4) (e4 _ _ hd)
end
end HS

set_option Elab.async false
set_option linter.all false
set_option maxRecDepth 100000
set_option maxHeartbeats 4000000
namespace HS
open PySem PySem.Spec PyProof.Rows L2 Evl

/-! ### some tuple, new or not -/
def EvW (te : TE) (σ : L2.St) (H : Hp) (xs : List V) : Prop := ∀ H1, Ex H H1 → ∀ Q : VK, (∀ p H2, Ex H1 H2 → H2 p = some (.tup xs) → Q (.ref p) H2) → te σ H1 Q
section
variable {K : PySem.W.Frag} {σ : L2.St} {H H' : Hp} {ta tb te : TE}
theorem s_asgW {D : Ends} {xs : List V} {i : Nat} (h : EvW te σ H xs) (k : ∀ p H1, Ex H H1 → H1 p = some (.tup xs) → D.nx (σ.set i (some (.ref p))) H1) : tAsg te (gName i) D σ H := h H (Ex.refl H) _ k
theorem q_asgW {D : Ends} {tz : TS} {xs : List V} {i : Nat} (h : EvW te σ H xs) (k : ∀ p H1, Ex H H1 → H1 p = some (.tup xs) → tz D (σ.set i (some (.ref p))) H1) : tSeq (tAsg te (gName i)) tz D σ H := s_asgW (D := { D with nx := tz D }) h k
theorem ew_tupOf {xs : List V} (h : EvL te σ H xs) : EvW (tCB (rTupOf K) (tCons te tNil)) σ H xs := fun H1 e Q q =>
  h H1 e _ fun p H2 np e2 hp => ⟨p, xs, rfl, .inl ⟨SqL.of hp, fun l hl => q l _ (e2.trans (Ex.new hl)) upd_same⟩⟩
theorem ew_of {p : Addr} {xs : List V} (h : Ev te σ H (.ref p)) (hp : H p = some (.tup xs)) : EvW te σ H xs := fun H1 e Q q => h H1 e _ fun H2 e2 => q p H2 e2 ((e.trans e2) _ _ hp)
theorem ew_ofU {xs : List V} (h : EvU te σ H xs) : EvW te σ H xs := fun H1 e Q q => h H1 e _ fun p H2 _ e2 hp => q p H2 e2 hp
theorem ew_cat {xs ys : List V} (ha : EvW ta σ H xs) (hb : EvW tb σ H ys) (hl : xs.length + ys.length ≤ 100000) : EvW (tOp (rCatA K) ta tb) σ H (xs ++ ys) := fun H1 e Q q =>
  ha H1 e _ fun p H2 e2 hp => hb H2 (e.trans e2) _ fun r H3 e3 hr => ⟨p, r, xs, ys, rfl, rfl, SqT.of (e3 _ _ hp), SqT.of hr, sz_of hl,
    (fun z => q r H3 (e2.trans e3) (by rw [hr, z]; rfl)), (fun _ z => q p H3 (e2.trans e3) (by rw [e3 _ _ hp, z, List.append_nil])), fun _ _ t ht => q t _ ((e2.trans e3).trans (Ex.new ht)) upd_same⟩
abbrev TuA (H : Hp) (ts : List Addr) (zs : List (List V)) : Prop := Paired (fun t z => H t = some (.tup z)) ts zs
theorem TuA.keep {H H' : Hp} {ts : List Addr} {zs : List (List V)} (h : TuA H ts zs) (k : ∀ t xs, H t = some (.tup xs) → H' t = some (.tup xs)) : TuA H' ts zs := Paired.mapP h fun t x e => k t _ e
/-- [t for x in xs], t a tuple -/
theorem lc_tuples {a : Addr} {xs : List V} {tl : TE} {j : Nat} {vs : List Nat} (zs : Nat → List V) (h : Ev tl σ H (.ref a)) (hx : SqL K H a xs) (hz : xs.length ≤ 40000) (hw : ∀ x, wipe ((wipe σ vs).set j (some x)) vs = wipe σ vs)
    (he : ∀ (i : Nat) (x : V) H1, Ex H H1 → xs[i]? = some x → EvW te ((wipe σ vs).set j (some x)) H1 (zs i)) {Q : VK}
    (q : ∀ (Dl : Addr) (ts : List Addr) H2, H Dl = none → Ex H H2 → H2 Dl = some (.lst (ts.map V.ref)) → TuA H2 ts ((List.range xs.length).map zs) → Q (.ref Dl) H2) : tLc (iList K tl) (gName j) tYes te vs σ H Q :=
  h H (Ex.refl H) _ fun H1 e1 => ⟨a, rfl, ⟨xs, ex_l e1 hx⟩, fun Dl hD => by
    refine lc_list (xs := xs) (fun i H' => Ex H1 H' ∧ ∃ ts : List Addr, H' Dl = some (.lst (ts.map V.ref)) ∧ TuA H' ts ((List.range i).map zs)) ⟨Ex.new hD, [], upd_same, .nil⟩ (fun i H' _ p => ex_l (e1.trans p.1) hx) ?_ ?_
    · rintro i x H' hi ⟨ex, ts, hd, hp⟩
      refine ⟨hw x, ?_⟩
      refine yes_turn ?_
      refine he i x H' (e1.trans ex) hi H' (Ex.refl H') _ fun t H2 e2 ht => ?_
      have hd2 := e2 _ _ hd
      have kt := tup_upd (u := .lst (ts.map V.ref ++ [V.ref t])) hd2 (fun _ z => nomatch z)
      refine ⟨ts.map V.ref, hd2, ?_, Ex.mut (ex.trans e2) hD, ts ++ [t], ?_, ?_⟩
      · have h1 := Paired.length hp
        rw [List.length_map, List.length_range] at h1
        have h2 := (List.getElem?_eq_some_iff.mp hi).1
        rw [List.length_map]
        exact sz_lt (by omega)
      · rw [upd_same, List.map_append]
        rfl
      · rw [List.range_succ, List.map_append]
        exact Paired.snocP (TuA.keep (TuA.keep hp (tup_ex e2)) kt) (kt _ _ ht)
    · rintro H' ⟨ex, ts, hd, hp⟩
      exact q Dl ts H' (fresh_back e1 hD) (e1.trans ex) hd hp⟩
/-- tuple([d + 1 for d in t]) -/
theorem ew_up {a : Addr} {s : List Nat} {tl : TE} {j : Nat} {vs : List Nat} (h : Ev tl σ H (.ref a)) (hx : H a = some (.tup (iV s))) (hz : s.length ≤ 40000) (hw : ∀ x, wipe ((wipe σ vs).set j (some x)) vs = wipe σ vs)
    (hj : ∀ x, ((wipe σ vs).set j (some x))[j]? = some (some x)) : EvW (tCB (rTupOf K) (tCons (tLc (iTup K tl) (gName j) tYes (tOp (rI0 fun i j => .int (i + j)) (tVar j) (tC (.int 1))) vs) tNil)) σ H (iV (up s)) := by
  have z := el_lcT (K := K) (t := tYes) (te := tOp (rI0 fun i j => .int (i + j)) (tVar j) (tC (.int 1))) (vs := vs) (j := j) (fun _ => true) (fun i => .int ((s.getD i 0 + 1 : Nat) : Int)) h (SqT.of hx) (by rw [iV_len]; exact hz) hw (fun _ _ _ _ _ => et_yes) (fun i x H1 e hi _ => by
    obtain ⟨n, hn, rfl⟩ := iV_get hi
    have e : s.getD i 0 = n := by rw [List.getD_eq_getElem?_getD, hn]; rfl
    rw [e]
    exact ev_is (ev_add (ev_var (hj _)) ev_c) rfl)
  rw [given_all] at z
  have e : (List.range (iV s).length).map (fun i => V.int ((s.getD i 0 + 1 : Nat) : Int)) = iV (up s) := by
    rw [iV_len]
    unfold iV up
    rw [List.map_map]
    apply List.ext_getElem?
    intro i
    rw [List.getElem?_map, List.getElem?_map]
    by_cases hi : i < s.length
    · rw [List.getElem?_range hi, List.getElem?_eq_getElem hi]
      show some (V.int ((s.getD i 0 + 1 : Nat) : Int)) = some (V.int ((s[i] + 1 : Nat) : Int))
      rw [List.getD_eq_getElem?_getD, List.getElem?_eq_getElem hi]
      rfl
    · rw [List.getElem?_eq_none (by rw [List.length_range]; omega), List.getElem?_eq_none (by omega)]
      rfl
  rw [e] at z
  exact ew_tupOf z
end

/-! ### rows of shapes -/
abbrev ShA (H : Hp) (ts : List Addr) (ss : List (List Nat)) : Prop := Paired (fun t s => H t = some (.tup (iV s))) ts ss
theorem ShA.keep {H H' : Hp} {ts : List Addr} {ss : List (List Nat)} (h : ShA H ts ss) (k : ∀ t xs, H t = some (.tup xs) → H' t = some (.tup xs)) : ShA H' ts ss := Paired.mapP h fun t x e => k t _ e
theorem ShA.app {H : Hp} : ∀ {ts us : List Addr} {ss rs : List (List Nat)}, ShA H ts ss → ShA H us rs → ShA H (ts ++ us) (ss ++ rs)
  | _, _, _, _, .nil, h => h
  | _, _, _, _, .cons r t, h => .cons r (ShA.app t h)
def Row (H : Hp) (l : Addr) (ss : List (List Nat)) : Prop := ∃ ts : List Addr, H l = some (.lst (ts.map V.ref)) ∧ ShA H ts ss
theorem Row.ex {H H' : Hp} {l : Addr} {ss : List (List Nat)} (r : Row H l ss) (e : Ex H H') : Row H' l ss := by
  obtain ⟨ts, h, p⟩ := r
  exact ⟨ts, e _ _ h, ShA.keep p (tup_ex e)⟩
abbrev Rows (H : Hp) (ls : List Addr) (ks : List (List (List Nat))) : Prop := Paired (Row H) ls ks
theorem Rows.ex {H H' : Hp} {ls : List Addr} {ks : List (List (List Nat))} (r : Rows H ls ks) (e : Ex H H') : Rows H' ls ks := Paired.mapP r fun _ _ h => h.ex e
theorem Rows.upd {H : Hp} {kn : Addr} {xs ys : List V} (h : H kn = some (.lst xs)) : ∀ {ls : List Addr} {ks : List (List (List Nat))}, kn ∉ ls → Rows H ls ks → Rows (upd H kn (.lst ys)) ls ks
  | _, _, _, .nil => .nil
  | _, _, n, .cons r t => by
    obtain ⟨ts, h1, h2⟩ := r
    refine .cons ⟨ts, ?_, ShA.keep h2 (tup_upd h fun _ z => nomatch z)⟩ (Rows.upd h (fun z => n (List.mem_cons_of_mem _ z)) t)
    rw [upd_ne (fun z => n (by rw [← z]; exact List.mem_cons_self))]
    exact h1
theorem knownAt_len : ∀ j, (knownAt j).length = j + 2
  | 0 => rfl
  | j + 1 => by
    show (knownAt j ++ [rowOf (knownAt j) (j + 2)]).length = _
    rw [List.length_append, knownAt_len j]
    rfl
set_option maxRecDepth 100000 in
theorem known_bd : (List.range 7).all (fun c => (knownAt c).all fun k => Nat.ble k.length 132 && k.all fun s => Nat.ble s.length 6) = true := by decide +kernel
theorem known_len {c : Nat} (hc : c < 7) {k : List (List Nat)} (hk : k ∈ knownAt c) : k.length ≤ 132 ∧ ∀ s ∈ k, s.length ≤ 6 := by
  have h := known_bd
  rw [List.all_eq_true] at h
  have h1 := h c (List.mem_range.mpr hc)
  rw [List.all_eq_true] at h1
  have h2 := h1 k hk
  rw [Bool.and_eq_true, List.all_eq_true] at h2
  exact ⟨Nat.le_of_ble_eq_true h2.1, fun s hs => Nat.le_of_ble_eq_true (h2.2 s hs)⟩
theorem known_later {j d : Nat} : ∀ {i}, i < j + 2 → (knownAt (j + d)).getD i [] = (knownAt j).getD i [] := by
  intro i hi
  induction d with
  | zero => rfl
  | succ d ih =>
    rw [← ih]
    show (knownAt (j + d) ++ [_]).getD i [] = _
    rw [List.getD_eq_getElem?_getD, List.getElem?_append_left (by rw [knownAt_len]; omega), ← List.getD_eq_getElem?_getD]
/-- what one part of a row gives -/
def partOf (known : List (List (List Nat))) (many part : Nat) (ah : List Nat) : List (List Nat) := (known.getD (many - part) []).map fun be => up ah ++ [0] ++ up be
theorem rowOf_eq (known : List (List (List Nat))) (many : Nat) : rowOf known many = (List.range' 1 (many - 1)).flatMap fun part => (known.getD part []).flatMap (partOf known many part) := rfl

theorem flatMap_le {α β : Type} {f : α → List β} {b : Nat} : ∀ {l : List α}, (∀ x ∈ l, (f x).length ≤ b) → (l.flatMap f).length ≤ l.length * b
  | [], _ => by simp
  | x :: r, h => by
    rw [List.flatMap_cons, List.length_append, List.length_cons, Nat.succ_mul]
    have := h x List.mem_cons_self
    have := flatMap_le (f := f) (l := r) fun y hy => h y (List.mem_cons_of_mem _ hy)
    omega
theorem getD_bd {c : Nat} (hc : c < 7) (i : Nat) : ((knownAt c).getD i []).length ≤ 132 ∧ ∀ s ∈ (knownAt c).getD i [], s.length ≤ 6 := by
  rw [List.getD_eq_getElem?_getD]
  cases h : (knownAt c)[i]? with
  | none => exact ⟨Nat.zero_le _, fun s hs => by cases hs⟩
  | some k => exact known_len hc (List.mem_of_getElem? h)
theorem partOf_len {c : Nat} (hc : c < 7) (many part : Nat) (ah : List Nat) : (partOf (knownAt c) many part ah).length ≤ 132 := by
  unfold partOf
  rw [List.length_map]
  exact (getD_bd hc _).1
def flat (c i : Nat) : List (List Nat) := (List.range' 1 i).flatMap fun part => ((knownAt c).getD part []).flatMap (partOf (knownAt c) (c + 2) part)
theorem flat_succ (c i : Nat) : flat c (i + 1) = flat c i ++ ((knownAt c).getD (1 + i) []).flatMap (partOf (knownAt c) (c + 2) (1 + i)) := by
  unfold flat
  rw [List.range'_concat, List.flatMap_append]
  simp
theorem flat_all (c : Nat) : knownAt (c + 1) = knownAt c ++ [flat c (c + 1)] := rfl
theorem flat_len {c : Nat} (hc : c < 7) (i : Nat) : (flat c i).length ≤ i * (132 * 132) := by
  have h := flatMap_le (l := List.range' 1 i) (f := fun part => ((knownAt c).getD part []).flatMap (partOf (knownAt c) (c + 2) part)) (b := 132 * 132) (fun part _ => by
    have h2 := flatMap_le (l := (knownAt c).getD part []) (f := partOf (knownAt c) (c + 2) part) (b := 132) (fun ah _ => partOf_len hc _ _ _)
    have h3 := (getD_bd hc part).1
    omega)
  rw [List.length_range'] at h
  exact h
theorem iV_app (s t : List Nat) : iV s ++ iV t = iV (s ++ t) := by
  unfold iV
  rw [List.map_append]
theorem Paired.mapR {α β γ : Type} {F : α → γ → Prop} {g : β → γ} : ∀ {l : List α} {m : List β}, Paired F l (m.map g) → Paired (fun a b => F a (g b)) l m
  | [], [], .nil => .nil
  | _ :: _, _ :: _, .cons r t => .cons r (Paired.mapR t)
theorem getL {l : List (List Nat)} {q : Nat} (h : q < l.length) : l[q]? = some (l.getD q []) := by
  rw [List.getD_eq_getElem?_getD, List.getElem?_eq_getElem h]
  rfl
theorem range_map_getD {β : Type} {l : List (List Nat)} (g : List Nat → β) : (List.range l.length).map (fun i => g (l.getD i [])) = l.map g := by
  apply List.ext_getElem?
  intro i
  rw [List.getElem?_map, List.getElem?_map]
  by_cases hi : i < l.length
  · rw [List.getElem?_range hi, List.getElem?_eq_getElem hi]
    show some (g (l.getD i [])) = some (g l[i])
    rw [List.getD_eq_getElem?_getD, List.getElem?_eq_getElem hi]
    rfl
  · rw [List.getElem?_eq_none (by rw [List.length_range]; omega), List.getElem?_eq_none (by omega)]
    rfl
theorem Rows.get {H : Hp} {ls : List Addr} {ks : List (List (List Nat))} (r : Rows H ls ks) {i : Nat} (hi : i < ks.length) : ∃ l ts, atI (ls.map V.ref) (i : Int) = some (V.ref l) ∧ l ∈ ls ∧ H l = some (.lst (ts.map V.ref)) ∧ ShA H ts (ks.getD i []) := by
  have e : ks[i]? = some (ks.getD i []) := by
    rw [List.getD_eq_getElem?_getD, List.getElem?_eq_getElem hi]
    rfl
  obtain ⟨l, hl, ts, h1, h2⟩ := Paired.getP r e
  exact ⟨l, ts, atI_nat (by rw [List.getElem?_map, hl]; rfl), List.mem_of_getElem? hl, h1, h2⟩

def sc_behind : Scope := { kind := .function, names := [(Str.ofString ".0", .local), (Str.ofString "_law_behind", .local), (Str.ofString "tuple", .globalImplicit), (Str.ofString "_law_inner", .free)], isGenerator := false, isCoroutine := false }
def sp_all : Sp := fun vs H Q _ => ∃ n : Nat, vs = [.int (n : Int)] ∧ 1 ≤ n ∧ n ≤ 7 ∧ ∀ (l : Addr) (ts : List Addr) (H' : Hp), H l = none → Ex H H' → H' l = some (.lst (ts.map V.ref)) → ShA H' ts (shapes n) → Q (.ref l) H'
section
variable {P : Program} {w : World} {K : PySem.W.Frag} {mg : Str → Option Value} {base : Heap} {CJ CF : Addr} {t1 t2 t3 : Tok}
abbrev N_law_all : List Str := ["_law_words", "_law_known", "_law_many", "_law_found", "_law_part", "_law_ahead", "_law_inner", "_law_behind", "_law_depth"]
theorem sc_law_all : FnScope N_law_all ["_law_words"] (defScope s_law_all) := ⟨rfl, rfl, rfl, by decide +kernel, rfl, by decide +kernel, by decide +kernel⟩
theorem cal_law_all (T : Txt K mg CJ CF t1 t2 t3) (D : Df K mg "_law_all" s_law_all) : Cal P w K mg base "_law_all" 1 ["_law_words"] sp_all := by
  refine D.cal sc_law_all (fun _ _ _ _ _ _ us hl => match us, hl with | [_], _ => rfl) (fun vs H Q E h => ?_) (fun f cdv A outer s H vs Q E hr h => ?_)
  · obtain ⟨n, rfl, _⟩ := h
    rfl
  · obtain ⟨n, rfl, n1, n7, k⟩ := h
    refine ⟨_, (pss_cons (ps_set (i := 1) sc_law_all.nd rfl (Or.inl rfl) (pe_lst (pa_cons (pe_lst pa_nil) (pa_cons (pe_lst (pa_cons (pe_tup pa_nil) pa_nil)) pa_nil))))
      (pss_cons (ps_for PassesOwn.never rfl (pi_range2 (by rfl) T.nrange (pa_cons pe_int (pa_cons (pe_op op_add (pv 0) pe_int) pa_nil))) (pg_name (i := 2) sc_law_all.nd rfl (Or.inl rfl)) (pss_cons (ps_set (i := 3) sc_law_all.nd rfl (Or.inl rfl) (pe_lst pa_nil))
      (pss_cons (ps_for PassesOwn.never rfl (pi_range2 (by rfl) T.nrange (pa_cons pe_int (pa_cons (pv 2) pa_nil))) (pg_name (i := 4) sc_law_all.nd rfl (Or.inl rfl)) (pss_one (ps_for PassesOwn.never rfl (pi_list (pe_ix ix_list (pv 1) (pv 4) (fun _ _ => rfl))) (pg_name (i := 5) sc_law_all.nd rfl (Or.inl rfl)) (pss_cons (ps_set (i := 6) sc_law_all.nd rfl (Or.inr rfl) (pe_op op_catA (pe_callTy call_tuple_of (by rfl) T.ntuple (by decide +kernel) (pa_cons (pe_lc (own := [("_law_depth", 8)]) (g := gName 8) (tt := tYes) rfl sc_law_all.nd (pi_tup (pv 5)) (blkOk_by (N := N_law_all) (sc := defScope s_law_all) (by decide +kernel)) (fun _ _ _ _ _ => pg_name (i := 8) sc_law_all.nd rfl (Or.inl rfl)) (fun _ _ _ _ _ => pts_nil) (fun _ _ _ _ _ => (pe_op op_add (pv 8) pe_int))) pa_nil)) (pe_tup (pa_cons pe_int pa_nil))))
      (pss_one (ps_expr (pe_bm PySem.F.plainAttrs_list PySem.F.slot_list_extend PySem.F.type_list_extend mt_extend (pv 3) (pa_cons (pe_lc (own := [("_law_behind", 7)]) (g := gName 7) (tt := tYes) rfl sc_law_all.nd (pi_list (pe_ix ix_list (pv 1) (pe_op op_sub (pv 2) (pv 4)) (fun _ _ => rfl))) (blkOk_by (N := N_law_all) (sc := defScope s_law_all) (by decide +kernel)) (fun _ _ _ _ _ => pg_name (i := 7) sc_law_all.nd rfl (Or.inl rfl)) (fun _ _ _ _ _ => pts_nil) (fun _ _ _ _ _ => (pe_op (op_catAK (K := K)) (pv 6) (pe_callTy (call_tuple_ofK (K := K)) (by rfl) T.ntuple (by decide +kernel) (pa_cons (pe_lc (own := [("_law_depth", 8)]) (g := gName 8) (tt := tYes) rfl sc_law_all.nd (pi_tupK (K := K) (pv 7)) (blkOk_by (N := N_law_all) (sc := relS sc_behind (defScope s_law_all)) (by decide +kernel)) (fun _ _ _ _ _ => pg_name (i := 8) sc_law_all.nd rfl (Or.inl rfl)) (fun _ _ _ _ _ => pts_nil) (fun _ _ _ _ _ => (pe_op op_add (pv 8) pe_int))) pa_nil))))) pa_nil))))))))
      (pss_one (ps_expr (pe_bm PySem.F.plainAttrs_list PySem.F.slot_list_append PySem.F.type_list_append mt_append (pv 1) (pa_cons (pv 3) pa_nil)))))))
      (pss_one (ps_ret (pe_ix ix_list (pv 1) (pv 0) (fun _ _ => rfl)))))), ?_⟩
    -- known = [[], [()]]
    refine ⟨Nat.zero_le _, fun l0 n0 => ⟨Nat.zero_le _, fun t nt => ⟨by show 1 ≤ sizeLine; decide, fun l1 nl1 => ⟨by show 2 ≤ sizeLine; decide, fun kn nk => ?_⟩⟩⟩⟩
    have x0 : Ex H (upd H l0 (.lst [])) := Ex.new n0
    have h0 : upd H l0 (.lst []) l0 = some (.lst []) := upd_same
    have f0 : H l0 = Option.none := n0
    generalize upd H l0 (.lst []) = Ha at nt nl1 nk x0 h0 ⊢
    have x1 : Ex Ha (upd Ha t (.tup [])) := Ex.new nt
    have h1 : upd Ha t (.tup []) t = some (.tup []) := upd_same
    generalize upd Ha t (.tup []) = Hb at nl1 nk x1 h1 ⊢
    have x2 : Ex Hb (upd Hb l1 (.lst [V.ref t])) := Ex.new nl1
    have h2 : upd Hb l1 (.lst [V.ref t]) l1 = some (.lst [V.ref t]) := upd_same
    have f1 : H l1 = Option.none := fresh_back (x0.trans x1) nl1
    generalize upd Hb l1 (.lst [V.ref t]) = Hc at nk x2 h2 ⊢
    have x3 : Ex Hc (upd Hc kn (.lst [V.ref l0, V.ref l1])) := Ex.new nk
    have h3 : upd Hc kn (.lst [V.ref l0, V.ref l1]) kn = some (.lst [V.ref l0, V.ref l1]) := upd_same
    have k0 : kn ≠ l0 := (ne_of_none ((x1.trans x2) _ _ h0) nk).symm
    have k1 : kn ≠ l1 := (ne_of_none h2 nk).symm
    have fk : H kn = Option.none := fresh_back ((x0.trans x1).trans x2) nk
    generalize upd Hc kn (.lst [V.ref l0, V.ref l1]) = Hd at x3 h3 ⊢
    have xd := ((x0.trans x1).trans x2).trans x3
    show tSeq _ _ _ [some (.int (n : Int)), some (.ref kn), none, none, none, none, none, none, none] Hd
    refine q_forR2 (lo := 2) (n := (n : Int) + 1) (ea_cons ev_c (ea_cons (ev_add (ev_var rfl) ev_c) ea_nil)) (by omega)
      (fun c σ' H' => (∃ x2 x3 x4 x5 x6 x7 x8 : Option V, σ' = [some (.int (n : Int)), some (.ref kn), x2, x3, x4, x5, x6, x7, x8]) ∧ Ex H H' ∧ ∃ ls : List Addr, H' kn = some (.lst (ls.map V.ref)) ∧ kn ∉ ls ∧ Rows H' ls (knownAt c) ∧ ∀ l ∈ ls, H l = none)
      (fun H1 e1 => ⟨⟨_, _, _, _, _, _, _, rfl⟩, xd.trans e1, [l0, l1], e1 _ _ h3, ?_, ?_, ?_⟩) ?_ ?_
    · intro z
      rcases List.mem_cons.mp z with z | z
      · exact k0 z
      · exact k1 (List.mem_singleton.mp z)
    · refine Paired.cons ⟨[], e1 _ _ (((x1.trans x2).trans x3) _ _ h0), .nil⟩ (.cons ⟨[t], e1 _ _ (x3 _ _ h2), .cons (e1 _ _ ((x2.trans x3) _ _ h1)) .nil⟩ .nil)
    · intro l hl
      rcases List.mem_cons.mp hl with rfl | hl
      · exact f0
      · rw [List.mem_singleton.mp hl]
        exact f1
    · rintro c σ' H' hc ⟨⟨x2, x3, x4, x5, x6, x7, x8, rfl⟩, ex, ls, hk, nkl, rows, fr⟩
      have hc7 : c < 6 := by omega
      simp only [List.set_cons_zero, List.set_cons_succ]
      have klen := knownAt_len c
      refine q_asgL (el_lst ea_nil (by decide)) fun F H2 nF e2 hF => ?_
      simp only [List.set_cons_zero, List.set_cons_succ]
      refine q_forR2 (lo := 1) (n := 2 + (c : Int)) (ea_cons ev_c (ea_cons (ev_var rfl) ea_nil)) (by omega)
        (fun i σ' H3 => (∃ x4 x5 x6 x7 x8 : Option V, σ' = [some (.int (n : Int)), some (.ref kn), some (.int (2 + (c : Int))), some (.ref F), x4, x5, x6, x7, x8]) ∧ Ex H' H3 ∧ ∃ ts : List Addr, H3 F = some (.lst (ts.map V.ref)) ∧ ShA H3 ts (flat c i))
        (fun H3 e3 => ⟨⟨_, _, _, _, _, rfl⟩, e2.trans e3, [], e3 _ _ hF, .nil⟩) ?_ ?_
      · rintro i σ' H3 hi ⟨⟨x4, x5, x6, x7, x8, rfl⟩, e3, ts, hF3, hS⟩
        simp only [List.set_cons_zero, List.set_cons_succ]
        have hic : i ≤ c := by omega
        have e1i : (1 : Int) + (i : Int) = ((1 + i : Nat) : Int) := rfl
        rw [e1i]
        obtain ⟨la, tsa, ga, ma, hla, hsa⟩ := rows.get (i := 1 + i) (by omega)
        obtain ⟨lb, tsb, gb, mb, hlb, hsb⟩ := rows.get (i := c + 2 - (1 + i)) (by omega)
        have bda := getD_bd (c := c) (by omega) (1 + i)
        have bdb := getD_bd (c := c) (by omega) (c + 2 - (1 + i))
        refine s_forLn (K := K) (a := la) (xs := tsa.map V.ref) (ev_ixL (ev_var rfl) (ev_var rfl) (SqL.of (e3 _ _ hk)) ga) (SqL.of (e3 _ _ hla))
          (fun j σ' H4 => (∃ x5 x6 x7 x8 : Option V, σ' = [some (.int (n : Int)), some (.ref kn), some (.int (2 + (c : Int))), some (.ref F), some (.int ((1 + i : Nat) : Int)), x5, x6, x7, x8]) ∧ Ex H' H4 ∧ ∃ ts : List Addr, H4 F = some (.lst (ts.map V.ref)) ∧ ShA H4 ts (flat c i ++ (((knownAt c).getD (1 + i) []).take j).flatMap (partOf (knownAt c) (c + 2) (1 + i))))
          (fun H4 e4 => ⟨⟨_, _, _, _, rfl⟩, e3.trans e4, ts, e4 _ _ hF3, ?_⟩) (fun j σ' H4 _ q => SqL.of (q.2.1 _ _ hla)) ?_ ?_
        · rw [List.take_zero, List.flatMap_nil, List.append_nil]
          exact ShA.keep hS (tup_ex e4)
        · rintro j y σ' H4 hj ⟨⟨x5, x6, x7, x8, rfl⟩, e4, us, hF4, hS4⟩
          simp only [List.set_cons_zero, List.set_cons_succ]
          rw [List.getElem?_map] at hj
          cases hta : tsa[j]? with
          | none =>
            rw [hta] at hj
            cases hj
          | some ta =>
          rw [hta] at hj
          obtain rfl : V.ref ta = y := Option.some.inj hj
          have hjl : j < ((knownAt c).getD (1 + i) []).length := by
            have := (List.getElem?_eq_some_iff.mp hta).1
            have := Paired.length hsa
            omega
          obtain ⟨sa, hsj⟩ : ∃ sa, ((knownAt c).getD (1 + i) [])[j]? = some sa := ⟨_, List.getElem?_eq_getElem hjl⟩
          obtain ⟨ta', hta', hsa'⟩ := Paired.getP hsa hsj
          rw [hta] at hta'
          obtain rfl := Option.some.inj hta'
          have ha4 := e4 _ _ hsa'
          have la6 := bda.2 sa (List.mem_of_getElem? hsj)
          refine q_asgW (ew_cat (ew_up (ev_var rfl) ha4 (by omega) (fun _ => rfl) (fun _ => rfl)) (ew_ofU (eu_tup (ea_cons ev_c ea_nil) (by show 1 ≤ 100000; decide))) (by rw [iV_len]; unfold up; rw [List.length_map]; show sa.length + 1 ≤ 100000; omega)) fun pi H5 e5 hpi => ?_
          simp only [List.set_cons_zero, List.set_cons_succ]
          have e45 := e4.trans e5
          have hF5 := e5 _ _ hF4
          refine ⟨_, rfl, .inl ⟨rfl, _, SqL.of hF5⟩, ?_⟩
          have e2i : (2 : Int) + (c : Int) - ((1 + i : Nat) : Int) = ((c + 2 - (1 + i) : Nat) : Int) := by omega
          refine lc_tuples (K := K) (a := lb) (xs := tsb.map V.ref) (fun q => iV (up sa ++ [0] ++ up (((knownAt c).getD (c + 2 - (1 + i)) []).getD q []))) (ev_ixL (ev_var rfl) (ev_is (ev_sub (ev_var rfl) (ev_var rfl)) (congrArg V.int e2i)) (SqL.of (e45 _ _ hk)) gb) (SqL.of (e45 _ _ hlb)) ?_ (fun _ => rfl) (fun q y Hx ex hq => ?_) fun Dl vs H6 nD e6 hD hT => ?_
          · rw [List.length_map]
            have := Paired.length hsb
            omega
          · rw [List.getElem?_map] at hq
            cases htb : tsb[q]? with
            | none =>
              rw [htb] at hq
              cases hq
            | some tb =>
            rw [htb] at hq
            obtain rfl : V.ref tb = y := Option.some.inj hq
            have hql : q < ((knownAt c).getD (c + 2 - (1 + i)) []).length := by
              have := (List.getElem?_eq_some_iff.mp htb).1
              have := Paired.length hsb
              omega
            have hsq : ((knownAt c).getD (c + 2 - (1 + i)) [])[q]? = some (((knownAt c).getD (c + 2 - (1 + i)) []).getD q []) := getL hql
            obtain ⟨tb', htb', hsb'⟩ := Paired.getP hsb hsq
            rw [htb] at htb'
            obtain rfl := Option.some.inj htb'
            have lb6 := bdb.2 _ (List.mem_of_getElem? hsq)
            rw [← iV_app]
            refine ew_cat (ew_of (ev_var rfl) ?_) (ew_up (ev_var rfl) ((e45.trans ex) _ _ hsb') (by omega) (fun _ => rfl) (fun _ => rfl)) ?_
            · rw [← iV_app]
              exact ex _ _ hpi
            · rw [iV_len, iV_len]
              unfold up
              rw [List.length_append, List.length_map, List.length_map]
              show sa.length + 1 + _ ≤ 100000
              omega
          · have lts : tsb.length = ((knownAt c).getD (c + 2 - (1 + i)) []).length := Paired.length hsb
            rw [List.length_map, lts, range_map_getD (fun be => iV (up sa ++ [0] ++ up be))] at hT
            have hF6 := e6 _ _ hF5
            have lus := Paired.length hS4
            have lfl := flat_len (c := c) (by omega) i
            have lfm := flatMap_le (l := ((knownAt c).getD (1 + i) []).take j) (f := partOf (knownAt c) (c + 2) (1 + i)) (b := 132) (fun ah _ => partOf_len (by omega) _ _ _)
            rw [List.length_append] at lus
            rw [List.length_take] at lfm
            have lvs := Paired.length hT
            rw [List.length_map] at lvs
            refine ⟨F, Dl, _, _, rfl, rfl, hF6, hD, ?_, ?_⟩
            · rw [List.length_map, List.length_map]
              refine Nat.le_trans (?_ : _ ≤ 200000) (by decide)
              omega
            · have kt := tup_upd (u := .lst (us.map V.ref ++ vs.map V.ref)) hF6 (fun _ z => nomatch z)
              refine ⟨⟨_, _, _, _, rfl⟩, Ex.mut (e45.trans e6) nF, us ++ vs, ?_, ?_⟩
              · rw [upd_same, List.map_append]
              · have hS6 : ShA (upd H6 F (.lst (us.map V.ref ++ vs.map V.ref))) us _ := ShA.keep (ShA.keep hS4 (tup_ex (e5.trans e6))) kt
                have hV : ShA (upd H6 F (.lst (us.map V.ref ++ vs.map V.ref))) vs (partOf (knownAt c) (c + 2) (1 + i) sa) := by
                  have z : Paired (fun t s => H6 t = some (.tup (iV s))) vs (partOf (knownAt c) (c + 2) (1 + i) sa) := by
                    unfold partOf
                    have hT' : Paired (fun t z => H6 t = some (.tup z)) vs ((((knownAt c).getD (c + 2 - (1 + i)) []).map fun be => up sa ++ [0] ++ up be).map iV) := by
                      rw [List.map_map]
                      exact hT
                    exact Paired.mapR (F := fun t z => H6 t = some (.tup z)) (g := iV) hT'
                  exact ShA.keep z kt
                have z := ShA.app hS6 hV
                rw [List.take_succ, hsj, List.flatMap_append, ← List.append_assoc]
                simpa using z
        · rintro σ' H4 ⟨⟨x5, x6, x7, x8, rfl⟩, e4, us, hF4, hS4⟩
          refine ⟨⟨_, _, _, _, _, rfl⟩, e4, us, hF4, ?_⟩
          rw [flat_succ]
          have ll : (tsa.map V.ref).length = ((knownAt c).getD (1 + i) []).length := by
            rw [List.length_map]
            exact Paired.length hsa
          rw [ll, List.take_of_length_le (Nat.le_refl _)] at hS4
          exact hS4
      · rintro σ' H3 ⟨⟨x4, x5, x6, x7, x8, rfl⟩, e3, ts, hF3, hS⟩
        have ec : (2 + (c : Int) - 1).toNat = c + 1 := by omega
        rw [ec] at hS
        have hk3 := e3 _ _ hk
        refine s_app hk3 (ev_var rfl) (ev_var rfl) ?_ fun H4 e4 => ?_
        · have := Paired.length rows
          rw [List.length_map]
          omega
        · have hk4 := e4 _ _ hk3
          have e34 := e3.trans e4
          have nFk : kn ≠ F := ne_of_none hk nF
          have nFl : F ∉ ls := fun z => by
            obtain ⟨q, hq⟩ := List.getElem?_of_mem z
            have hql := (List.getElem?_eq_some_iff.mp hq).1
            have hl := Paired.length rows
            obtain ⟨l', ts', g, _, hl', _⟩ := rows.get (i := q) (by omega)
            have g2 : atI (ls.map V.ref) (q : Int) = some (V.ref F) := atI_nat (by rw [List.getElem?_map, hq]; rfl)
            rw [g] at g2
            have := Option.some.inj g2
            injection this with this
            subst this
            rw [hl'] at nF
            cases nF
          refine ⟨⟨_, _, _, _, _, _, _, rfl⟩, Ex.mut (ex.trans e34) fk, ls ++ [F], ?_, ?_, ?_, ?_⟩
          · rw [upd_same, List.map_append]
            rfl
          · intro z
            rcases List.mem_append.mp z with z | z
            · exact nkl z
            · exact nFk (List.mem_singleton.mp z)
          · rw [flat_all]
            refine Paired.snocP (Rows.upd hk4 nkl (rows.ex e34)) ⟨ts, ?_, ShA.keep (ShA.keep hS (tup_ex e4)) (tup_upd hk4 fun _ z => nomatch z)⟩
            rw [upd_ne (Ne.symm nFk)]
            exact e4 _ _ hF3
          · intro l hl
            rcases List.mem_append.mp hl with hl | hl
            · exact fr l hl
            · rw [List.mem_singleton.mp hl]
              exact fresh_back ex nF
    · rintro σ' H' ⟨⟨x2, x3, x4, x5, x6, x7, x8, rfl⟩, ex, ls, hk, nkl, rows, fr⟩
      have ec : ((n : Int) + 1 - 2).toNat = n - 1 := by omega
      rw [ec] at rows
      have klen := knownAt_len (n - 1)
      obtain ⟨l, ts, g, ml, hl, hs⟩ := rows.get (i := n) (by omega)
      exact s_ret (ev_ixL (ev_var rfl) (ev_var rfl) (SqL.of hk) g) fun H2 e2 => k l ts H2 (fr l ml) (ex.trans e2) (e2 _ _ hl) (ShA.keep hs (tup_ex e2))
end
end HS

set_option Elab.async false
namespace HS
def dat0 : List (List Nat × List Bool) := [([], [])]
def dat1 : List (List Nat × List Bool) := [([], [])]
def dat2 : List (List Nat × List Bool) := [([0], [false]), ([1], [true])]
def dat3 : List (List Nat × List Bool) := [([0, 0, 0], [false, false, false]), ([0, 0, 1], [false, false, true]), ([1, 2, 0], [true, false, false]), ([0, 1, 1], [false, true, false]), ([1, 1, 1], [true, false, true])]
def dat4 : List (List Nat × List Bool) := [([0, 0, 0, 0, 0, 0], [false, false, false, false, false, false]), ([0, 0, 0, 0, 0, 1], [false, false, false, false, false, true]), ([0, 0, 0, 1, 2, 0], [false, false, false, true, false, false]), ([0, 0, 0, 0, 1, 1], [false, false, false, false, true, false]), ([0, 0, 0, 1, 1, 1], [false, false, false, true, false, true]), ([1, 2, 2, 0, 0, 0], [true, false, false, false, false, false]), ([1, 2, 2, 0, 0, 1], [true, false, false, false, false, true]), ([0, 1, 2, 1, 2, 0], [false, true, false, false, false, false]), ([1, 1, 2, 1, 2, 0], [true, false, false, true, false, false]), ([0, 0, 1, 0, 1, 1], [false, false, true, false, false, false]), ([0, 0, 1, 1, 1, 1], [false, false, true, true, false, false]), ([1, 2, 1, 0, 1, 1], [true, false, false, false, true, false]), ([0, 1, 1, 1, 1, 1], [false, true, false, false, false, true]), ([1, 1, 1, 1, 1, 1], [true, false, false, true, false, true])]
def dat5 : List (List Nat × List Bool) := [([0, 0, 0, 0, 0, 0, 0, 0, 0, 0], [false, false, false, false, false, false, false, false, false, false]), ([0, 0, 0, 0, 0, 0, 0, 0, 0, 1], [false, false, false, false, false, false, false, false, false, true]), ([0, 0, 0, 0, 0, 0, 0, 1, 2, 0], [false, false, false, false, false, false, false, true, false, false]), ([0, 0, 0, 0, 0, 0, 0, 0, 1, 1], [false, false, false, false, false, false, false, false, true, false]), ([0, 0, 0, 0, 0, 0, 0, 1, 1, 1], [false, false, false, false, false, false, false, true, false, true]), ([0, 0, 0, 0, 1, 2, 2, 0, 0, 0], [false, false, false, false, true, false, false, false, false, false]), ([0, 0, 0, 0, 1, 2, 2, 0, 0, 1], [false, false, false, false, true, false, false, false, false, true]), ([0, 0, 0, 0, 0, 1, 2, 1, 2, 0], [false, false, false, false, false, true, false, false, false, false]), ([0, 0, 0, 0, 1, 1, 2, 1, 2, 0], [false, false, false, false, true, false, false, true, false, false]), ([0, 0, 0, 0, 0, 0, 1, 0, 1, 1], [false, false, false, false, false, false, true, false, false, false]), ([0, 0, 0, 0, 0, 0, 1, 1, 1, 1], [false, false, false, false, false, false, true, true, false, false]), ([0, 0, 0, 0, 1, 2, 1, 0, 1, 1], [false, false, false, false, true, false, false, false, true, false]), ([0, 0, 0, 0, 0, 1, 1, 1, 1, 1], [false, false, false, false, false, true, false, false, false, true]), ([0, 0, 0, 0, 1, 1, 1, 1, 1, 1], [false, false, false, false, true, false, false, true, false, true]), ([1, 2, 2, 2, 0, 0, 0, 0, 0, 0], [true, false, false, false, false, false, false, false, false, false]), ([1, 2, 2, 2, 0, 0, 0, 0, 0, 1], [true, false, false, false, false, false, false, false, false, true]), ([1, 2, 2, 2, 0, 0, 0, 1, 2, 0], [true, false, false, false, false, false, false, true, false, false]), ([1, 2, 2, 2, 0, 0, 0, 0, 1, 1], [true, false, false, false, false, false, false, false, true, false]), ([1, 2, 2, 2, 0, 0, 0, 1, 1, 1], [true, false, false, false, false, false, false, true, false, true]), ([0, 1, 2, 2, 1, 2, 2, 0, 0, 0], [false, true, false, false, false, false, false, false, false, false]), ([0, 1, 2, 2, 1, 2, 2, 0, 0, 1], [false, true, false, false, false, false, false, false, false, true]), ([1, 1, 2, 2, 1, 2, 2, 0, 0, 0], [true, false, false, false, true, false, false, false, false, false]), ([1, 1, 2, 2, 1, 2, 2, 0, 0, 1], [true, false, false, false, true, false, false, false, false, true]), ([0, 0, 1, 2, 0, 1, 2, 1, 2, 0], [false, false, true, false, false, false, false, false, false, false]), ([0, 0, 1, 2, 1, 1, 2, 1, 2, 0], [false, false, true, false, true, false, false, false, false, false]), ([1, 2, 1, 2, 0, 1, 2, 1, 2, 0], [true, false, false, false, false, true, false, false, false, false]), ([0, 1, 1, 2, 1, 1, 2, 1, 2, 0], [false, true, false, false, false, false, false, true, false, false]), ([1, 1, 1, 2, 1, 1, 2, 1, 2, 0], [true, false, false, false, true, false, false, true, false, false]), ([0, 0, 0, 1, 0, 0, 1, 0, 1, 1], [false, false, false, true, false, false, false, false, false, false]), ([0, 0, 0, 1, 0, 0, 1, 1, 1, 1], [false, false, false, true, false, false, false, true, false, false]), ([0, 0, 0, 1, 1, 2, 1, 0, 1, 1], [false, false, false, true, true, false, false, false, false, false]), ([0, 0, 0, 1, 0, 1, 1, 1, 1, 1], [false, false, false, true, false, true, false, false, false, false]), ([0, 0, 0, 1, 1, 1, 1, 1, 1, 1], [false, false, false, true, true, false, false, true, false, false]), ([1, 2, 2, 1, 0, 0, 1, 0, 1, 1], [true, false, false, false, false, false, true, false, false, false]), ([1, 2, 2, 1, 0, 0, 1, 1, 1, 1], [true, false, false, false, false, false, true, true, false, false]), ([0, 1, 2, 1, 1, 2, 1, 0, 1, 1], [false, true, false, false, false, false, false, false, true, false]), ([1, 1, 2, 1, 1, 2, 1, 0, 1, 1], [true, false, false, false, true, false, false, false, true, false]), ([0, 0, 1, 1, 0, 1, 1, 1, 1, 1], [false, false, true, false, false, false, false, false, false, true]), ([0, 0, 1, 1, 1, 1, 1, 1, 1, 1], [false, false, true, false, true, false, false, false, false, true]), ([1, 2, 1, 1, 0, 1, 1, 1, 1, 1], [true, false, false, false, false, true, false, false, false, true]), ([0, 1, 1, 1, 1, 1, 1, 1, 1, 1], [false, true, false, false, false, false, false, true, false, true]), ([1, 1, 1, 1, 1, 1, 1, 1, 1, 1], [true, false, false, false, true, false, false, true, false, true])]
def dat6 : List (List Nat × List Bool) := [([0, 0, 0, 0, 0, 0, 0, 0, 0, 0, 0, 0, 0, 0, 0], [false, false, false, false, false, false, false, false, false, false, false, false, false, false, false]), ([0, 0, 0, 0, 0, 0, 0, 0, 0, 0, 0, 0, 0, 0, 1], [false, false, false, false, false, false, false, false, false, false, false, false, false, false, true]), ([0, 0, 0, 0, 0, 0, 0, 0, 0, 0, 0, 0, 1, 2, 0], [false, false, false, false, false, false, false, false, false, false, false, false, true, false, false]), ([0, 0, 0, 0, 0, 0, 0, 0, 0, 0, 0, 0, 0, 1, 1], [false, false, false, false, false, false, false, false, false, false, false, false, false, true, false]), ([0, 0, 0, 0, 0, 0, 0, 0, 0, 0, 0, 0, 1, 1, 1], [false, false, false, false, false, false, false, false, false, false, false, false, true, false, true]), ([0, 0, 0, 0, 0, 0, 0, 0, 0, 1, 2, 2, 0, 0, 0], [false, false, false, false, false, false, false, false, false, true, false, false, false, false, false]), ([0, 0, 0, 0, 0, 0, 0, 0, 0, 1, 2, 2, 0, 0, 1], [false, false, false, false, false, false, false, false, false, true, false, false, false, false, true]), ([0, 0, 0, 0, 0, 0, 0, 0, 0, 0, 1, 2, 1, 2, 0], [false, false, false, false, false, false, false, false, false, false, true, false, false, false, false]), ([0, 0, 0, 0, 0, 0, 0, 0, 0, 1, 1, 2, 1, 2, 0], [false, false, false, false, false, false, false, false, false, true, false, false, true, false, false]), ([0, 0, 0, 0, 0, 0, 0, 0, 0, 0, 0, 1, 0, 1, 1], [false, false, false, false, false, false, false, false, false, false, false, true, false, false, false]), ([0, 0, 0, 0, 0, 0, 0, 0, 0, 0, 0, 1, 1, 1, 1], [false, false, false, false, false, false, false, false, false, false, false, true, true, false, false]), ([0, 0, 0, 0, 0, 0, 0, 0, 0, 1, 2, 1, 0, 1, 1], [false, false, false, false, false, false, false, false, false, true, false, false, false, true, false]), ([0, 0, 0, 0, 0, 0, 0, 0, 0, 0, 1, 1, 1, 1, 1], [false, false, false, false, false, false, false, false, false, false, true, false, false, false, true]), ([0, 0, 0, 0, 0, 0, 0, 0, 0, 1, 1, 1, 1, 1, 1], [false, false, false, false, false, false, false, false, false, true, false, false, true, false, true]), ([0, 0, 0, 0, 0, 1, 2, 2, 2, 0, 0, 0, 0, 0, 0], [false, false, false, false, false, true, false, false, false, false, false, false, false, false, false]), ([0, 0, 0, 0, 0, 1, 2, 2, 2, 0, 0, 0, 0, 0, 1], [false, false, false, false, false, true, false, false, false, false, false, false, false, false, true]), ([0, 0, 0, 0, 0, 1, 2, 2, 2, 0, 0, 0, 1, 2, 0], [false, false, false, false, false, true, false, false, false, false, false, false, true, false, false]), ([0, 0, 0, 0, 0, 1, 2, 2, 2, 0, 0, 0, 0, 1, 1], [false, false, false, false, false, true, false, false, false, false, false, false, false, true, false]), ([0, 0, 0, 0, 0, 1, 2, 2, 2, 0, 0, 0, 1, 1, 1], [false, false, false, false, false, true, false, false, false, false, false, false, true, false, true]), ([0, 0, 0, 0, 0, 0, 1, 2, 2, 1, 2, 2, 0, 0, 0], [false, false, false, false, false, false, true, false, false, false, false, false, false, false, false]), ([0, 0, 0, 0, 0, 0, 1, 2, 2, 1, 2, 2, 0, 0, 1], [false, false, false, false, false, false, true, false, false, false, false, false, false, false, true]), ([0, 0, 0, 0, 0, 1, 1, 2, 2, 1, 2, 2, 0, 0, 0], [false, false, false, false, false, true, false, false, false, true, false, false, false, false, false]), ([0, 0, 0, 0, 0, 1, 1, 2, 2, 1, 2, 2, 0, 0, 1], [false, false, false, false, false, true, false, false, false, true, false, false, false, false, true]), ([0, 0, 0, 0, 0, 0, 0, 1, 2, 0, 1, 2, 1, 2, 0], [false, false, false, false, false, false, false, true, false, false, false, false, false, false, false]), ([0, 0, 0, 0, 0, 0, 0, 1, 2, 1, 1, 2, 1, 2, 0], [false, false, false, false, false, false, false, true, false, true, false, false, false, false, false]), ([0, 0, 0, 0, 0, 1, 2, 1, 2, 0, 1, 2, 1, 2, 0], [false, false, false, false, false, true, false, false, false, false, true, false, false, false, false]), ([0, 0, 0, 0, 0, 0, 1, 1, 2, 1, 1, 2, 1, 2, 0], [false, false, false, false, false, false, true, false, false, false, false, false, true, false, false]), ([0, 0, 0, 0, 0, 1, 1, 1, 2, 1, 1, 2, 1, 2, 0], [false, false, false, false, false, true, false, false, false, true, false, false, true, false, false]), ([0, 0, 0, 0, 0, 0, 0, 0, 1, 0, 0, 1, 0, 1, 1], [false, false, false, false, false, false, false, false, true, false, false, false, false, false, false]), ([0, 0, 0, 0, 0, 0, 0, 0, 1, 0, 0, 1, 1, 1, 1], [false, false, false, false, false, false, false, false, true, false, false, false, true, false, false]), ([0, 0, 0, 0, 0, 0, 0, 0, 1, 1, 2, 1, 0, 1, 1], [false, false, false, false, false, false, false, false, true, true, false, false, false, false, false]), ([0, 0, 0, 0, 0, 0, 0, 0, 1, 0, 1, 1, 1, 1, 1], [false, false, false, false, false, false, false, false, true, false, true, false, false, false, false]), ([0, 0, 0, 0, 0, 0, 0, 0, 1, 1, 1, 1, 1, 1, 1], [false, false, false, false, false, false, false, false, true, true, false, false, true, false, false]), ([0, 0, 0, 0, 0, 1, 2, 2, 1, 0, 0, 1, 0, 1, 1], [false, false, false, false, false, true, false, false, false, false, false, true, false, false, false]), ([0, 0, 0, 0, 0, 1, 2, 2, 1, 0, 0, 1, 1, 1, 1], [false, false, false, false, false, true, false, false, false, false, false, true, true, false, false]), ([0, 0, 0, 0, 0, 0, 1, 2, 1, 1, 2, 1, 0, 1, 1], [false, false, false, false, false, false, true, false, false, false, false, false, false, true, false]), ([0, 0, 0, 0, 0, 1, 1, 2, 1, 1, 2, 1, 0, 1, 1], [false, false, false, false, false, true, false, false, false, true, false, false, false, true, false]), ([0, 0, 0, 0, 0, 0, 0, 1, 1, 0, 1, 1, 1, 1, 1], [false, false, false, false, false, false, false, true, false, false, false, false, false, false, true]), ([0, 0, 0, 0, 0, 0, 0, 1, 1, 1, 1, 1, 1, 1, 1], [false, false, false, false, false, false, false, true, false, true, false, false, false, false, true]), ([0, 0, 0, 0, 0, 1, 2, 1, 1, 0, 1, 1, 1, 1, 1], [false, false, false, false, false, true, false, false, false, false, true, false, false, false, true]), ([0, 0, 0, 0, 0, 0, 1, 1, 1, 1, 1, 1, 1, 1, 1], [false, false, false, false, false, false, true, false, false, false, false, false, true, false, true]), ([0, 0, 0, 0, 0, 1, 1, 1, 1, 1, 1, 1, 1, 1, 1], [false, false, false, false, false, true, false, false, false, true, false, false, true, false, true]), ([1, 2, 2, 2, 2, 0, 0, 0, 0, 0, 0, 0, 0, 0, 0], [true, false, false, false, false, false, false, false, false, false, false, false, false, false, false]), ([1, 2, 2, 2, 2, 0, 0, 0, 0, 0, 0, 0, 0, 0, 1], [true, false, false, false, false, false, false, false, false, false, false, false, false, false, true]), ([1, 2, 2, 2, 2, 0, 0, 0, 0, 0, 0, 0, 1, 2, 0], [true, false, false, false, false, false, false, false, false, false, false, false, true, false, false]), ([1, 2, 2, 2, 2, 0, 0, 0, 0, 0, 0, 0, 0, 1, 1], [true, false, false, false, false, false, false, false, false, false, false, false, false, true, false]), ([1, 2, 2, 2, 2, 0, 0, 0, 0, 0, 0, 0, 1, 1, 1], [true, false, false, false, false, false, false, false, false, false, false, false, true, false, true]), ([1, 2, 2, 2, 2, 0, 0, 0, 0, 1, 2, 2, 0, 0, 0], [true, false, false, false, false, false, false, false, false, true, false, false, false, false, false]), ([1, 2, 2, 2, 2, 0, 0, 0, 0, 1, 2, 2, 0, 0, 1], [true, false, false, false, false, false, false, false, false, true, false, false, false, false, true]), ([1, 2, 2, 2, 2, 0, 0, 0, 0, 0, 1, 2, 1, 2, 0], [true, false, false, false, false, false, false, false, false, false, true, false, false, false, false]), ([1, 2, 2, 2, 2, 0, 0, 0, 0, 1, 1, 2, 1, 2, 0], [true, false, false, false, false, false, false, false, false, true, false, false, true, false, false]), ([1, 2, 2, 2, 2, 0, 0, 0, 0, 0, 0, 1, 0, 1, 1], [true, false, false, false, false, false, false, false, false, false, false, true, false, false, false]), ([1, 2, 2, 2, 2, 0, 0, 0, 0, 0, 0, 1, 1, 1, 1], [true, false, false, false, false, false, false, false, false, false, false, true, true, false, false]), ([1, 2, 2, 2, 2, 0, 0, 0, 0, 1, 2, 1, 0, 1, 1], [true, false, false, false, false, false, false, false, false, true, false, false, false, true, false]), ([1, 2, 2, 2, 2, 0, 0, 0, 0, 0, 1, 1, 1, 1, 1], [true, false, false, false, false, false, false, false, false, false, true, false, false, false, true]), ([1, 2, 2, 2, 2, 0, 0, 0, 0, 1, 1, 1, 1, 1, 1], [true, false, false, false, false, false, false, false, false, true, false, false, true, false, true]), ([0, 1, 2, 2, 2, 1, 2, 2, 2, 0, 0, 0, 0, 0, 0], [false, true, false, false, false, false, false, false, false, false, false, false, false, false, false]), ([0, 1, 2, 2, 2, 1, 2, 2, 2, 0, 0, 0, 0, 0, 1], [false, true, false, false, false, false, false, false, false, false, false, false, false, false, true]), ([0, 1, 2, 2, 2, 1, 2, 2, 2, 0, 0, 0, 1, 2, 0], [false, true, false, false, false, false, false, false, false, false, false, false, true, false, false]), ([0, 1, 2, 2, 2, 1, 2, 2, 2, 0, 0, 0, 0, 1, 1], [false, true, false, false, false, false, false, false, false, false, false, false, false, true, false]), ([0, 1, 2, 2, 2, 1, 2, 2, 2, 0, 0, 0, 1, 1, 1], [false, true, false, false, false, false, false, false, false, false, false, false, true, false, true]), ([1, 1, 2, 2, 2, 1, 2, 2, 2, 0, 0, 0, 0, 0, 0], [true, false, false, false, false, true, false, false, false, false, false, false, false, false, false]), ([1, 1, 2, 2, 2, 1, 2, 2, 2, 0, 0, 0, 0, 0, 1], [true, false, false, false, false, true, false, false, false, false, false, false, false, false, true]), ([1, 1, 2, 2, 2, 1, 2, 2, 2, 0, 0, 0, 1, 2, 0], [true, false, false, false, false, true, false, false, false, false, false, false, true, false, false]), ([1, 1, 2, 2, 2, 1, 2, 2, 2, 0, 0, 0, 0, 1, 1], [true, false, false, false, false, true, false, false, false, false, false, false, false, true, false]), ([1, 1, 2, 2, 2, 1, 2, 2, 2, 0, 0, 0, 1, 1, 1], [true, false, false, false, false, true, false, false, false, false, false, false, true, false, true]), ([0, 0, 1, 2, 2, 0, 1, 2, 2, 1, 2, 2, 0, 0, 0], [false, false, true, false, false, false, false, false, false, false, false, false, false, false, false]), ([0, 0, 1, 2, 2, 0, 1, 2, 2, 1, 2, 2, 0, 0, 1], [false, false, true, false, false, false, false, false, false, false, false, false, false, false, true]), ([0, 0, 1, 2, 2, 1, 1, 2, 2, 1, 2, 2, 0, 0, 0], [false, false, true, false, false, true, false, false, false, false, false, false, false, false, false]), ([0, 0, 1, 2, 2, 1, 1, 2, 2, 1, 2, 2, 0, 0, 1], [false, false, true, false, false, true, false, false, false, false, false, false, false, false, true]), ([1, 2, 1, 2, 2, 0, 1, 2, 2, 1, 2, 2, 0, 0, 0], [true, false, false, false, false, false, true, false, false, false, false, false, false, false, false]), ([1, 2, 1, 2, 2, 0, 1, 2, 2, 1, 2, 2, 0, 0, 1], [true, false, false, false, false, false, true, false, false, false, false, false, false, false, true]), ([0, 1, 1, 2, 2, 1, 1, 2, 2, 1, 2, 2, 0, 0, 0], [false, true, false, false, false, false, false, false, false, true, false, false, false, false, false]), ([0, 1, 1, 2, 2, 1, 1, 2, 2, 1, 2, 2, 0, 0, 1], [false, true, false, false, false, false, false, false, false, true, false, false, false, false, true]), ([1, 1, 1, 2, 2, 1, 1, 2, 2, 1, 2, 2, 0, 0, 0], [true, false, false, false, false, true, false, false, false, true, false, false, false, false, false]), ([1, 1, 1, 2, 2, 1, 1, 2, 2, 1, 2, 2, 0, 0, 1], [true, false, false, false, false, true, false, false, false, true, false, false, false, false, true]), ([0, 0, 0, 1, 2, 0, 0, 1, 2, 0, 1, 2, 1, 2, 0], [false, false, false, true, false, false, false, false, false, false, false, false, false, false, false]), ([0, 0, 0, 1, 2, 0, 0, 1, 2, 1, 1, 2, 1, 2, 0], [false, false, false, true, false, false, false, false, false, true, false, false, false, false, false]), ([0, 0, 0, 1, 2, 1, 2, 1, 2, 0, 1, 2, 1, 2, 0], [false, false, false, true, false, true, false, false, false, false, false, false, false, false, false]), ([0, 0, 0, 1, 2, 0, 1, 1, 2, 1, 1, 2, 1, 2, 0], [false, false, false, true, false, false, true, false, false, false, false, false, false, false, false]), ([0, 0, 0, 1, 2, 1, 1, 1, 2, 1, 1, 2, 1, 2, 0], [false, false, false, true, false, true, false, false, false, true, false, false, false, false, false]), ([1, 2, 2, 1, 2, 0, 0, 1, 2, 0, 1, 2, 1, 2, 0], [true, false, false, false, false, false, false, true, false, false, false, false, false, false, false]), ([1, 2, 2, 1, 2, 0, 0, 1, 2, 1, 1, 2, 1, 2, 0], [true, false, false, false, false, false, false, true, false, true, false, false, false, false, false]), ([0, 1, 2, 1, 2, 1, 2, 1, 2, 0, 1, 2, 1, 2, 0], [false, true, false, false, false, false, false, false, false, false, true, false, false, false, false]), ([1, 1, 2, 1, 2, 1, 2, 1, 2, 0, 1, 2, 1, 2, 0], [true, false, false, false, false, true, false, false, false, false, true, false, false, false, false]), ([0, 0, 1, 1, 2, 0, 1, 1, 2, 1, 1, 2, 1, 2, 0], [false, false, true, false, false, false, false, false, false, false, false, false, true, false, false]), ([0, 0, 1, 1, 2, 1, 1, 1, 2, 1, 1, 2, 1, 2, 0], [false, false, true, false, false, true, false, false, false, false, false, false, true, false, false]), ([1, 2, 1, 1, 2, 0, 1, 1, 2, 1, 1, 2, 1, 2, 0], [true, false, false, false, false, false, true, false, false, false, false, false, true, false, false]), ([0, 1, 1, 1, 2, 1, 1, 1, 2, 1, 1, 2, 1, 2, 0], [false, true, false, false, false, false, false, false, false, true, false, false, true, false, false]), ([1, 1, 1, 1, 2, 1, 1, 1, 2, 1, 1, 2, 1, 2, 0], [true, false, false, false, false, true, false, false, false, true, false, false, true, false, false]), ([0, 0, 0, 0, 1, 0, 0, 0, 1, 0, 0, 1, 0, 1, 1], [false, false, false, false, true, false, false, false, false, false, false, false, false, false, false]), ([0, 0, 0, 0, 1, 0, 0, 0, 1, 0, 0, 1, 1, 1, 1], [false, false, false, false, true, false, false, false, false, false, false, false, true, false, false]), ([0, 0, 0, 0, 1, 0, 0, 0, 1, 1, 2, 1, 0, 1, 1], [false, false, false, false, true, false, false, false, false, true, false, false, false, false, false]), ([0, 0, 0, 0, 1, 0, 0, 0, 1, 0, 1, 1, 1, 1, 1], [false, false, false, false, true, false, false, false, false, false, true, false, false, false, false]), ([0, 0, 0, 0, 1, 0, 0, 0, 1, 1, 1, 1, 1, 1, 1], [false, false, false, false, true, false, false, false, false, true, false, false, true, false, false]), ([0, 0, 0, 0, 1, 1, 2, 2, 1, 0, 0, 1, 0, 1, 1], [false, false, false, false, true, true, false, false, false, false, false, false, false, false, false]), ([0, 0, 0, 0, 1, 1, 2, 2, 1, 0, 0, 1, 1, 1, 1], [false, false, false, false, true, true, false, false, false, false, false, false, true, false, false]), ([0, 0, 0, 0, 1, 0, 1, 2, 1, 1, 2, 1, 0, 1, 1], [false, false, false, false, true, false, true, false, false, false, false, false, false, false, false]), ([0, 0, 0, 0, 1, 1, 1, 2, 1, 1, 2, 1, 0, 1, 1], [false, false, false, false, true, true, false, false, false, true, false, false, false, false, false]), ([0, 0, 0, 0, 1, 0, 0, 1, 1, 0, 1, 1, 1, 1, 1], [false, false, false, false, true, false, false, true, false, false, false, false, false, false, false]), ([0, 0, 0, 0, 1, 0, 0, 1, 1, 1, 1, 1, 1, 1, 1], [false, false, false, false, true, false, false, true, false, true, false, false, false, false, false]), ([0, 0, 0, 0, 1, 1, 2, 1, 1, 0, 1, 1, 1, 1, 1], [false, false, false, false, true, true, false, false, false, false, true, false, false, false, false]), ([0, 0, 0, 0, 1, 0, 1, 1, 1, 1, 1, 1, 1, 1, 1], [false, false, false, false, true, false, true, false, false, false, false, false, true, false, false]), ([0, 0, 0, 0, 1, 1, 1, 1, 1, 1, 1, 1, 1, 1, 1], [false, false, false, false, true, true, false, false, false, true, false, false, true, false, false]), ([1, 2, 2, 2, 1, 0, 0, 0, 1, 0, 0, 1, 0, 1, 1], [true, false, false, false, false, false, false, false, true, false, false, false, false, false, false]), ([1, 2, 2, 2, 1, 0, 0, 0, 1, 0, 0, 1, 1, 1, 1], [true, false, false, false, false, false, false, false, true, false, false, false, true, false, false]), ([1, 2, 2, 2, 1, 0, 0, 0, 1, 1, 2, 1, 0, 1, 1], [true, false, false, false, false, false, false, false, true, true, false, false, false, false, false]), ([1, 2, 2, 2, 1, 0, 0, 0, 1, 0, 1, 1, 1, 1, 1], [true, false, false, false, false, false, false, false, true, false, true, false, false, false, false]), ([1, 2, 2, 2, 1, 0, 0, 0, 1, 1, 1, 1, 1, 1, 1], [true, false, false, false, false, false, false, false, true, true, false, false, true, false, false]), ([0, 1, 2, 2, 1, 1, 2, 2, 1, 0, 0, 1, 0, 1, 1], [false, true, false, false, false, false, false, false, false, false, false, true, false, false, false]), ([0, 1, 2, 2, 1, 1, 2, 2, 1, 0, 0, 1, 1, 1, 1], [false, true, false, false, false, false, false, false, false, false, false, true, true, false, false]), ([1, 1, 2, 2, 1, 1, 2, 2, 1, 0, 0, 1, 0, 1, 1], [true, false, false, false, false, true, false, false, false, false, false, true, false, false, false]), ([1, 1, 2, 2, 1, 1, 2, 2, 1, 0, 0, 1, 1, 1, 1], [true, false, false, false, false, true, false, false, false, false, false, true, true, false, false]), ([0, 0, 1, 2, 1, 0, 1, 2, 1, 1, 2, 1, 0, 1, 1], [false, false, true, false, false, false, false, false, false, false, false, false, false, true, false]), ([0, 0, 1, 2, 1, 1, 1, 2, 1, 1, 2, 1, 0, 1, 1], [false, false, true, false, false, true, false, false, false, false, false, false, false, true, false]), ([1, 2, 1, 2, 1, 0, 1, 2, 1, 1, 2, 1, 0, 1, 1], [true, false, false, false, false, false, true, false, false, false, false, false, false, true, false]), ([0, 1, 1, 2, 1, 1, 1, 2, 1, 1, 2, 1, 0, 1, 1], [false, true, false, false, false, false, false, false, false, true, false, false, false, true, false]), ([1, 1, 1, 2, 1, 1, 1, 2, 1, 1, 2, 1, 0, 1, 1], [true, false, false, false, false, true, false, false, false, true, false, false, false, true, false]), ([0, 0, 0, 1, 1, 0, 0, 1, 1, 0, 1, 1, 1, 1, 1], [false, false, false, true, false, false, false, false, false, false, false, false, false, false, true]), ([0, 0, 0, 1, 1, 0, 0, 1, 1, 1, 1, 1, 1, 1, 1], [false, false, false, true, false, false, false, false, false, true, false, false, false, false, true]), ([0, 0, 0, 1, 1, 1, 2, 1, 1, 0, 1, 1, 1, 1, 1], [false, false, false, true, false, true, false, false, false, false, false, false, false, false, true]), ([0, 0, 0, 1, 1, 0, 1, 1, 1, 1, 1, 1, 1, 1, 1], [false, false, false, true, false, false, true, false, false, false, false, false, false, false, true]), ([0, 0, 0, 1, 1, 1, 1, 1, 1, 1, 1, 1, 1, 1, 1], [false, false, false, true, false, true, false, false, false, true, false, false, false, false, true]), ([1, 2, 2, 1, 1, 0, 0, 1, 1, 0, 1, 1, 1, 1, 1], [true, false, false, false, false, false, false, true, false, false, false, false, false, false, true]), ([1, 2, 2, 1, 1, 0, 0, 1, 1, 1, 1, 1, 1, 1, 1], [true, false, false, false, false, false, false, true, false, true, false, false, false, false, true]), ([0, 1, 2, 1, 1, 1, 2, 1, 1, 0, 1, 1, 1, 1, 1], [false, true, false, false, false, false, false, false, false, false, true, false, false, false, true]), ([1, 1, 2, 1, 1, 1, 2, 1, 1, 0, 1, 1, 1, 1, 1], [true, false, false, false, false, true, false, false, false, false, true, false, false, false, true]), ([0, 0, 1, 1, 1, 0, 1, 1, 1, 1, 1, 1, 1, 1, 1], [false, false, true, false, false, false, false, false, false, false, false, false, true, false, true]), ([0, 0, 1, 1, 1, 1, 1, 1, 1, 1, 1, 1, 1, 1, 1], [false, false, true, false, false, true, false, false, false, false, false, false, true, false, true]), ([1, 2, 1, 1, 1, 0, 1, 1, 1, 1, 1, 1, 1, 1, 1], [true, false, false, false, false, false, true, false, false, false, false, false, true, false, true]), ([0, 1, 1, 1, 1, 1, 1, 1, 1, 1, 1, 1, 1, 1, 1], [false, true, false, false, false, false, false, false, false, true, false, false, true, false, true]), ([1, 1, 1, 1, 1, 1, 1, 1, 1, 1, 1, 1, 1, 1, 1], [true, false, false, false, false, true, false, false, false, true, false, false, true, false, true])]
def dat : Nat → List (List Nat × List Bool)
  | 0 => dat0
  | 1 => dat1
  | 2 => dat2
  | 3 => dat3
  | 4 => dat4
  | 5 => dat5
  | 6 => dat6
  | _ => []
end HS
namespace HS
def keyN : List Bool → List Nat → Nat → Nat
  | true :: bs, c :: cs, a => keyN bs cs (a * 4 + (c + 1))
  | false :: bs, _ :: cs, a => keyN bs cs a
  | _, _, a => a
def okB : List Bool → List Bool → Bool
  | true :: bs, _ :: ms => okB bs ms
  | false :: bs, true :: _ => false
  | false :: bs, false :: ms => okB bs ms
  | _, _ => true
def allMem (l : List Nat) : List Nat → Bool
  | [] => true
  | x :: r => if memB x l then allMem l r else false
def chkC (k : Nat) (nm : List Bool) (n : Nat) : Bool :=
  let fs := ((dat k).filter fun d => okB nm d.2).map fun d => keyN nm d.1 0
  (fs.length == n) && nodB fs && allMem fs ((dat k).map fun d => keyN nm d.1 0)
def nmOf (r : List Nat) (k : Nat) : List Bool := (pairs k).map fun pq => nrB r pq.1 pq.2
def chk (k : Nat) (r : List Nat) : Bool :=
  recB r k (tab r k k) && (tab r k k).all (fun row => row.all fun x => Nat.blt x.2 18446744073709551616) && chkC k (nmOf r k) (tW (tab r k k) 0 k)
def codes (s : List Nat) : List Nat := (pairs s.length).map fun pq => stand (spans s) pq.1 pq.2
def leftM (ab : List (Option Nat)) : List Bool := (pairs ab.length).map fun pq => decide (ab.getD pq.1 none = some pq.2)

set_option maxRecDepth 100000
set_option linter.unusedVariables false
def shpOk (k : Nat) : Bool := (shapes (k + 1)).all fun s => Nat.beq s.length k && fairOf s && Nat.beq (aboveOf s).length k && (aboveOf s).all fun o => match o with | none => true | some x => Nat.blt x k
def chkE (k : Nat) : Bool := chk k (List.replicate k 0) && Nat.beq (tW (tab (List.replicate k 0) k k) 0 k) 1 && chk k ((List.range k).map fun p => k - 1 - p) && Nat.beq (tW (tab ((List.range k).map fun p => k - 1 - p) k k) 0 k) (shapes (k + 1)).length
theorem shp_ok : (List.range 7).all shpOk = true := by decide +kernel
theorem dat_ok : (List.range 7).all (fun k => decide (((shapes (k + 1)).map fun s => (codes s, leftM (aboveOf s))) = dat k)) = true := by decide +kernel
theorem chk_e : (List.range 7).all chkE = true := by decide +kernel
theorem chk_0 : (pats 0).all (chk 0) = true := by decide +kernel
theorem chk_1 : (pats 1).all (chk 1) = true := by decide +kernel
theorem chk_2 : (pats 2).all (chk 2) = true := by decide +kernel
theorem chk_3 : (pats 3).all (chk 3) = true := by decide +kernel
theorem chk_4 : (pats 4).all (chk 4) = true := by decide +kernel
theorem chk_5 : (pats 5).all (chk 5) = true := by decide +kernel
theorem chk_6_0 : (((pats 6).drop 0).take 12).all (chk 6) = true := by decide +kernel
theorem chk_6_1 : (((pats 6).drop 12).take 12).all (chk 6) = true := by decide +kernel
theorem chk_6_2 : (((pats 6).drop 24).take 12).all (chk 6) = true := by decide +kernel
theorem chk_6_3 : (((pats 6).drop 36).take 12).all (chk 6) = true := by decide +kernel
theorem chk_6_4 : (((pats 6).drop 48).take 12).all (chk 6) = true := by decide +kernel
theorem chk_6_5 : (((pats 6).drop 60).take 12).all (chk 6) = true := by decide +kernel
theorem chk_6_6 : (((pats 6).drop 72).take 12).all (chk 6) = true := by decide +kernel
theorem chk_6_7 : (((pats 6).drop 84).take 12).all (chk 6) = true := by decide +kernel
theorem chk_6_8 : (((pats 6).drop 96).take 12).all (chk 6) = true := by decide +kernel
theorem chk_6_9 : (((pats 6).drop 108).take 12).all (chk 6) = true := by decide +kernel
theorem chk_6_10 : (((pats 6).drop 120).take 12).all (chk 6) = true := by decide +kernel
end HS

set_option Elab.async false
set_option linter.all false
set_option maxRecDepth 100000
set_option maxHeartbeats 4000000
namespace HS
open PySem PySem.Spec PyProof.Rows L2 Evl
/-! pairs -/
theorem mem_pairs {k : Nat} {x : Nat × Nat} : x ∈ pairs k ↔ x.1 < x.2 ∧ x.2 < k := by
  obtain ⟨p, q⟩ := x
  unfold pairs
  rw [List.mem_flatMap]
  constructor
  · rintro ⟨i, hi, hx⟩
    obtain ⟨j, hj, e⟩ := List.mem_map.mp hx
    injection e with e1 e2
    subst e1 e2
    rw [List.mem_range'_1] at hj
    rw [List.mem_range] at hi
    exact ⟨by show _ < _; omega, by show _ < _; omega⟩
  · rintro ⟨h1, h2⟩
    have h1 : p < q := h1
    have h2 : q < k := h2
    refine ⟨p, List.mem_range.mpr (by omega), List.mem_map.mpr ⟨q, ?_, rfl⟩⟩
    rw [List.mem_range'_1]
    omega
/-! the look's parts -/
theorem okB_all {α : Type} (b c : α → Bool) : ∀ l : List α, okB (l.map b) (l.map c) = l.all fun x => b x || !c x
  | [] => rfl
  | x :: r => by
    rw [List.map_cons, List.map_cons, List.all_cons]
    cases hb : b x with
    | true => rw [okB, Bool.true_or, Bool.true_and, okB_all b c r]
    | false =>
      cases hc : c x with
      | true => rfl
      | false => rw [okB, okB_all b c r]; rfl
def numA (a : Nat) (l : List Nat) : Nat := l.foldl (fun a c => a * 4 + (c + 1)) a
theorem keyN_num {α : Type} (b : α → Bool) (c : α → Nat) : ∀ (l : List α) (a : Nat), keyN (l.map b) (l.map c) a = numA a ((l.filter b).map c)
  | [], a => rfl
  | x :: r, a => by
    rw [List.map_cons, List.map_cons, List.filter_cons]
    cases hb : b x with
    | true => rw [keyN, keyN_num b c r, if_pos rfl]; rfl
    | false => rw [keyN, keyN_num b c r, if_neg (by decide)]
theorem numA_snoc (a : Nat) (l : List Nat) (c : Nat) : numA a (l ++ [c]) = numA a l * 4 + (c + 1) := by
  unfold numA
  rw [List.foldl_append]
  rfl
def numR : List Nat → Nat
  | [] => 0
  | c :: r => numR r * 4 + (c + 1)
theorem numA_rev : ∀ l : List Nat, numA 0 l.reverse = numR l
  | [] => rfl
  | c :: r => by rw [List.reverse_cons, numA_snoc, numA_rev r, numR]
theorem numR_inj : ∀ {l l' : List Nat}, (∀ c ∈ l, c < 3) → (∀ c ∈ l', c < 3) → numR l = numR l' → l = l'
  | [], [], _, _, _ => rfl
  | [], c :: r, _, _, h => by rw [numR, numR] at h; omega
  | c :: r, [], _, _, h => by rw [numR, numR] at h; omega
  | c :: r, c' :: r', h1, h2, h => by
    rw [numR, numR] at h
    have a := h1 c List.mem_cons_self
    have b := h2 c' List.mem_cons_self
    have e : c = c' := by omega
    subst e
    rw [numR_inj (fun x hx => h1 x (List.mem_cons_of_mem _ hx)) (fun x hx => h2 x (List.mem_cons_of_mem _ hx)) (by omega)]
theorem numA_inj {l l' : List Nat} (h1 : ∀ c ∈ l, c < 3) (h2 : ∀ c ∈ l', c < 3) (h : numA 0 l = numA 0 l') : l = l' := by
  have e1 := numA_rev l.reverse
  have e2 := numA_rev l'.reverse
  rw [List.reverse_reverse] at e1 e2
  have := numR_inj (l := l.reverse) (l' := l'.reverse) (fun c hc => h1 c (List.mem_reverse.mp hc)) (fun c hc => h2 c (List.mem_reverse.mp hc)) (by rw [← e1, ← e2, h])
  exact List.reverse_inj.mp this
theorem stand_lt (sp : List (Nat × Nat)) (p q : Nat) : stand sp p q < 3 := by
  unfold stand
  by_cases h : (sp.getD p (0, 0)).1 ≤ q ∧ q < (sp.getD p (0, 0)).2
  · rw [if_pos h]; decide
  · rw [if_neg h]
    by_cases h : (sp.getD q (0, 0)).1 ≤ p ∧ p < (sp.getD q (0, 0)).2
    · rw [if_pos h]; decide
    · rw [if_neg h]; decide
theorem key_lt {r s : List Nat} : ∀ c ∈ key r s, c < 3 := by
  intro c hc
  unfold key at hc
  obtain ⟨x, _, rfl⟩ := List.mem_map.mp hc
  exact stand_lt _ _ _
theorem st_01 : ¬ (stS 0 = stS 1) := by decide +kernel
theorem st_02 : ¬ (stS 0 = stS 2) := by decide +kernel
theorem st_12 : ¬ (stS 1 = stS 2) := by decide +kernel
theorem stS_inj {a b : Nat} (ha : a < 3) (hb : b < 3) (h : stS a = stS b) : a = b := by
  have : a = 0 ∨ a = 1 ∨ a = 2 := by omega
  have : b = 0 ∨ b = 1 ∨ b = 2 := by omega
  rcases ‹a = 0 ∨ _› with rfl | rfl | rfl <;> rcases ‹b = 0 ∨ _› with rfl | rfl | rfl <;> first | rfl | exact absurd h st_01 | exact absurd h.symm st_01 | exact absurd h st_02 | exact absurd h.symm st_02 | exact absurd h st_12 | exact absurd h.symm st_12
def keyV (r s : List Nat) : List Key := (key r s).map fun c => Sum.inr (stS c)
theorem map_inj_on {α β : Type} {f : α → β} : ∀ {l l' : List α}, (∀ a ∈ l, ∀ b ∈ l', f a = f b → a = b) → l.map f = l'.map f → l = l'
  | [], [], _, _ => rfl
  | [], b :: r, _, h => by cases h
  | a :: r, [], _, h => by cases h
  | a :: r, b :: r', hf, h => by
    rw [List.map_cons, List.map_cons] at h
    injection h with h1 h2
    rw [hf a List.mem_cons_self b List.mem_cons_self h1, map_inj_on (fun x hx y hy => hf x (List.mem_cons_of_mem _ hx) y (List.mem_cons_of_mem _ hy)) h2]
theorem keyV_inj {r s s' : List Nat} (h : keyV r s = keyV r s') : key r s = key r s' := by
  unfold keyV at h
  refine map_inj_on (fun a ha b hb e => ?_) h
  injection e with e
  exact stS_inj (key_lt a ha) (key_lt b hb) e
theorem keyN_key {r s : List Nat} {k : Nat} (hs : s.length = k) : keyN (nmOf r k) (codes s) 0 = numA 0 (key r s) := by
  subst hs
  exact keyN_num _ _ _ _
/-! lists of numbers -/
theorem memB_iff {x : Nat} : ∀ {l : List Nat}, memB x l = true ↔ x ∈ l
  | [] => by simp [memB]
  | y :: l => by
    rw [memB, List.mem_cons]
    cases h : Nat.beq x y with
    | true => rw [if_pos rfl]; exact ⟨fun _ => .inl (Nat.eq_of_beq_eq_true h), fun _ => rfl⟩
    | false =>
      rw [if_neg (by decide), memB_iff]
      have : x ≠ y := Nat.ne_of_beq_eq_false h
      exact ⟨.inr, fun h => h.resolve_left this⟩
theorem nodB_iff : ∀ {l : List Nat}, nodB l = true → l.Nodup
  | [], _ => List.nodup_nil
  | x :: l, h => by
    rw [nodB] at h
    cases hm : memB x l with
    | true => rw [hm, if_pos rfl] at h; cases h
    | false =>
      rw [hm, if_neg (by decide)] at h
      exact List.nodup_cons.mpr ⟨fun hx => (by rw [memB_iff.mpr hx] at hm; cases hm), nodB_iff h⟩
theorem allMem_mem {l : List Nat} : ∀ {ks : List Nat}, allMem l ks = true → ∀ x ∈ ks, x ∈ l
  | [], _, x, hx => by cases hx
  | y :: r, h, x, hx => by
    rw [allMem] at h
    cases hm : memB y l with
    | false => rw [hm, if_neg (by decide)] at h; cases h
    | true =>
      rw [hm, if_pos rfl] at h
      rcases List.mem_cons.mp hx with rfl | hx
      · exact memB_iff.mp hm
      · exact allMem_mem h x hx
/-! the dict's length -/
section
variable {κ : Type} [DecidableEq κ]
def dkeys (acc : List κ) : List κ → List κ
  | [] => acc
  | k :: r => dkeys (if k ∈ acc then acc else acc ++ [k]) r
theorem dkeys_nd : ∀ {l acc : List κ}, acc.Nodup → (dkeys acc l).Nodup
  | [], _, h => h
  | k :: r, acc, h => by
    rw [dkeys]
    refine dkeys_nd ?_
    by_cases hk : k ∈ acc
    · rw [if_pos hk]; exact h
    · rw [if_neg hk]
      refine List.nodup_append.mpr ⟨h, List.nodup_cons.mpr ⟨by simp, List.nodup_nil⟩, ?_⟩
      intro a ha b hb e
      rw [List.mem_singleton] at hb
      exact hk (by rw [← hb, ← e]; exact ha)
theorem dkeys_mem {x : κ} : ∀ {l acc : List κ}, x ∈ dkeys acc l ↔ x ∈ acc ∨ x ∈ l
  | [], acc => by simp [dkeys]
  | k :: r, acc => by
    rw [dkeys, dkeys_mem]
    by_cases hk : k ∈ acc
    · rw [if_pos hk, List.mem_cons]
      constructor
      · rintro (h | h)
        · exact .inl h
        · exact .inr (.inr h)
      · rintro (h | h | h)
        · exact .inl h
        · exact .inl (h ▸ hk)
        · exact .inr h
    · rw [if_neg hk, List.mem_append, List.mem_singleton, List.mem_cons, or_assoc]
theorem putK_keys (kvs : List (κ × V)) (k : κ) (v : V) : (putK kvs k v).map (·.1) = if k ∈ kvs.map (·.1) then kvs.map (·.1) else kvs.map (·.1) ++ [k] := by
  unfold putK
  by_cases h : k ∈ kvs.map (·.1)
  · rw [if_pos h, if_pos, List.map_map]
    · refine List.map_congr_left fun kv _ => ?_
      show (if kv.1 = k then (kv.1, v) else kv).1 = kv.1
      by_cases e : kv.1 = k
      · rw [if_pos e]
      · rw [if_neg e]
    · obtain ⟨kv, hkv, e⟩ := List.mem_map.mp h
      exact List.any_eq_true.mpr ⟨kv, hkv, decide_eq_true e⟩
  · rw [if_neg h, if_neg, List.map_append]
    · rfl
    · intro ha
      obtain ⟨kv, hkv, e⟩ := List.any_eq_true.mp ha
      exact h (List.mem_map.mpr ⟨kv, hkv, of_decide_eq_true e⟩)
theorem fold_keys {α : Type} (f : α → κ) : ∀ (l : List α) (kvs : List (κ × V)), (l.foldl (fun acc s => putK acc (f s) (.bl true)) kvs).map (·.1) = dkeys (kvs.map (·.1)) (l.map f)
  | [], _ => rfl
  | s :: r, kvs => by
    rw [List.foldl_cons, fold_keys f r, putK_keys, List.map_cons, dkeys]
theorem len_of_same {l l' : List κ} (h : l.Nodup) (h' : l'.Nodup) (m : ∀ x, x ∈ l ↔ x ∈ l') : l.length = l'.length :=
  ((List.perm_ext_iff_of_nodup h h').mpr m).length_eq
end
def foundOf (r : List Nat) (ss : List (List Nat)) : List (List Key × V) := ss.foldl (fun acc s => putK acc (keyV r s) (.bl true)) []
theorem foundOf_keys (r : List Nat) (ss : List (List Nat)) : (foundOf r ss).map (·.1) = dkeys [] (ss.map (keyV r)) := fold_keys _ _ _
theorem found_len {r : List Nat} {ss fs : List (List Nat)} {k n : Nat} (hl : ∀ s ∈ ss, s.length = k) (hsub : ∀ s ∈ fs, s ∈ ss)
    (nd : (fs.map fun s => keyN (nmOf r k) (codes s) 0).Nodup) (al : ∀ s ∈ ss, keyN (nmOf r k) (codes s) 0 ∈ fs.map fun s => keyN (nmOf r k) (codes s) 0) (hn : fs.length = n) : (foundOf r ss).length = n := by
  have e := congrArg List.length (foundOf_keys r ss)
  rw [List.length_map] at e
  rw [e, ← hn, ← List.length_map (as := fs) (f := keyV r)]
  refine len_of_same (dkeys_nd List.nodup_nil) ?_ (fun x => ?_)
  · rw [List.nodup_iff_pairwise_ne, List.pairwise_map] at nd ⊢
    refine nd.imp_of_mem fun {a b} ha hb h e => h ?_
    rw [keyN_key (hl a (hsub a ha)), keyN_key (hl b (hsub b hb)), keyV_inj e]
  · rw [dkeys_mem]
    constructor
    · rintro (h | h)
      · cases h
      · obtain ⟨s, hs, rfl⟩ := List.mem_map.mp h
        obtain ⟨s', hs', e'⟩ := List.mem_map.mp (al s hs)
        refine List.mem_map.mpr ⟨s', hs', ?_⟩
        rw [keyN_key (hl s hs), keyN_key (hl s' (hsub s' hs'))] at e'
        unfold keyV
        rw [numA_inj key_lt key_lt e']
    · intro h
      obtain ⟨s, hs, rfl⟩ := List.mem_map.mp h
      exact .inr (List.mem_map.mpr ⟨s, hsub s hs, rfl⟩)
/-! the forms -/
theorem formI_ok {A : List Int} {m : Int} {r s : List Nat} (hn : NearR A m r) (ha : (aboveOf s).length = A.length) (hb : ∀ (o x : Nat), (aboveOf s)[o]? = some (some x) → x < A.length) : formI A m (aboveOf s) = okB (nmOf r A.length) (leftM (aboveOf s)) := by
  generalize aboveOf s = ab at *
  unfold leftM nmOf
  rw [ha, okB_all, Bool.eq_iff_iff]
  unfold formI
  rw [List.all_eq_true, List.all_eq_true]
  constructor
  · intro h x hx
    obtain ⟨h1, h2⟩ := mem_pairs.mp hx
    by_cases e : ab.getD x.1 none = some x.2
    · have hm : (x.2, x.1) ∈ stepsL ab := by
        refine List.mem_filterMap.mpr ⟨x.1, List.mem_range.mpr (by omega), ?_⟩
        rw [e]
        rfl
      have := h _ hm
      dsimp only at this
      rw [decide_eq_true h1, Bool.true_and, Bool.not_eq_true', decide_eq_false_iff_not] at this
      rw [(hn x.1 x.2 h1 h2).mp (by omega)]
      rfl
    · rw [decide_eq_false e]
      simp
  · intro h x hx
    obtain ⟨h1, h2⟩ := stepsL_lt hx
    by_cases e : x.2 < x.1
    · have h3 := hb _ _ h2
      have := h (x.2, x.1) (mem_pairs.mpr ⟨e, h3⟩)
      have e2 : ab.getD x.2 none = some x.1 := by rw [List.getD_eq_getElem?_getD, h2]; rfl
      dsimp only at this
      rw [decide_eq_true e2, Bool.not_true, Bool.or_false] at this
      have hlt := (hn x.2 x.1 e h3).mpr this
      clear this
      rw [decide_eq_true e, Bool.true_and, Bool.not_eq_true', decide_eq_false_iff_not]
      omega
    · rw [decide_eq_false e]
      rfl
/-! the look's answers -/
theorem dat_of {k : Nat} (hk : k < 7) : ((shapes (k + 1)).map fun s => (codes s, leftM (aboveOf s))) = dat k :=
  of_decide_eq_true (List.all_eq_true.mp dat_ok k (List.mem_range.mpr hk))
theorem shp_of {k : Nat} (hk : k < 7) {s : List Nat} (hs : s ∈ shapes (k + 1)) : s.length = k ∧ OkS s (aboveOf s) := by
  have h := List.all_eq_true.mp (List.all_eq_true.mp shp_ok k (List.mem_range.mpr hk)) s hs
  rw [Bool.and_eq_true, Bool.and_eq_true, Bool.and_eq_true] at h
  obtain ⟨⟨⟨h1, h2⟩, h3⟩, h4⟩ := h
  have h1 := Nat.eq_of_beq_eq_true h1
  have h3 := Nat.eq_of_beq_eq_true h3
  refine ⟨h1, ⟨by omega, ?_, by omega, fun o x hx => ?_⟩⟩
  · unfold fairOf at h2
    unfold aboveOf
    cases hj : joins s with
    | none => rw [hj] at h2; cases h2
    | some R =>
      rw [hj] at h2
      obtain ⟨ab, f⟩ := R
      cases f with
      | true => rfl
      | false => cases h2
  · have := List.all_eq_true.mp h4 _ (List.mem_of_getElem? hx)
    rw [h1]
    exact Nat.le_of_ble_eq_true this
theorem chkC_of {A : List Int} {m : Int} {r : List Nat} {n : Nat} (hk : A.length < 7) (hn : NearR A m r) (h : chkC A.length (nmOf r A.length) n = true) :
    (foundOf r (shapes (A.length + 1))).length = n ∧ ((shapes (A.length + 1)).filter fun s => formI A m (aboveOf s)).length = n := by
  unfold chkC at h
  dsimp only at h
  rw [Bool.and_eq_true, Bool.and_eq_true, ← dat_of hk, List.filter_map, List.map_map, List.map_map, List.length_map] at h
  obtain ⟨⟨h1, h2⟩, h3⟩ := h
  have ef : ((shapes (A.length + 1)).filter fun s => formI A m (aboveOf s)) = (shapes (A.length + 1)).filter ((fun d => okB (nmOf r A.length) d.2) ∘ fun s => (codes s, leftM (aboveOf s))) := by
    refine List.filter_congr fun s hs => ?_
    obtain ⟨e, ok⟩ := shp_of hk hs
    exact formI_ok hn (by rw [ok.abl, e]) fun o x hx => e ▸ ok.abb o x hx
  rw [beq_iff_eq] at h1
  refine ⟨found_len (fun s hs => (shp_of hk hs).1) (fun s hs => (List.mem_filter.mp hs).1) (nodB_iff h2) (fun s hs => ?_) h1, by rw [ef]; exact h1⟩
  exact allMem_mem h3 _ (List.mem_map.mpr ⟨s, hs, rfl⟩)
theorem tab_bd {t : Tab} (h : (t.all fun row => row.all fun x => Nat.blt x.2 18446744073709551616) = true) (i j : Nat) : tA t i j < 18446744073709551616 := by
  unfold tA
  rw [List.getD_eq_getElem?_getD (l := t)]
  cases h1 : t[j - i]? with
  | none => exact (by decide : (0 : Nat) < 18446744073709551616)
  | some row =>
    show ((row.getD i (0, 0))).2 < _
    rw [List.getD_eq_getElem?_getD]
    cases h2 : row[i]? with
    | none => exact (by decide : (0 : Nat) < 18446744073709551616)
    | some x =>
      exact Nat.le_of_ble_eq_true (List.all_eq_true.mp (List.all_eq_true.mp h _ (List.mem_of_getElem? h1)) _ (List.mem_of_getElem? h2))
theorem rec_of {r : List Nat} {k : Nat} (h : recB r k (tab r k k) = true) (hb : ((tab r k k).all fun row => row.all fun x => Nat.blt x.2 18446744073709551616) = true) : Rec r k (tW (tab r k k)) (tA (tab r k k)) := by
  generalize tab r k k = t at *
  have key : ∀ i, i ≤ k → (tW t i i = 1 ∧ tA t i i = 1) ∧ ∀ j, i < j → j ≤ k → tW t i j = sW (tW t) (tA t) i j ∧ tA t i j = sA r k (tW t) (tA t) i j := by
    intro i hi
    have := List.all_eq_true.mp h i (List.mem_range.mpr (by omega))
    rw [Bool.and_eq_true, Bool.and_eq_true, beq_iff_eq, beq_iff_eq] at this
    refine ⟨this.1, fun j h1 h2 => ?_⟩
    have := List.all_eq_true.mp this.2 j (by rw [List.mem_range'_1]; omega)
    rw [Bool.and_eq_true, beq_iff_eq, beq_iff_eq] at this
    exact this
  refine ⟨fun i j h1 h2 => ?_, fun i j h1 h2 => ?_, tab_bd hb⟩
  · unfold wV
    by_cases e : i = j
    · rw [if_pos e]; subst e; exact (key i h2).1.1
    · rw [if_neg e]; exact ((key i (by omega)).2 j (by omega) h2).1
  · unfold aV
    by_cases e : i = j
    · rw [if_pos e]; subst e; exact (key i h2).1.2
    · rw [if_neg e]; exact ((key i (by omega)).2 j (by omega) h2).2
/-! what the law needs -/
def GoodM (A : List Int) (m : Int) (c : Nat) : Prop := ∃ (r : List Nat) (W B : Nat → Nat → Nat), NearR A m r ∧ Rec r A.length W B ∧ W 0 A.length = c ∧ (foundOf r (shapes (A.length + 1))).length = c ∧ ((shapes (A.length + 1)).filter fun s => formI A m (aboveOf s)).length = c
theorem good_of {A : List Int} {m : Int} {r : List Nat} (hk : A.length < 7) (hn : NearR A m r) (h : chk A.length r = true) : GoodM A m (tW (tab r A.length A.length) 0 A.length) := by
  unfold chk at h
  rw [Bool.and_eq_true, Bool.and_eq_true] at h
  obtain ⟨⟨h1, h2⟩, h3⟩ := h
  obtain ⟨h4, h5⟩ := chkC_of hk hn h3
  exact ⟨r, _, _, hn, rec_of h1 h2, rfl, h4, h5⟩
end HS

set_option Elab.async false
set_option linter.all false
set_option maxRecDepth 100000
set_option maxHeartbeats 4000000
namespace HS
open PySem PySem.Spec PyProof.Rows L2 Evl
theorem mem_part {α : Type} {l : List α} {x : α} {n c : Nat} (hc : 0 < c) (hl : l.length ≤ c * n) (hx : x ∈ l) : ∃ i, i < n ∧ x ∈ (l.drop (c * i)).take c := by
  obtain ⟨j, hj⟩ := List.getElem?_of_mem hx
  have hj' := (List.getElem?_eq_some_iff.mp hj).1
  have h1 := Nat.div_add_mod j c
  have h2 := Nat.mod_lt j hc
  refine ⟨j / c, Nat.div_lt_of_lt_mul (by omega), List.mem_iff_getElem?.mpr ⟨j % c, ?_⟩⟩
  rw [List.getElem?_take, if_pos h2, List.getElem?_drop, h1]
  exact hj
theorem pats6_len : Nat.ble (pats 6).length (12 * 11) = true := by decide +kernel
theorem chk_6 {r : List Nat} (hr : r ∈ pats 6) : chk 6 r = true := by
  obtain ⟨i, hi, h⟩ := mem_part (n := 11) (by decide : 0 < 12) (Nat.le_of_ble_eq_true pats6_len) hr
  match i, hi, h with
  | 0, _, h => exact List.all_eq_true.mp chk_6_0 r h
  | 1, _, h => exact List.all_eq_true.mp chk_6_1 r h
  | 2, _, h => exact List.all_eq_true.mp chk_6_2 r h
  | 3, _, h => exact List.all_eq_true.mp chk_6_3 r h
  | 4, _, h => exact List.all_eq_true.mp chk_6_4 r h
  | 5, _, h => exact List.all_eq_true.mp chk_6_5 r h
  | 6, _, h => exact List.all_eq_true.mp chk_6_6 r h
  | 7, _, h => exact List.all_eq_true.mp chk_6_7 r h
  | 8, _, h => exact List.all_eq_true.mp chk_6_8 r h
  | 9, _, h => exact List.all_eq_true.mp chk_6_9 r h
  | 10, _, h => exact List.all_eq_true.mp chk_6_10 r h
theorem chk_ok {k : Nat} (hk : k < 7) {r : List Nat} (hr : r ∈ pats k) : chk k r = true := by
  match k, hk, hr with
  | 0, _, hr => exact List.all_eq_true.mp chk_0 r hr
  | 1, _, hr => exact List.all_eq_true.mp chk_1 r hr
  | 2, _, hr => exact List.all_eq_true.mp chk_2 r hr
  | 3, _, hr => exact List.all_eq_true.mp chk_3 r hr
  | 4, _, hr => exact List.all_eq_true.mp chk_4 r hr
  | 5, _, hr => exact List.all_eq_true.mp chk_5 r hr
  | 6, _, hr => exact chk_6 hr
/-! the pattern of rising places -/
def cnt (a m : Int) (A : List Int) : Nat := (A.takeWhile fun x => decide (x - a < m)).length
def pat (m : Int) : List Int → List Nat
  | [] => []
  | a :: A => cnt a m A :: pat m A
theorem pat_cons (m a : Int) (A : List Int) : pat m (a :: A) = cnt a m A :: pat m A := rfl
theorem cnt_iff {a m : Int} : ∀ {A : List Int}, A.Pairwise (· < ·) → ∀ {q : Nat}, q < A.length → (A.getD q 0 - a < m ↔ q < cnt a m A)
  | [], _, q, h => by simp at h
  | x :: A, hp, q, h => by
    rw [List.pairwise_cons] at hp
    unfold cnt
    by_cases hx : x - a < m
    · rw [List.takeWhile_cons, if_pos (decide_eq_true hx), List.length_cons]
      cases q with
      | zero => exact ⟨fun _ => Nat.succ_pos _, fun _ => hx⟩
      | succ q =>
        have := cnt_iff (a := a) (m := m) hp.2 (q := q) (by simpa using h)
        rw [List.getD_cons_succ, this, Nat.add_lt_add_iff_right]
        rfl
    · rw [List.takeWhile_cons, if_neg (by simpa using hx)]
      refine ⟨fun hq => absurd ?_ hx, fun hq => absurd hq (Nat.not_lt_zero _)⟩
      cases q with
      | zero => exact hq
      | succ q =>
        rw [List.getD_cons_succ] at hq
        have h' : q < A.length := by simpa using h
        have := hp.1 (A.getD q 0) (by rw [List.getD_eq_getElem?_getD, List.getElem?_eq_getElem h']; exact List.getElem_mem h')
        omega
theorem cnt_mono {a b m : Int} (h : a ≤ b) : ∀ A : List Int, cnt a m A ≤ cnt b m A
  | [] => Nat.le_refl _
  | x :: A => by
    unfold cnt
    by_cases hx : x - a < m
    · rw [List.takeWhile_cons, if_pos (decide_eq_true hx), List.takeWhile_cons, if_pos (decide_eq_true (by omega)), List.length_cons, List.length_cons]
      exact Nat.succ_le_succ (cnt_mono h A)
    · rw [List.takeWhile_cons, if_neg (by simpa using hx)]
      exact Nat.zero_le _
theorem pat_mem {m : Int} : ∀ {A : List Int}, A.Pairwise (· < ·) → pat m A ∈ pats A.length
  | [], _ => List.mem_singleton.mpr rfl
  | [a], _ => List.mem_singleton.mpr rfl
  | a :: b :: A, hp => by
    rw [List.pairwise_cons] at hp
    show cnt a m (b :: A) :: pat m (b :: A) ∈ (pats (A.length + 1)).flatMap fun r => (List.range (r.headD 0 + 2)).map fun h => h :: r
    rw [List.mem_flatMap]
    refine ⟨pat m (b :: A), pat_mem hp.2, List.mem_map.mpr ⟨_, List.mem_range.mpr ?_, rfl⟩⟩
    show cnt a m (b :: A) < cnt b m A + 2
    have h1 : cnt a m (b :: A) ≤ cnt a m A + 1 := by
      unfold cnt
      rw [List.takeWhile_cons]
      by_cases hx : decide (b - a < m) = true
      · rw [if_pos hx, List.length_cons]; exact Nat.le_refl _
      · rw [if_neg hx]; exact Nat.zero_le _
    have h2 := cnt_mono (m := m) (Int.le_of_lt (hp.1 b List.mem_cons_self)) A
    omega
theorem pat_near {m : Int} : ∀ {A : List Int}, A.Pairwise (· < ·) → NearR A m (pat m A)
  | [], _ => fun p q _ h => by simp at h
  | a :: A, hp => fun p q hpq hq => by
    rw [List.pairwise_cons] at hp
    cases q with
    | zero => omega
    | succ q =>
      have hq' : q < A.length := by simpa using hq
      cases p with
      | zero =>
        have := cnt_iff (a := a) (m := m) hp.2 hq'
        rw [List.getD_cons_succ, List.getD_cons_zero, this]
        unfold nrB
        rw [pat_cons, List.getD_cons_zero, Nat.ble_eq]
        omega
      | succ p =>
        have := pat_near (m := m) hp.2 p q (by omega) hq'
        rw [List.getD_cons_succ, List.getD_cons_succ, this]
        unfold nrB
        rw [pat_cons, List.getD_cons_succ, Nat.ble_eq, Nat.ble_eq]
        omega
theorem sum_take {L : List Int} (h : ∀ x ∈ L, 1 ≤ x) : ∀ {i j : Nat}, i < j → j ≤ L.length → (L.take i).sum < (L.take j).sum := by
  induction L with
  | nil => intro i j h1 h2; simp at h2; omega
  | cons x L ih =>
    intro i j h1 h2
    cases j with
    | zero => omega
    | succ j =>
      have hx := h x List.mem_cons_self
      have h2' : j ≤ L.length := by simpa using h2
      rw [List.take_succ_cons, List.sum_cons]
      cases i with
      | zero =>
        rw [List.take_zero, List.sum_nil]
        cases j with
        | zero => rw [List.take_zero, List.sum_nil]; omega
        | succ j =>
          have := ih (fun y hy => h y (List.mem_cons_of_mem _ hy)) (Nat.succ_pos j) h2'
          rw [List.take_zero, List.sum_nil] at this
          show 0 < x + (L.take (j + 1)).sum
          have : 0 < (L.take (j + 1)).sum := this
          omega
      | succ i =>
        rw [List.take_succ_cons, List.sum_cons]
        have := ih (fun y hy => h y (List.mem_cons_of_mem _ hy)) (by omega : i < j) h2'
        omega
theorem places_up {L : List Int} (ok : OkL L) : (placesI L).Pairwise (· < ·) := by
  unfold placesI
  rw [List.pairwise_map]
  refine List.Pairwise.imp_of_mem (R := (· < ·)) (fun {i j} hi hj hij => ?_) List.pairwise_lt_range
  rw [List.mem_range] at hi hj
  exact sum_take (fun x hx => (ok.all x hx).1) (by omega) (by omega)
theorem good_any {L : List Int} (ok : OkL L) (h7 : L.length ≤ 7) (m : Int) : ∃ c, GoodM (placesI L) m c := by
  have hk : (placesI L).length < 7 := by rw [placesI_len]; have := ok.one; omega
  exact ⟨_, good_of hk (pat_near (places_up ok)) (chk_ok hk (pat_mem (places_up ok)))⟩
theorem chk_ends {k : Nat} (hk : k < 7) : chk k (List.replicate k 0) = true ∧ tW (tab (List.replicate k 0) k k) 0 k = 1 ∧ chk k ((List.range k).map fun p => k - 1 - p) = true ∧ tW (tab ((List.range k).map fun p => k - 1 - p) k k) 0 k = (shapes (k + 1)).length := by
  have h := List.all_eq_true.mp chk_e k (List.mem_range.mpr hk)
  unfold chkE at h
  rw [Bool.and_eq_true, Bool.and_eq_true, Bool.and_eq_true] at h
  obtain ⟨⟨⟨h1, h2⟩, h3⟩, h4⟩ := h
  exact ⟨h1, Nat.eq_of_beq_eq_true h2, h3, Nat.eq_of_beq_eq_true h4⟩
theorem up_lt {A : List Int} (h : A.Pairwise (· < ·)) {p q : Nat} (hp : p < q) (hq : q < A.length) : A.getD p 0 < A.getD q 0 := by
  rw [List.getD_eq_getElem?_getD, List.getD_eq_getElem?_getD, List.getElem?_eq_getElem hq, List.getElem?_eq_getElem (by omega)]
  exact (List.pairwise_iff_getElem.mp h) p q (by omega) hq hp
theorem good_one {L : List Int} (ok : OkL L) (h7 : L.length ≤ 7) : GoodM (placesI L) 1 1 := by
  have hk : (placesI L).length < 7 := by rw [placesI_len]; have := ok.one; omega
  obtain ⟨h1, h2, _, _⟩ := chk_ends hk
  have := good_of (m := 1) hk (fun p q hpq hq => ?_) h1
  · rw [h2] at this
    exact this
  · have := up_lt (places_up ok) hpq hq
    unfold nrB
    have e : (List.replicate (placesI L).length 0).getD p 0 = 0 := by
      rw [List.getD_eq_getElem?_getD, List.getElem?_replicate]
      split <;> rfl
    rw [Nat.ble_eq, e]
    omega
theorem good_most {L : List Int} (ok : OkL L) (h7 : L.length ≤ 7) : GoodM (placesI L) 1000000000 (shapes ((placesI L).length + 1)).length := by
  have hk : (placesI L).length < 7 := by rw [placesI_len]; have := ok.one; omega
  obtain ⟨_, _, h1, h2⟩ := chk_ends hk
  have := good_of (m := 1000000000) hk (fun p q hpq hq => ?_) h1
  · rw [h2] at this
    exact this
  · have b := placesI_lt ok hpq hq
    unfold nrB
    have e : ((List.range (placesI L).length).map fun p => (placesI L).length - 1 - p).getD p 0 = (placesI L).length - 1 - p := by
      rw [List.getD_eq_getElem?_getD, List.getElem?_map, List.getElem?_range (by omega)]
      rfl
    rw [Nat.ble_eq, e]
    omega
end HS

set_option Elab.async false
set_option linter.all false
set_option maxRecDepth 100000
set_option maxHeartbeats 4000000
namespace HS
open PySem PySem.Spec PyProof.Rows L2 Evl
/-! ### the key of a shape: [near[pair] for pair in sorted(list(near))] -/
theorem Paired.getL {α β : Type} {F : α → β → Prop} : ∀ {l : List α} {m : List β} {i : Nat} {a : α}, Paired F l m → l[i]? = some a → ∃ b, m[i]? = some b ∧ F a b
  | _, _, _, _, .nil, e => by simp at e
  | _, _, 0, _, .cons r _, e => by
    simp only [List.getElem?_cons_zero, Option.some.injEq] at e
    subst e
    exact ⟨_, rfl, r⟩
  | _, _, i + 1, _, .cons _ h, e => by
    simp only [List.getElem?_cons_succ] at e ⊢
    exact Paired.getL h e
def cd (x : Nat × Nat) : Nat := x.1 * 64 + x.2
theorem pairs_up : (List.range 7).all (fun k => decide ((pairs k).Pairwise fun x y => cd x < cd y)) = true := by decide +kernel
theorem pairs_bd : (List.range 7).all (fun k => Nat.ble (pairs k).length 15 && (pairs k).all fun x => Nat.blt x.1 64 && Nat.blt x.2 64) = true := by decide +kernel
theorem near_up {r : List Nat} {k : Nat} (hk : k < 7) : (nearP r k).Pairwise fun x y => cd x < cd y :=
  List.Pairwise.filter _ (of_decide_eq_true (List.all_eq_true.mp pairs_up k (List.mem_range.mpr hk)))
theorem near_bd {r : List Nat} {k : Nat} (hk : k < 7) : (nearP r k).length ≤ 15 ∧ ∀ x ∈ nearP r k, x.1 < 64 ∧ x.2 < 64 := by
  have := List.all_eq_true.mp pairs_bd k (List.mem_range.mpr hk)
  rw [Bool.and_eq_true] at this
  refine ⟨Nat.le_trans (List.length_filter_le _ _) (Nat.le_of_ble_eq_true this.1), fun x hx => ?_⟩
  have := List.all_eq_true.mp this.2 x (List.mem_filter.mp hx).1
  rw [Bool.and_eq_true] at this
  exact ⟨Nat.le_of_ble_eq_true this.1, Nat.le_of_ble_eq_true this.2⟩
theorem cd_inj {l : List (Nat × Nat)} (h : l.Pairwise fun x y => cd x < cd y) {i j : Nat} {x y : Nat × Nat} (hi : l[i]? = some x) (hj : l[j]? = some y) (e : cd x = cd y) : i = j := by
  rw [List.pairwise_iff_getElem] at h
  obtain ⟨h1, rfl⟩ := List.getElem?_eq_some_iff.mp hi
  obtain ⟨h2, rfl⟩ := List.getElem?_eq_some_iff.mp hj
  rcases Nat.lt_trichotomy i j with c | c | c
  · have := h i j h1 h2 c
    omega
  · exact c
  · have := h j i h2 h1 c
    omega
def kvG (sp : List (Nat × Nat)) (x : Nat × Nat) : List Key × V := (kk x.1 x.2, V.str (stS (stand sp x.1 x.2)))
theorem near_kv (r s : List Nat) : nearKV r s = (nearP r s.length).map (kvG (spans s)) := rfl
theorem kv_get {sp : List (Nat × Nat)} : ∀ {l : List (Nat × Nat)}, (l.Pairwise fun x y => cd x < cd y) → ∀ {i : Nat} {x : Nat × Nat}, l[i]? = some x → valV (l.map (kvG sp)) (kk x.1 x.2) = some (V.str (stS (stand sp x.1 x.2)))
  | [], _, i, x, h => by simp at h
  | y :: l, hp, 0, x, h => by
    simp only [List.getElem?_cons_zero, Option.some.injEq] at h
    subst h
    rw [List.map_cons]
    exact valV_pos rfl
  | y :: l, hp, i + 1, x, h => by
    simp only [List.getElem?_cons_succ] at h
    rw [List.pairwise_cons] at hp
    rw [List.map_cons, valV_neg]
    · exact kv_get hp.2 h
    · intro e
      obtain ⟨e1, e2⟩ := kk_inj e
      have := hp.1 x (List.mem_of_getElem? h)
      unfold cd at this
      omega
def keyS (r s : List Nat) : List V := (key r s).map fun c => V.str (stS c)
theorem key_at (r s : List Nat) : key r s = (nearP r s.length).map fun x => stand (spans s) x.1 x.2 := rfl
theorem el_key {K : PySem.W.Frag} {σ : L2.St} {x0 x1 x2 x3 x4 x5 x6 x7 x8 x10 : Option V} {H : Hp} {d : Addr} {r s : List Nat} (hσ : σ = [x0, x1, x2, x3, x4, x5, x6, x7, x8, some (.ref d), x10]) (hd : H d = some (.dT (nearKV r s))) (hk : s.length < 7) :
    EvL (tLc (iList K (tCB (rSortU K 2 64) (tCons (tCB (fun xs H Q => ∃ d kvs, xs = [V.ref d] ∧ Rd H d (.dT kvs) ∧ ∀ p bs, H p = none → IsKeys H kvs bs → Q (.ref p) (upd H p (.lst (bs.map V.ref)))) (tCons (tVar 9) tNil)) tNil))) (gName 10) tYes (tDGet (tVar 9) (tVar 10)) [10]) σ H (keyS r s) := by
  subst hσ
  intro H0 e0 Q q
  have hd0 := e0 _ _ hd
  refine ⟨_, rfl, d, nearKV r s, rfl, .inl hd0, fun p bs hp hb => ?_⟩
  have hb0 : IsKeys (upd H0 p (.lst (bs.map V.ref))) (nearKV r s) bs := Paired.mapP hb fun kv b hkb => by
    rw [upd_ne (ne_of_none hkb hp)]
    exact hkb
  have e1 : Ex H0 (upd H0 p (.lst (bs.map V.ref))) := Ex.new hp
  have hp1 : upd H0 p (.lst (bs.map V.ref)) p = some (.lst (bs.map V.ref)) := upd_same
  generalize upd H0 p (.lst (bs.map V.ref)) = H1 at hb0 e1 hp1
  rw [near_kv] at hb0
  have up := near_up (r := r) hk
  have bd := near_bd (r := r) hk
  have hd1 := e1 _ _ hd0
  rw [near_kv] at hd1
  have eK : keyS r s = (nearP r s.length).map fun x => V.str (stS (stand (spans s) x.1 x.2)) := by
    unfold keyS
    rw [key_at, List.map_map]
    rfl
  rw [eK] at q
  generalize nearP r s.length = l at hb0 up bd hd1 q
  have bl : bs.length = l.length := by
    have := Paired.length hb0
    rw [List.length_map] at this
    omega
  have at_ : ∀ x ∈ bs.map V.ref, ∃ (b : Addr) (i : Nat) (pq : Nat × Nat), x = .ref b ∧ bs[i]? = some b ∧ l[i]? = some pq ∧ H1 b = some (.tup [.int (pq.1 : Int), .int (pq.2 : Int)]) := by
    intro x hx
    obtain ⟨b, hbm, rfl⟩ := List.mem_map.mp hx
    obtain ⟨i, hi⟩ := List.getElem?_of_mem hbm
    obtain ⟨kv, h1, h2⟩ := Paired.getP hb0 hi
    rw [List.getElem?_map] at h1
    cases hl : l[i]? with
    | none => rw [hl] at h1; cases h1
    | some pq =>
      rw [hl] at h1
      cases h1
      exact ⟨b, i, pq, rfl, hi, hl, h2⟩
  have tI : ∀ {b : Addr} {pq : Nat × Nat}, H1 b = some (.tup [.int (pq.1 : Int), .int (pq.2 : Int)]) → TupI K H1 (.ref b) [(pq.1 : Int), (pq.2 : Int)] := fun h => ⟨_, rfl, SqT.of h⟩
  refine ⟨p, bs.map V.ref, rfl, SqL.of hp1, ?_, fun x hx => ?_, fun ys p2 pm pw np => ?_⟩
  · rw [List.length_map, bl]
    have := bd.1
    omega
  · obtain ⟨b, i, pq, rfl, hi, hl, ht⟩ := at_ x hx
    refine ⟨_, tI ht, rfl, fun m hm => ?_⟩
    have := bd.2 pq (List.mem_of_getElem? hl)
    simp only [List.mem_cons, List.not_mem_nil, or_false] at hm
    rcases hm with rfl | rfl <;> omega
  · have eys : ys = bs.map V.ref := by
      refine List.Perm.eq_of_pairwise (le := fun x y => ∀ (b b' : Addr) (pq pq' : Nat × Nat), x = .ref b → y = .ref b' → H1 b = some (.tup [.int (pq.1 : Int), .int (pq.2 : Int)]) → H1 b' = some (.tup [.int (pq'.1 : Int), .int (pq'.2 : Int)]) → cd pq ≤ cd pq') (fun x y hx hy h1 h2 => ?_) (pw.imp fun {x y} h b b' pq pq' e e' hb hb' => ?_) ?_ pm
      · obtain ⟨b, i, pq, rfl, hi, hl, ht⟩ := at_ x (pm.mem_iff.mp hx)
        obtain ⟨b', j, pq', rfl, hj, hl', ht'⟩ := at_ y hy
        have a1 := h1 _ _ _ _ rfl rfl ht ht'
        have a2 := h2 _ _ _ _ rfl rfl ht' ht
        have : i = j := cd_inj up hl hl' (by omega)
        subst this
        rw [hi] at hj
        cases hj
        rfl
      · subst e e'
        have := h _ _ (tI hb) (tI hb')
        rw [code_pair, code_pair] at this
        unfold cd
        omega
      · rw [List.pairwise_iff_getElem]
        intro i j hi hj hij b b' pq pq' e e' hb hb'
        rw [List.length_map] at hi hj
        rw [List.getElem_map] at e e'
        cases e
        cases e'
        have g : ∀ {i : Nat} (hi : i < bs.length) {pq : Nat × Nat}, H1 bs[i] = some (.tup [.int (pq.1 : Int), .int (pq.2 : Int)]) → ∃ hl : i < l.length, pq = l[i] := by
          intro i hi pq hn
          obtain ⟨kv, h1, h2⟩ := Paired.getP hb0 (List.getElem?_eq_getElem hi)
          refine ⟨by omega, ?_⟩
          rw [List.getElem?_map, List.getElem?_eq_getElem (by omega)] at h1
          cases h1
          rw [hn] at h2
          have := tup2_inj (Option.some.inj h2)
          exact Prod.ext this.1 this.2
        obtain ⟨h1, rfl⟩ := g hi hb
        obtain ⟨h2, rfl⟩ := g hj hb'
        exact Nat.le_of_lt ((List.pairwise_iff_getElem.mp up) i j h1 h2 hij)
    subst eys
    have e2 : Ex H1 (upd H1 p2 (.lst (bs.map V.ref))) := Ex.new np
    have hp2 : upd H1 p2 (.lst (bs.map V.ref)) p2 = some (.lst (bs.map V.ref)) := upd_same
    have np0 : H0 p2 = none := fresh_back e1 np
    generalize upd H1 p2 (.lst (bs.map V.ref)) = H2 at e2 hp2
    have at2 : ∀ (i : Nat) (x : V), (bs.map V.ref)[i]? = some x → ∃ (b : Addr) (pq : Nat × Nat), x = V.ref b ∧ l[i]? = some pq ∧ H1 b = some (.tup [.int (pq.1 : Int), .int (pq.2 : Int)]) := by
      intro i x hx
      rw [List.getElem?_map] at hx
      cases hb : bs[i]? with
      | none => rw [hb] at hx; cases hx
      | some b =>
        rw [hb] at hx
        cases hx
        obtain ⟨kv, h1, h2⟩ := Paired.getP hb0 hb
        rw [List.getElem?_map] at h1
        cases hl : l[i]? with
        | none => rw [hl] at h1; cases h1
        | some pq =>
          rw [hl] at h1
          cases h1
          exact ⟨b, pq, rfl, rfl, h2⟩
    have W := el_lcL (K := K) (σ := [x0, x1, x2, x3, x4, x5, x6, x7, x8, some (.ref d), x10]) (H := H2) (a := p2) (xs := bs.map V.ref) (tl := fun _ H Q => Q (.ref p2) H) (j := 10) (vs := [10]) (t := tYes) (te := tDGet (tVar 9) (tVar 10)) (fun _ => true) (fun i => (l.map fun x => V.str (stS (stand (spans s) x.1 x.2))).getD i .non) (fun H3 e3 Q q => q H3 (Ex.refl _)) (SqL.of hp2) (by rw [List.length_map, bl]; have := bd.1; omega) (fun _ => rfl) (fun i x H3 e3 hx => et_yes) (fun i x H3 e3 hx _ => by
      obtain ⟨b, pq, rfl, hl, ht⟩ := at2 i x hx
      intro H4 e4 Q q
      refine ⟨_, rfl, _, rfl, d, _, rfl, ?_, q _ (Ex.refl _)⟩
      rw [List.getD_eq_getElem?_getD, List.getElem?_map, hl]
      have := DGet.t (k := kk pq.1 pq.2) (e4 _ _ (e3 _ _ (e2 _ _ hd1))) (e4 _ _ (e3 _ _ (e2 _ _ ht)))
      rw [kv_get up hl] at this
      exact this)
    refine W H2 (Ex.refl _) Q fun Dl H3 nd e3 h3 => ?_
    refine q Dl H3 (fresh_back (e1.trans e2) nd) ((e1.trans e2).trans e3) ?_
    rw [h3, given_all, List.length_map, bl]
    refine congrArg (fun x => some (HO.lst x)) ?_
    refine List.ext_getElem (by simp) fun i h1 h2 => ?_
    rw [List.length_map] at h2
    rw [List.getElem_map, List.getElem_range, List.getD_eq_getElem?_getD, List.getElem?_map, List.getElem?_eq_getElem h2, List.getElem_map]
    rfl
end HS

set_option Elab.async false
set_option linter.all false
set_option maxRecDepth 100000
set_option maxHeartbeats 4000000
namespace HS
open PySem PySem.Spec PyProof.Rows L2 Evl
section
variable {K : PySem.W.Frag} {σ : L2.St} {H H' : Hp} {ta te : TE}
theorem eu_tupOf {xs : List V} (h : EvL te σ H xs) : EvU (tCB (rTupOf K) (tCons te tNil)) σ H xs := fun H1 e Q q =>
  h H1 e _ fun p H2 np e2 hp => ⟨p, xs, rfl, .inl ⟨SqL.of hp, fun l hl => q l _ (fresh_back e2 hl) (e2.trans (Ex.new hl)) upd_same⟩⟩
theorem ev_lenD {p : Addr} {kvs : List (List Key × V)} (ha : Ev ta σ H (.ref p)) (hp : H p = some (.dT kvs)) : Ev (tCB rLenT (tCons ta tNil)) σ H (.int (kvs.length : Int)) := fun H1 e Q q =>
  ha H1 e _ fun H2 e2 => ⟨p, kvs, rfl, (e.trans e2) _ _ hp, q H2 e2⟩
end
theorem iteT' {p : Prop} [Decidable p] {a b : Prop} (h : p) (x : a) : if p then a else b := by rw [if_pos h]; exact x
theorem iteF' {p : Prop} [Decidable p] {a b : Prop} (h : ¬ p) (x : b) : if p then a else b := by rw [if_neg h]; exact x
theorem keyV_S (r s : List Nat) : (keyV r s).map kV = keyS r s := by
  unfold keyV keyS
  rw [List.map_map]
  rfl
theorem foundOf_len (r : List Nat) : ∀ (ss : List (List Nat)) (acc : List (List Key × V)), (ss.foldl (fun acc s => putK acc (keyV r s) (.bl true)) acc).length ≤ acc.length + ss.length
  | [], acc => Nat.le_refl _
  | s :: ss, acc => by
    rw [List.foldl_cons]
    have h1 := foundOf_len r ss (putK acc (keyV r s) (.bl true))
    have h2 := length_putK acc (keyV r s) (.bl true)
    rw [List.length_cons]
    omega
theorem foundOf_snoc (r : List Nat) {ss : List (List Nat)} {i : Nat} (h : i < ss.length) : foundOf r (ss.take (i + 1)) = putK (foundOf r (ss.take i)) (keyV r (ss.getD i [])) (.bl true) := by
  unfold foundOf
  rw [List.take_add_one, HS.getL h, List.foldl_append]
  rfl
theorem given_filter {l : List (List Nat)} (g : List Nat → Bool) (v : Nat → V) : (given l.length (fun i => g (l.getD i [])) v).length = (l.filter g).length := by
  unfold given
  rw [List.length_map]
  have e : l = (List.range l.length).map fun i => l.getD i [] := by
    have := range_map_getD (l := l) (fun s => s)
    rw [List.map_id'] at this
    exact this.symm
  conv => rhs; rw [e]
  rw [List.filter_map, List.length_map]
  rfl
theorem shapes_bd {n : Nat} (h1 : 1 ≤ n) (h7 : n ≤ 7) : (shapes n).length ≤ 132 := (getD_bd (c := n - 1) (by omega) n).1
def spLaw (K : PySem.W.Frag) : Sp := fun vs H Q _ => ∃ (a : Addr) (ns : List Int), vs = [.ref a] ∧ SqL K H a (ns.map V.int) ∧ ns.length ≤ 63 ∧ ∀ H', Q (.bl true) H'
section
variable {P : Program} {w : World} {K : PySem.W.Frag} {mg : Str → Option Value} {base : Heap} {CJ CF : Addr} {t1 t2 t3 : Tok}
abbrev N_law : List Str := ["_law_script", "_law_dice_here", "_law_words", "_law_lengths_here", "_law_shapes", "_law_turn", "_law_m_here", "_law_found", "_law_shape", "_law_near_now", "_law_pair"]
theorem sc_law : FnScope N_law ["_law_script"] (defScope s_law) := ⟨rfl, rfl, rfl, by decide +kernel, rfl, by decide +kernel, by decide +kernel⟩
theorem ok_law {fL : Addr} {fdL : FuncData} (T : Txt K mg CJ CF t1 t2 t3) (F : Fun K "law" "law" s_law fL fdL) (C1 : Cal P w K mg base "_law_dice" 1 ["_law_script"] (sp_dice K)) (C2 : Cal P w K mg base "_law_draw" 1 ["_law_dice_here", "_law_sides"] sp_draw)
    (C3 : Cal P w K mg base "_law_lengths" 2 ["_law_dice_here", "_law_words"] sp_lengths) (C4 : Cal P w K mg base "_law_all" 1 ["_law_words"] sp_all) (C5 : Cal P w K mg base "_law_m" 2 ["_law_dice_here", "_law_lengths_here"] sp_m)
    (C6 : Cal P w K mg base "_law_near" 2 ["_law_lengths_here", "_law_shape", "_law_m_here"] sp_near) (C7 : Cal P w K mg base "_law_whole" 1 ["_law_told", "_law_due"] sp_whole)
    (C8 : Cal P w K mg base "classes_many" 5 ["lengths", "m"] sp_cm) (C9 : Cal P w K mg base "is_form" 7 ["lengths", "shape", "m"] sp_is_form) : FnOk P w K mg base CX0 8 fL fdL ["_law_script"] (spLaw K) := by
  obtain ⟨_, _, Glaw_dice, mlaw_dice, klaw_dice, blaw_dice⟩ := C1.ex
  obtain ⟨_, _, Glaw_draw, mlaw_draw, klaw_draw, blaw_draw⟩ := C2.ex
  obtain ⟨_, _, Glaw_lengths, mlaw_lengths, klaw_lengths, blaw_lengths⟩ := C3.ex
  obtain ⟨_, _, Glaw_all, mlaw_all, klaw_all, blaw_all⟩ := C4.ex
  obtain ⟨_, _, Glaw_m, mlaw_m, klaw_m, blaw_m⟩ := C5.ex
  obtain ⟨_, _, Glaw_near, mlaw_near, klaw_near, blaw_near⟩ := C6.ex
  obtain ⟨_, _, Glaw_whole, mlaw_whole, klaw_whole, blaw_whole⟩ := C7.ex
  obtain ⟨_, _, Gclasses_many, mclasses_many, kclasses_many, bclasses_many⟩ := C8.ex
  obtain ⟨_, _, Gis_form, mis_form, kis_form, bis_form⟩ := C9.ex
  refine F.ok sc_law (fun vs H Q E h => ?_) (fun cdv A outer s H vs Q E hr h => ?_)
  · obtain ⟨a, ns, rfl, _⟩ := h
    rfl
  · obtain ⟨a, ns, rfl, hs, h63, k⟩ := h
    have hu := hu_of hr
    refine ⟨_, (pss_cons (ps_set (i := 1) sc_law.nd rfl (Or.inl rfl) (pe_call Glaw_dice (hr.mono (by decide)) (by rfl) mlaw_dice klaw_dice blaw_dice .nil pass0 (pa_cons (pv 0) pa_nil)))
      (pss_cons (ps_set (i := 2) sc_law.nd rfl (Or.inl rfl) (pe_op op_add pe_int (pe_call Glaw_draw (hr.mono (by decide)) (by rfl) mlaw_draw klaw_draw blaw_draw .nil pass0 (pa_cons (pv 1) (pa_cons pe_int pa_nil)))))
      (pss_cut (ps_if (pt_cmpR op_eq (pe_call Glaw_draw (hr.mono (by decide)) (by rfl) mlaw_draw klaw_draw blaw_draw .nil pass0 (pa_cons (pv 1) (pa_cons pe_int pa_nil))) pe_int (nomark _)) (pss_one (ps_set (i := 2) sc_law.nd rfl (Or.inl rfl) pe_int)) pss_nil)
      (pss_cons (ps_set (i := 3) sc_law.nd rfl (Or.inr rfl) (pe_call Glaw_lengths (hr.mono (by decide)) (by rfl) mlaw_lengths klaw_lengths blaw_lengths .nil pass0 (pa_cons (pv 1) (pa_cons (pv 2) pa_nil))))
      (pss_cons (ps_set (i := 4) sc_law.nd rfl (Or.inl rfl) (pe_call Glaw_all (hr.mono (by decide)) (by rfl) mlaw_all klaw_all blaw_all .nil pass0 (pa_cons (pv 2) pa_nil)))
      (pss_cons (ps_for PassesOwn.never rfl (pi_range1 (by rfl) T.nrange (pa_cons pe_int pa_nil)) (pg_name (i := 5) sc_law.nd rfl (Or.inl rfl)) (pss_cons (ps_set (i := 6) sc_law.nd rfl (Or.inr rfl) (pe_call Glaw_m (hr.mono (by decide)) (by rfl) mlaw_m klaw_m blaw_m .nil pass0 (pa_cons (pv 1) (pa_cons (pv 3) pa_nil))))
      (pss_cons (ps_set (i := 7) sc_law.nd rfl (Or.inl rfl) pe_dnewT)
      (pss_cons (ps_for PassesOwn.never rfl (pi_list (pv 4)) (pg_name (i := 8) sc_law.nd rfl (Or.inl rfl)) (pss_cons (ps_set (i := 9) sc_law.nd rfl (Or.inr rfl) (pe_call Glaw_near (hr.mono (by decide)) (by rfl) mlaw_near klaw_near blaw_near .nil pass0 (pa_cons (pv 3) (pa_cons (pv 8) (pa_cons (pv 6) pa_nil)))))
      (pss_one (ps_dput hu (pv 7) (pe_callTy call_tuple_of (by rfl) T.ntuple (by decide +kernel) (pa_cons (pe_lc (own := [("_law_pair", 10)]) (g := gName 10) (tt := tYes) rfl sc_law.nd (pi_list (pe_callB (cr_sortT (d := 2) (B := 64) (by decide)) (by rfl) T.nsorted (by decide +kernel) (pa_cons (pe_callTy (call_list_dT rfl) (by rfl) T.nlist (by decide +kernel) (pa_cons (pv 9) pa_nil)) pa_nil))) (blkOk_by (N := N_law) (sc := defScope s_law) (by decide +kernel)) (fun _ _ _ _ _ => pg_name (i := 10) sc_law.nd rfl (Or.inl rfl)) (fun _ _ _ _ _ => pts_nil) (fun _ _ _ _ _ => (pe_dget hu (pv 9) (pv 10) (fun _ _ => rfl)))) pa_nil)) pe_bl rfl))))
      (pss_cons (ps_if (pt_not (pt_val (pe_call Glaw_whole (hr.mono (by decide)) (by rfl) mlaw_whole klaw_whole blaw_whole .nil pass0 (pa_cons (pe_call Gclasses_many (hr.mono (by decide)) (by rfl) mclasses_many kclasses_many bclasses_many .nil pass0 (pa_cons (pv 3) (pa_cons (pv 6) pa_nil))) (pa_cons (pe_callB call_len_dT (by rfl) T.nlen PySem.boot_len (pa_cons (pv 7) pa_nil)) pa_nil))))) (pss_one (ps_ret pe_bl)) pss_nil)
      (pss_one (ps_if (pt_cmpR op_ne (pe_callB call_len_seq (by rfl) T.nlen PySem.boot_len (pa_cons (pe_lc (own := [("_law_shape", 8)]) (g := gName 8) rfl sc_law.nd (pi_list (pv 4)) (blkOk_by (N := N_law) (sc := defScope s_law) (by decide +kernel)) (fun _ _ _ _ _ => pg_name (i := 8) sc_law.nd rfl (Or.inl rfl)) (fun _ _ _ _ _ => pts_one (pt_val (pe_call Gis_form (hr.mono (by decide)) (by rfl) mis_form kis_form bis_form .nil pass0 (pa_cons (pv 3) (pa_cons (pv 8) (pa_cons (pv 6) pa_nil)))))) (fun _ _ _ _ _ => (pv 8))) pa_nil)) (pe_callB call_len_dT (by rfl) T.nlen PySem.boot_len (pa_cons (pv 7) pa_nil)) (nomark _)) (pss_one (ps_ret pe_bl)) pss_nil)))))))
      (pss_one (ps_ret (pe_and (pe_call Glaw_whole (hr.mono (by decide)) (by rfl) mlaw_whole klaw_whole blaw_whole .nil pass0 (pa_cons (pe_call Gclasses_many (hr.mono (by decide)) (by rfl) mclasses_many kclasses_many bclasses_many .nil pass0 (pa_cons (pv 3) (pa_cons pe_int pa_nil))) (pa_cons pe_int pa_nil))) (pe_one (pe_call Glaw_whole (hr.mono (by decide)) (by rfl) mlaw_whole klaw_whole blaw_whole .nil pass0 (pa_cons (pe_call Gclasses_many (hr.mono (by decide)) (by rfl) mclasses_many kclasses_many bclasses_many .nil pass0 (pa_cons (pv 3) (pa_cons (pe_op op_pow pe_int pe_int) pa_nil))) (pa_cons (pe_callB call_len_seq (by rfl) T.nlen PySem.boot_len (pa_cons (pv 4) pa_nil)) pa_nil))))))))))))), ?_⟩
    refine ⟨_, rfl, a, ns, rfl, hs, h63, fun H1 d c cs i b s k' nd e1 D1 => ?_⟩
    refine q_addDraw (c := c) (cs := cs) (m := 1) (n := 6) ev_c (fun _ _ => ev_var rfl) (fun _ _ => ev_c) ⟨i, b, s, k', D1⟩ (by decide) (by decide) fun H2 v v0 v1 k2 D2 => ?_
    refine q_cut (M := fun σ' H' => ∃ n : Nat, 1 ≤ n ∧ n ≤ 7 ∧ σ' = [some (.ref a), some (.ref d), some (.int (n : Int)), none, none, none, none, none, none, none, none] ∧ DiceX H' d c cs) ?_ ?_
    · refine draw_call (c := c) (cs := cs) (ev_var rfl) ev_c D2 (by decide) (by decide) fun H3 u u0 u1 k3 D3 => ?_
      refine ev_c H3 (Ex.refl _) _ fun H4 e4 => ?_
      replace D3 := D3.ex e4
      refine rv_eq rfl H4 (Ex.refl _) _ fun H4 e4 => ⟨_, rfl, ?_⟩
      by_cases hu0 : decide (V.int u = V.int 0) = true
      · refine iteT' hu0 ?_
        exact ⟨7, by decide, by decide, rfl, D3.ex e4⟩
      · refine iteF' hu0 ?_
        exact ⟨(1 + v).toNat, by omega, by omega, by rw [show (((1 + v).toNat : Nat) : Int) = 1 + v by omega]; rfl, D3.ex e4⟩
    · rintro σ' H3 ⟨n, n1, n7, rfl, D3⟩
      refine ⟨_, rfl, _, rfl, d, c, cs, n, rfl, D3, n1, by omega, fun H4 la L ok hln k4 hla D4 => ?_⟩
      refine ⟨_, rfl, n, rfl, n1, n7, fun ls ts H5 nls e5 hls hts => ?_⟩
      have D5 := D4.ex e5
      have lsd : ls ≠ d := D4.ne nls
      replace hla := e5 _ _ hla
      obtain ⟨xd, hd5⟩ := D5.there
      have tne : ∀ {t : Addr} {xs : List V}, H5 t = some (.tup xs) → t ≠ d := fun h => ne_of h hd5 fun z => nomatch z
      have tl : ts.length = (shapes n).length := Paired.length hts
      have sb := shapes_bd n1 n7
      have hpl := placesI_len L
      have hL7 : L.length ≤ 7 := by omega
      have hk : n - 1 < 7 := by omega
      have hn' : n - 1 + 1 = n := by omega
      have hpn : (placesI L).length + 1 = n := by omega
      have sOk : ∀ {s : List Nat}, s ∈ shapes n → s.length = n - 1 ∧ OkS s (aboveOf s) := fun h => shp_of hk (by rw [hn']; exact h)
      have shAt : ∀ (i : Nat) (x : V), (ts.map V.ref)[i]? = some x → ∃ (t : Addr) (s : List Nat), x = V.ref t ∧ (shapes n)[i]? = some s ∧ H5 t = some (.tup (iV s)) := by
        intro i x hx
        rw [List.getElem?_map] at hx
        cases ht : ts[i]? with
        | none => rw [ht] at hx; cases hx
        | some t =>
          rw [ht] at hx
          cases hx
          obtain ⟨s, h1, h2⟩ := Paired.getL hts ht
          exact ⟨t, s, rfl, h1, h2⟩
      show tSeq _ _ _ [some (.ref a), some (.ref d), some (.int (n : Int)), some (.ref la), some (.ref ls), none, none, none, none, none, none] H5
      have W : ∀ {σ : L2.St} {Hx : Hp} {m : Int} {cc : Nat} {u : TE} {E : XK}, Kp d H5 Hx → 1 ≤ m → m ≤ 1000000000 → GoodM (placesI L) m cc → σ[3]? = some (some (.ref la)) → Ev u σ Hx (.int m) → Ev (tCall sp_cm [] E (tCons (tVar 3) (tCons u tNil))) σ Hx (.int (cc : Int)) := by
        intro σ Hx m cc u E kp m1 m2 G h3 hu'
        obtain ⟨r, W, B, hnr, hrec, hw, _, _⟩ := G
        have := ev_call (E := E) (ea_cons (ev_var h3) (ea_cons hu' ea_nil)) (sv_cm (kp _ _ hla (tne hla)) ok m1 m2 hnr hrec)
        rw [hw] at this
        exact this
      refine q_forR1 (n := 3) (ea_cons ev_c ea_nil) (by decide)
        (fun p σ' H' => (∃ x5 x6 x7 x8 x9 : Option V, σ' = [some (.ref a), some (.ref d), some (.int (n : Int)), some (.ref la), some (.ref ls), x5, x6, x7, x8, x9, none]) ∧ Kp d H5 H' ∧ DiceX H' d c cs)
        (fun H6 e6 => ⟨⟨_, _, _, _, _, rfl⟩, Kp.of e6, D5.ex e6⟩) ?_ ?_
      · rintro p σ' H6 hp ⟨⟨x5, x6, x7, x8, x9, rfl⟩, k6, D6⟩
        simp only [List.set_cons_zero, List.set_cons_succ]
        refine ⟨_, rfl, _, rfl, d, c, la, cs, L, rfl, D6, k6 _ _ hla (tne hla), ok, fun H7 m m1 m2 k7 D7 => ?_⟩
        have K7 := k6.trans k7
        obtain ⟨cc, G⟩ := good_any ok hL7 m
        have G0 := G
        obtain ⟨r, W', B', hnr, hrec, hwc, hfl, hff⟩ := G
        rw [hpn] at hfl hff
        intro fd nfd
        have e8 : Ex H7 (upd H7 fd (.dT [])) := Ex.new nfd
        have hf8 : upd H7 fd (.dT []) fd = some (.dT []) := upd_same
        generalize upd H7 fd (.dT []) = H8 at e8 hf8
        have K8 := K7.trans (Kp.of e8)
        show tSeq _ _ _ [some (.ref a), some (.ref d), some (.int (n : Int)), some (.ref la), some (.ref ls), _, some (.int m), some (.ref fd), _, _, none] H8
        refine q_forLn (a := ls) (xs := ts.map V.ref) (ev_var rfl) (SqL.of (K8 _ _ hls lsd))
          (fun i σ' H' => (∃ x8 x9 : Option V, σ' = [some (.ref a), some (.ref d), some (.int (n : Int)), some (.ref la), some (.ref ls), some (.int (p : Int)), some (.int m), some (.ref fd), x8, x9, none]) ∧ Ex H7 H' ∧ H' fd = some (.dT (foundOf r ((shapes n).take i))))
          (fun H9 e9 => ⟨⟨_, _, rfl⟩, e8.trans e9, e9 _ _ hf8⟩) (fun i σ' H' _ h => SqL.of ((K7.trans (Kp.of h.2.1)) _ _ hls lsd)) ?_ ?_
        · rintro i x σ' H9 hx ⟨⟨x8, x9, rfl⟩, e9, hf⟩
          simp only [List.set_cons_zero, List.set_cons_succ]
          obtain ⟨t, s, rfl, hsi, ht⟩ := shAt i x hx
          have K9 := K7.trans (Kp.of e9)
          have hm := List.mem_of_getElem? hsi
          obtain ⟨sl, okS⟩ := sOk hm
          refine ⟨_, rfl, _, rfl, _, rfl, la, t, m, L, s, r, rfl, K9 _ _ hla (tne hla), ok, K9 _ _ ht (tne ht), by omega, by omega, hnr, fun nr H10 nnr e10 hnr10 => ?_⟩
          refine s_dputT (key := keyV r s) (v := .bl true) ev_c (ev_var rfl) (by rw [keyV_S]; exact eu_tupOf (K := K) (el_key (K := K) rfl hnr10 (by omega))) (e10 _ _ hf) ?_ fun H11 e11 => ?_
          · have := foundOf_len r ((shapes n).take i) []
            have h2 := List.length_take_le' i (shapes n)
            rw [List.length_nil] at this
            unfold foundOf
            omega
          · refine ⟨⟨_, _, rfl⟩, Ex.mut ((e9.trans e10).trans e11) nfd, ?_⟩
            have hi := (List.getElem?_eq_some_iff.mp hsi).1
            have : (shapes n).getD i [] = s := by
              rw [List.getD_eq_getElem?_getD, hsi]
              rfl
            rw [upd_same, foundOf_snoc r hi, this]
        · rintro σ' H9 ⟨⟨x8, x9, rfl⟩, e9, hf⟩
          have K9 := K7.trans (Kp.of e9)
          rw [List.length_map, tl, List.take_length] at hf
          refine q_when (b := false) (et_is (et_not (et_B (ev_call (ea_cons (W K9 m1 m2 G0 rfl (ev_var rfl)) (ea_cons (ev_lenD (ev_var rfl) hf) ea_nil)) sv_whole))) (by rw [hfl, decide_eq_true rfl]; rfl)) (fun z => nomatch z) fun _ H10 e10 => ?_
          have K10 := K9.trans (Kp.of e10)
          refine s_when (b := false) (et_is (et_test (ev_op (ev_lenN (el_lcL (xs := ts.map V.ref) (fun i => formI (placesI L) m (aboveOf ((shapes n).getD i []))) (fun i => (ts.map V.ref).getD i .non) (ev_var rfl) (SqL.of (K10 _ _ hls lsd)) (by rw [List.length_map, tl]; omega) (fun _ => rfl) (fun i x H11 e11 hx => ?_) (fun i x H11 e11 hx _ => ?_))) (ev_lenD (ev_var rfl) (e10 _ _ hf)) (rv_ne rfl))) ?_) (fun z => nomatch z) fun _ H11 e11 => ?_
          · obtain ⟨t, s, rfl, hsi, ht⟩ := shAt i x hx
            obtain ⟨sl, okS⟩ := sOk (List.mem_of_getElem? hsi)
            have K11 := K10.trans (Kp.of e11)
            rw [List.getD_eq_getElem?_getD, hsi]
            exact et_B (ev_call (ea_cons (ev_var rfl) (ea_cons (ev_var rfl) (ea_cons (ev_var rfl) ea_nil))) (sv_is_form (K11 _ _ hla (tne hla)) ok (K11 _ _ ht (tne ht)) okS (by omega) m1 m2))
          · refine ev_is (ev_var rfl) ?_
            rw [List.getD_eq_getElem?_getD, hx]
            rfl
          · rw [List.length_map, tl, given_filter (fun s => formI (placesI L) m (aboveOf s)), hff, hfl]
            simp
          · exact ⟨⟨_, _, _, _, _, rfl⟩, K10.trans (Kp.of e11), ((D7.ex e9).ex e10).ex e11⟩
      · rintro σ' H6 ⟨⟨x5, x6, x7, x8, x9, rfl⟩, k6, D6⟩
        refine s_ret (ev_is (ev_andV (ev_call (ea_cons (W k6 (by decide) (by decide) (good_one ok hL7) rfl ev_c) (ea_cons ev_c ea_nil)) sv_whole) fun _ => ev_call (ea_cons (W k6 (by decide) (by decide) (good_most ok hL7) rfl (ev_pow ev_c ev_c ⟨by decide, by decide, by decide⟩)) (ea_cons (ev_len (ev_var rfl) (SqL.of (k6 _ _ hls lsd))) ea_nil)) sv_whole) ?_) fun H7 _ => k H7
        rw [List.length_map, tl, hpn]
        simp
end
end HS

set_option Elab.async false
set_option linter.all false
set_option maxRecDepth 100000
set_option maxHeartbeats 4000000
namespace HS
open PySem PySem.Spec PyProof.Rows L2 Evl
/-! ### what the top has written, and the law's own head -/
section
variable {K : PySem.W.Frag} {h : Heap} {mg : Str → Option Value}
theorem df_mk (X : K.In h) (G : h.Ns mainGlobals mg) {x : Str} {st : Stmt} {f : Addr} {od an : Option Addr} {sl : Array (Option Value)} {oc kV dc pm cd ct : Value}
    (a : PySem.W.nsIn K mainGlobals x = some (some (.ref f))) (l : K.lookup f = some ⟨oc, od, .func (PySem.W.fnOf x x (defArgs st) (defBody st) (defScope st) .none kV dc pm an cd ct), sl⟩) (c : PySem.W.codeIn K cd x = true)
    (k : PySem.W.keepIn K (.ref f) = true) : Df K mg x st := ⟨f, _, fun_mk l c k, PySem.W.mg_of X G a⟩
theorem loose_int {p : Program} {lv : List (Str × PySem.W.WData)} {x : Str} {i : Int} (X : PySem.W.XL p lv mg h) (m : (x, PySem.W.WData.int i) ∈ lv) : ∃ t, mg x = some (.int i t) := by
  obtain ⟨v, e, r⟩ := X.2.val _ m
  cases r with
  | int _ t => exact ⟨t, e⟩
theorem txt_mk {CJ CF : Addr} {t1 t2 t3 : Tok} (X : K.In h) (G : h.Ns mainGlobals mg)
    (aJ : PySem.W.nsIn K mainGlobals "Joinings" = some (some (.ref CJ))) (aF : PySem.W.nsIn K mainGlobals "Forms" = some (some (.ref CF)))
    (pgJ : PySem.W.plainGet K CJ Str.empty = true) (hdJ : PySem.W.hasDictIn K CJ = true) (poJ : PySem.W.plainOver K CJ = true) (saJ : PySem.W.findIn K (.ref CJ) "__setattr__" = some (some (.builtin "object.__setattr__")))
    (pgF : PySem.W.plainGet K CF Str.empty = true) (hdF : PySem.W.hasDictIn K CF = true) (poF : PySem.W.plainOver K CF = true) (saF : PySem.W.findIn K (.ref CF) "__setattr__" = some (some (.builtin "object.__setattr__")))
    (j1 : PySem.W.findIn K (.ref CJ) "first" = some none) (j2 : PySem.W.findIn K (.ref CJ) "last" = some none) (j3 : PySem.W.findIn K (.ref CJ) "above" = some none) (j4 : PySem.W.findIn K (.ref CJ) "fair" = some none)
    (f1 : PySem.W.findIn K (.ref CF) "at" = some none) (f2 : PySem.W.findIn K (.ref CF) "m" = some none) (f3 : PySem.W.findIn K (.ref CF) "whole" = some none) (f4 : PySem.W.findIn K (.ref CF) "ahead" = some none)
    (w1 : PySem.W.nsIn K mainGlobals "MOST_WORDS" = some (some (.int 40 t1))) (w2 : mg "MOST_LENGTH" = some (.int 1000000 t2)) (w3 : mg "MOST_NEAR" = some (.int 1000000000 t3))
    (zlen : PySem.W.nsIn K mainGlobals "len" = some none) (zisinstance : PySem.W.nsIn K mainGlobals "isinstance" = some none) (zall : PySem.W.nsIn K mainGlobals "all" = some none) (zsum : PySem.W.nsIn K mainGlobals "sum" = some none) (zabs : PySem.W.nsIn K mainGlobals "abs" = some none) (zsorted : PySem.W.nsIn K mainGlobals "sorted" = some none) (zrange : PySem.W.nsIn K mainGlobals "range" = some none) (zenumerate : PySem.W.nsIn K mainGlobals "enumerate" = some none) (zint : PySem.W.nsIn K mainGlobals "int" = some none) (zbool : PySem.W.nsIn K mainGlobals "bool" = some none) (ztuple : PySem.W.nsIn K mainGlobals "tuple" = some none) (zlist : PySem.W.nsIn K mainGlobals "list" = some none) : Txt K mg CJ CF t1 t2 t3 :=
  ⟨⟨pgJ, hdJ, poJ, saJ⟩, ⟨pgF, hdF, poF, saF⟩, j1, j2, j3, j4, f1, f2, f3, f4, PySem.W.mg_of X G aJ, PySem.W.mg_of X G aF, PySem.W.mg_of X G w1, w2, w3, PySem.W.mg_none_of X G zlen, PySem.W.mg_none_of X G zisinstance, PySem.W.mg_none_of X G zall, PySem.W.mg_none_of X G zsum, PySem.W.mg_none_of X G zabs, PySem.W.mg_none_of X G zsorted, PySem.W.mg_none_of X G zrange, PySem.W.mg_none_of X G zenumerate, PySem.W.mg_none_of X G zint, PySem.W.mg_none_of X G zbool, PySem.W.mg_none_of X G ztuple, PySem.W.mg_none_of X G zlist⟩
end
theorem all_mk {l : PySem.W.OpenLaw} {w : World} {K : PySem.W.Frag} {mg : Str → Option Value} {CJ CF fJ fI fF fL : Addr} {t1 t2 t3 : Tok} {fdJ fdI fdF fdL : FuncData} (T : Txt K mg CJ CF t1 t2 t3)
    (FJ : Fun K "__init__" "Joinings.__init__" s_J fJ fdJ) (MJ : Mk K CJ fJ) (FI : Fun K "__init__" "Forms.__init__" s_FI fI fdI) (MF : Mk K CF fI) (FF : Fun K "fill" "Forms.fill" s_FF fF fdF) (mF : Meth K CF "fill" fF)
    (D_is_integer : Df K mg "is_integer" s_is_integer) (D_is_between : Df K mg "is_between" s_is_between) (D_check_number : Df K mg "check_number" s_check_number) (D_is_fair : Df K mg "is_fair" s_is_fair) (D_is_shape : Df K mg "is_shape" s_is_shape) (D_steps_of : Df K mg "steps_of" s_steps_of) (D_check_lengths : Df K mg "check_lengths" s_check_lengths) (D_check_shape_for : Df K mg "check_shape_for" s_check_shape_for) (D_check_reading : Df K mg "check_reading" s_check_reading) (D_places_of : Df K mg "places_of" s_places_of) (D_step_to_form : Df K mg "step_to_form" s_step_to_form) (D_check_m : Df K mg "check_m" s_check_m) (D_is_form : Df K mg "is_form" s_is_form) (D_classes_many : Df K mg "classes_many" s_classes_many) (D_law_dice : Df K mg "_law_dice" s_law_dice) (D_law_draw : Df K mg "_law_draw" s_law_draw) (D_law_whole : Df K mg "_law_whole" s_law_whole) (D_law_spans : Df K mg "_law_spans" s_law_spans) (D_law_stand : Df K mg "_law_stand" s_law_stand) (D_law_places : Df K mg "_law_places" s_law_places) (D_law_near : Df K mg "_law_near" s_law_near) (D_law_all : Df K mg "_law_all" s_law_all) (D_law_lengths : Df K mg "_law_lengths" s_law_lengths) (D_law_m : Df K mg "_law_m" s_law_m)
    (FL : Fun K "law" "law" s_law fL fdL) : ∀ base : Heap, FnOk l.prog w K mg base CX0 8 fL fdL ["_law_script"] (spLaw K) := by
  intro base
  have bJ := FJ.binds (ps := ["self", "shape"]) fun _ _ _ _ _ _ us hl => match us, hl with | [_, _], _ => rfl
  have bI := FI.binds (ps := ["self", "lengths", "m"]) fun _ _ _ _ _ _ us hl => match us, hl with | [_, _, _], _ => rfl
  have bF := FF.binds (ps := ["self", "first", "last"]) fun _ _ _ _ _ _ us hl => match us, hl with | [_, _, _], _ => rfl
  have GJ := ok_J (P := l.prog) (w := w) (base := base) T FJ
  have GF := ok_FF (P := l.prog) (w := w) (base := base) T FF
  have c_is_integer := cal_is_integer (P := l.prog) (w := w) (base := base) T D_is_integer
  have c_is_between := cal_is_between T D_is_between c_is_integer
  have c_check_number := cal_check_number D_check_number c_is_between
  have c_is_fair := cal_is_fair T D_is_fair c_is_integer MJ GJ bJ
  have c_is_shape := cal_is_shape T D_is_shape c_is_fair
  have c_steps_of := cal_steps_of (P := l.prog) (w := w) (base := base) T D_steps_of MJ GJ bJ
  have c_check_lengths := cal_check_lengths T D_check_lengths c_is_between
  have c_check_shape_for := cal_check_shape_for T D_check_shape_for c_is_shape
  have c_check_reading := cal_check_reading T D_check_reading c_check_lengths c_check_shape_for
  have c_places_of := cal_places_of (P := l.prog) (w := w) (base := base) D_places_of
  have c_step_to_form := cal_step_to_form D_step_to_form c_steps_of
  have c_check_m := cal_check_m T D_check_m c_check_number
  have c_is_form := cal_is_form D_is_form c_check_reading c_check_m c_step_to_form c_places_of
  have GI := ok_FI T FI c_places_of GF mF bF
  have c_classes_many := cal_classes_many T D_classes_many c_check_lengths c_check_m MF GI bI
  have c_dice := cal_law_dice (P := l.prog) (w := w) (base := base) T D_law_dice
  have c_draw := cal_law_draw (P := l.prog) (w := w) (base := base) T D_law_draw
  have c_whole := cal_law_whole (P := l.prog) (w := w) (base := base) T D_law_whole
  have c_spans := cal_law_spans (P := l.prog) (w := w) (base := base) T D_law_spans
  have c_stand := cal_law_stand (P := l.prog) (w := w) (base := base) D_law_stand
  have c_places := cal_law_places (P := l.prog) (w := w) (base := base) D_law_places
  have c_near := cal_law_near T D_law_near c_places c_spans c_stand
  have c_all := cal_law_all (P := l.prog) (w := w) (base := base) T D_law_all
  have c_lengths := cal_law_lengths T D_law_lengths c_draw
  have c_m := cal_law_m T D_law_m c_draw c_places
  exact ok_law T FL c_dice c_draw c_lengths c_all c_m c_near c_whole c_classes_many c_is_form
/-- walk_of, with the loose names' values given to F -/
theorem walk {l : PySem.W.OpenLaw} {q : Program} {loose : List Str} {XP : (Str → Option Value) → Heap → Prop} {YP : World → Heap → Prop} {d : DefRec} {K : Params → PySem.W.Frag} (hn : l.most = some 63) (hdf : d.params.defaults = [])
    (hY : ∀ (w : World) (h : Heap), YP w h → (K w.params).In h)
    (F : ∀ (w : World) (mg : Str → Option Value) (fa : Addr) (h : Heap), (K w.params).In h → h.Ns mainGlobals mg → XP mg h → mg d.name = some (.ref fa) →
      ∃ fd : FuncData, (∀ (s : Shared) (u : Value), BindsTo s fd ⟨[u], []⟩ [("_law_script", u)]) ∧ ∀ base : Heap, FnOk l.prog w (K w.params) mg base CX0 8 fa fd ["_law_script"] (spLaw (K w.params))) :
    PySem.W.WalkO q loose XP YP l.row.toRowW d [] (fun f vs => PySem.call f vs) := by
  refine Att.attach_call hn hdf fun w s₀ s₁ mg mb fa o pm cd doc a vs ns G Y ho hd hcd hmg hobj hints hlen hg => ?_
  have KX := hY w _ Y
  obtain ⟨fd, hb, hF⟩ := F w mg fa _ KX G.T.g G.X hmg
  exact law_call KX G.T.g G.T.b G.T.builtins G.T.nolimit hg hobj hints (Nat.le_trans hlen (by decide)) (k := 8) ⟨rfl, by decide, by decide⟩ (fun base _ _ => hF base) hb (fun H hO hS => ⟨a, ns, rfl, hS, hlen, fun _ => rfl⟩) fun _ _ _ z => z
/-- the whole head -/
theorem fin_mk {l : PySem.W.OpenLaw} {w : World} {K : PySem.W.Frag} {h : Heap} {mg : Str → Option Value} {fa CJ CF : Addr} {t1 t2 t3 : Tok} {fJ : Addr} {odJ anJ : Option Addr} {slJ : Array (Option Value)} {ocJ kVJ dcJ pmJ cdJ ctJ : Value} {fI : Addr} {odI anI : Option Addr} {slI : Array (Option Value)} {ocI kVI dcI pmI cdI ctI : Value} {fF : Addr} {odF anF : Option Addr} {slF : Array (Option Value)} {ocF kVF dcF pmF cdF ctF : Value} {fL : Addr} {odL anL : Option Addr} {slL : Array (Option Value)} {ocL kVL dcL pmL cdL ctL : Value}
    (X : K.In h) (G : h.Ns mainGlobals mg) (hfa : mg "law" = some (.ref fa)) (w2 : mg "MOST_LENGTH" = some (.int 1000000 t2)) (w3 : mg "MOST_NEAR" = some (.int 1000000000 t3))
    (D_is_integer : Df K mg "is_integer" s_is_integer) (D_is_between : Df K mg "is_between" s_is_between) (D_check_number : Df K mg "check_number" s_check_number) (D_is_fair : Df K mg "is_fair" s_is_fair) (D_is_shape : Df K mg "is_shape" s_is_shape) (D_steps_of : Df K mg "steps_of" s_steps_of) (D_check_lengths : Df K mg "check_lengths" s_check_lengths) (D_check_shape_for : Df K mg "check_shape_for" s_check_shape_for) (D_check_reading : Df K mg "check_reading" s_check_reading) (D_places_of : Df K mg "places_of" s_places_of) (D_step_to_form : Df K mg "step_to_form" s_step_to_form) (D_check_m : Df K mg "check_m" s_check_m) (D_is_form : Df K mg "is_form" s_is_form) (D_classes_many : Df K mg "classes_many" s_classes_many) (D_law_dice : Df K mg "_law_dice" s_law_dice) (D_law_draw : Df K mg "_law_draw" s_law_draw) (D_law_whole : Df K mg "_law_whole" s_law_whole) (D_law_spans : Df K mg "_law_spans" s_law_spans) (D_law_stand : Df K mg "_law_stand" s_law_stand) (D_law_places : Df K mg "_law_places" s_law_places) (D_law_near : Df K mg "_law_near" s_law_near) (D_law_all : Df K mg "_law_all" s_law_all) (D_law_lengths : Df K mg "_law_lengths" s_law_lengths) (D_law_m : Df K mg "_law_m" s_law_m)
    (aJ : PySem.W.nsIn K mainGlobals "Joinings" = some (some (.ref CJ))) (aF : PySem.W.nsIn K mainGlobals "Forms" = some (some (.ref CF)))
    (pgJ : PySem.W.plainGet K CJ Str.empty = true) (hdJ : PySem.W.hasDictIn K CJ = true) (poJ : PySem.W.plainOver K CJ = true) (saJ : PySem.W.findIn K (.ref CJ) "__setattr__" = some (some (.builtin "object.__setattr__")))
    (pgF : PySem.W.plainGet K CF Str.empty = true) (hdF : PySem.W.hasDictIn K CF = true) (poF : PySem.W.plainOver K CF = true) (saF : PySem.W.findIn K (.ref CF) "__setattr__" = some (some (.builtin "object.__setattr__")))
    (j1 : PySem.W.findIn K (.ref CJ) "first" = some none) (j2 : PySem.W.findIn K (.ref CJ) "last" = some none) (j3 : PySem.W.findIn K (.ref CJ) "above" = some none) (j4 : PySem.W.findIn K (.ref CJ) "fair" = some none)
    (f1 : PySem.W.findIn K (.ref CF) "at" = some none) (f2 : PySem.W.findIn K (.ref CF) "m" = some none) (f3 : PySem.W.findIn K (.ref CF) "whole" = some none) (f4 : PySem.W.findIn K (.ref CF) "ahead" = some none)
    (w1 : PySem.W.nsIn K mainGlobals "MOST_WORDS" = some (some (.int 40 t1)))
    (zlen : PySem.W.nsIn K mainGlobals "len" = some none) (zisinstance : PySem.W.nsIn K mainGlobals "isinstance" = some none) (zall : PySem.W.nsIn K mainGlobals "all" = some none) (zsum : PySem.W.nsIn K mainGlobals "sum" = some none) (zabs : PySem.W.nsIn K mainGlobals "abs" = some none) (zsorted : PySem.W.nsIn K mainGlobals "sorted" = some none) (zrange : PySem.W.nsIn K mainGlobals "range" = some none) (zenumerate : PySem.W.nsIn K mainGlobals "enumerate" = some none) (zint : PySem.W.nsIn K mainGlobals "int" = some none) (zbool : PySem.W.nsIn K mainGlobals "bool" = some none) (ztuple : PySem.W.nsIn K mainGlobals "tuple" = some none) (zlist : PySem.W.nsIn K mainGlobals "list" = some none)
    (aiJ : PySem.W.findIn K (.ref CJ) "__init__" = some (some (.ref fJ)))
    (iJ : PySem.W.isFn K (.ref fJ) = true) (lJ : K.lookup fJ = some ⟨ocJ, odJ, .func (PySem.W.fnOf "__init__" "Joinings.__init__" (defArgs s_J) (defBody s_J) (defScope s_J) .none kVJ dcJ pmJ anJ cdJ ctJ), slJ⟩) (cJ : PySem.W.codeIn K cdJ "Joinings.__init__" = true) (kJ : PySem.W.keepIn K (.ref fJ) = true)
    (mJ : PySem.W.makesIn K CJ = true) (kCJ : PySem.W.keepIn K (.ref CJ) = true)
    (aiI : PySem.W.findIn K (.ref CF) "__init__" = some (some (.ref fI)))
    (iI : PySem.W.isFn K (.ref fI) = true) (lI : K.lookup fI = some ⟨ocI, odI, .func (PySem.W.fnOf "__init__" "Forms.__init__" (defArgs s_FI) (defBody s_FI) (defScope s_FI) .none kVI dcI pmI anI cdI ctI), slI⟩) (cI : PySem.W.codeIn K cdI "Forms.__init__" = true) (kI : PySem.W.keepIn K (.ref fI) = true)
    (mI : PySem.W.makesIn K CF = true) (kCF : PySem.W.keepIn K (.ref CF) = true)
    (xF : PySem.W.findIn K (.ref CF) "fill" = some (some (.ref fF)))
    (iF : PySem.W.isFn K (.ref fF) = true) (lF : K.lookup fF = some ⟨ocF, odF, .func (PySem.W.fnOf "fill" "Forms.fill" (defArgs s_FF) (defBody s_FF) (defScope s_FF) .none kVF dcF pmF anF cdF ctF), slF⟩) (cF : PySem.W.codeIn K cdF "Forms.fill" = true) (kF : PySem.W.keepIn K (.ref fF) = true)
    (aL : PySem.W.nsIn K mainGlobals "law" = some (some (.ref fL)))
    (lL : K.lookup fL = some ⟨ocL, odL, .func (PySem.W.fnOf "law" "law" (defArgs s_law) (defBody s_law) (defScope s_law) .none kVL dcL pmL anL cdL ctL), slL⟩) (cL : PySem.W.codeIn K cdL "law" = true) (kL : PySem.W.keepIn K (.ref fL) = true) :
    ∃ fd : FuncData, (∀ (s : Shared) (u : Value), BindsTo s fd ⟨[u], []⟩ [("_law_script", u)]) ∧ ∀ base : Heap, FnOk l.prog w K mg base CX0 8 fa fd ["_law_script"] (spLaw K) := by
  have e := hfa.symm.trans (PySem.W.mg_of X G aL)
  cases e
  have T : Txt K mg CJ CF t1 t2 t3 := txt_mk X G aJ aF pgJ hdJ poJ saJ pgF hdF poF saF j1 j2 j3 j4 f1 f2 f3 f4 w1 w2 w3 zlen zisinstance zall zsum zabs zsorted zrange zenumerate zint zbool ztuple zlist
  exact ⟨PySem.W.fnOf "law" "law" (defArgs s_law) (defBody s_law) (defScope s_law) .none kVL dcL pmL anL cdL ctL, fun s v => .of_eq rfl,
    all_mk T (fun_mk (st := s_J) lJ cJ kJ) ⟨mJ, aiJ, iJ, kCJ⟩ (fun_mk (st := s_FI) lI cI kI) ⟨mI, aiI, iI, kCF⟩ (fun_mk (st := s_FF) lF cF kF) ⟨xF, iF, kF⟩ D_is_integer D_is_between D_check_number D_is_fair D_is_shape D_steps_of D_check_lengths D_check_shape_for D_check_reading D_places_of D_step_to_form D_check_m D_is_form D_classes_many D_law_dice D_law_draw D_law_whole D_law_spans D_law_stand D_law_places D_law_near D_law_all D_law_lengths D_law_m (fun_mk (st := s_law) lL cL kL)⟩
end HS

open PySem PySem.W PyProof.Rows
set_option linter.all false
set_option maxRecDepth 100000 in
set_option maxHeartbeats 0 in
theorem PySem.Challenge.cw_heardseams_k50_whole_classes_counted_by_holds : PySem.Challenge.rw_heardseams_k50_whole_classes_counted_by.Holds := by
  w_on; o_law; k_head; (case hw => w_witness2)
  k_fill
  refine HS.walk (l := PySem.Challenge.rw_heardseams_k50_whole_classes_counted_by) rfl rfl (fun w h Y => PySem.W.kIn_of Y) ?F
  case F =>
    intro w mg fa h KX G XPh hmg
    obtain ⟨t2, w2⟩ : ∃ t, mg "MOST_LENGTH" = some (.int 1000000 t) := HS.loose_int XPh (by exact .head _)
    obtain ⟨t3, w3⟩ : ∃ t, mg "MOST_NEAR" = some (.int 1000000000 t) := HS.loose_int XPh (by exact .tail _ (.head _))
    have D_is_integer : HS.Df (L2.KOf KX) mg "is_integer" HS.s_is_integer := by
      refine' HS.df_mk KX G ?a ?l ?c ?k
      (case a => k_is); (case l => k_is); (case c => k_is); (case k => k_is)
    have D_is_between : HS.Df (L2.KOf KX) mg "is_between" HS.s_is_between := by
      refine' HS.df_mk KX G ?a ?l ?c ?k
      (case a => k_is); (case l => k_is); (case c => k_is); (case k => k_is)
    have D_check_number : HS.Df (L2.KOf KX) mg "check_number" HS.s_check_number := by
      refine' HS.df_mk KX G ?a ?l ?c ?k
      (case a => k_is); (case l => k_is); (case c => k_is); (case k => k_is)
    have D_is_fair : HS.Df (L2.KOf KX) mg "is_fair" HS.s_is_fair := by
      refine' HS.df_mk KX G ?a ?l ?c ?k
      (case a => k_is); (case l => k_is); (case c => k_is); (case k => k_is)
    have D_is_shape : HS.Df (L2.KOf KX) mg "is_shape" HS.s_is_shape := by
      refine' HS.df_mk KX G ?a ?l ?c ?k
      (case a => k_is); (case l => k_is); (case c => k_is); (case k => k_is)
    have D_steps_of : HS.Df (L2.KOf KX) mg "steps_of" HS.s_steps_of := by
      refine' HS.df_mk KX G ?a ?l ?c ?k
      (case a => k_is); (case l => k_is); (case c => k_is); (case k => k_is)
    have D_check_lengths : HS.Df (L2.KOf KX) mg "check_lengths" HS.s_check_lengths := by
      refine' HS.df_mk KX G ?a ?l ?c ?k
      (case a => k_is); (case l => k_is); (case c => k_is); (case k => k_is)
    have D_check_shape_for : HS.Df (L2.KOf KX) mg "check_shape_for" HS.s_check_shape_for := by
      refine' HS.df_mk KX G ?a ?l ?c ?k
      (case a => k_is); (case l => k_is); (case c => k_is); (case k => k_is)
    have D_check_reading : HS.Df (L2.KOf KX) mg "check_reading" HS.s_check_reading := by
      refine' HS.df_mk KX G ?a ?l ?c ?k
      (case a => k_is); (case l => k_is); (case c => k_is); (case k => k_is)
    have D_places_of : HS.Df (L2.KOf KX) mg "places_of" HS.s_places_of := by
      refine' HS.df_mk KX G ?a ?l ?c ?k
      (case a => k_is); (case l => k_is); (case c => k_is); (case k => k_is)
    have D_step_to_form : HS.Df (L2.KOf KX) mg "step_to_form" HS.s_step_to_form := by
      refine' HS.df_mk KX G ?a ?l ?c ?k
      (case a => k_is); (case l => k_is); (case c => k_is); (case k => k_is)
    have D_check_m : HS.Df (L2.KOf KX) mg "check_m" HS.s_check_m := by
      refine' HS.df_mk KX G ?a ?l ?c ?k
      (case a => k_is); (case l => k_is); (case c => k_is); (case k => k_is)
    have D_is_form : HS.Df (L2.KOf KX) mg "is_form" HS.s_is_form := by
      refine' HS.df_mk KX G ?a ?l ?c ?k
      (case a => k_is); (case l => k_is); (case c => k_is); (case k => k_is)
    have D_classes_many : HS.Df (L2.KOf KX) mg "classes_many" HS.s_classes_many := by
      refine' HS.df_mk KX G ?a ?l ?c ?k
      (case a => k_is); (case l => k_is); (case c => k_is); (case k => k_is)
    have D_law_dice : HS.Df (L2.KOf KX) mg "_law_dice" HS.s_law_dice := by
      refine' HS.df_mk KX G ?a ?l ?c ?k
      (case a => k_is); (case l => k_is); (case c => k_is); (case k => k_is)
    have D_law_draw : HS.Df (L2.KOf KX) mg "_law_draw" HS.s_law_draw := by
      refine' HS.df_mk KX G ?a ?l ?c ?k
      (case a => k_is); (case l => k_is); (case c => k_is); (case k => k_is)
    have D_law_whole : HS.Df (L2.KOf KX) mg "_law_whole" HS.s_law_whole := by
      refine' HS.df_mk KX G ?a ?l ?c ?k
      (case a => k_is); (case l => k_is); (case c => k_is); (case k => k_is)
    have D_law_spans : HS.Df (L2.KOf KX) mg "_law_spans" HS.s_law_spans := by
      refine' HS.df_mk KX G ?a ?l ?c ?k
      (case a => k_is); (case l => k_is); (case c => k_is); (case k => k_is)
    have D_law_stand : HS.Df (L2.KOf KX) mg "_law_stand" HS.s_law_stand := by
      refine' HS.df_mk KX G ?a ?l ?c ?k
      (case a => k_is); (case l => k_is); (case c => k_is); (case k => k_is)
    have D_law_places : HS.Df (L2.KOf KX) mg "_law_places" HS.s_law_places := by
      refine' HS.df_mk KX G ?a ?l ?c ?k
      (case a => k_is); (case l => k_is); (case c => k_is); (case k => k_is)
    have D_law_near : HS.Df (L2.KOf KX) mg "_law_near" HS.s_law_near := by
      refine' HS.df_mk KX G ?a ?l ?c ?k
      (case a => k_is); (case l => k_is); (case c => k_is); (case k => k_is)
    have D_law_all : HS.Df (L2.KOf KX) mg "_law_all" HS.s_law_all := by
      refine' HS.df_mk KX G ?a ?l ?c ?k
      (case a => k_is); (case l => k_is); (case c => k_is); (case k => k_is)
    have D_law_lengths : HS.Df (L2.KOf KX) mg "_law_lengths" HS.s_law_lengths := by
      refine' HS.df_mk KX G ?a ?l ?c ?k
      (case a => k_is); (case l => k_is); (case c => k_is); (case k => k_is)
    have D_law_m : HS.Df (L2.KOf KX) mg "_law_m" HS.s_law_m := by
      refine' HS.df_mk KX G ?a ?l ?c ?k
      (case a => k_is); (case l => k_is); (case c => k_is); (case k => k_is)
    refine' HS.fin_mk KX G hmg w2 w3 D_is_integer D_is_between D_check_number D_is_fair D_is_shape D_steps_of D_check_lengths D_check_shape_for D_check_reading D_places_of D_step_to_form D_check_m D_is_form D_classes_many D_law_dice D_law_draw D_law_whole D_law_spans D_law_stand D_law_places D_law_near D_law_all D_law_lengths D_law_m ?aJ ?aF ?pgJ ?hdJ ?poJ ?saJ ?pgF ?hdF ?poF ?saF ?j1 ?j2 ?j3 ?j4 ?f1 ?f2 ?f3 ?f4 ?w1 ?zlen ?zisinstance ?zall ?zsum ?zabs ?zsorted ?zrange ?zenumerate ?zint ?zbool ?ztuple ?zlist ?aiJ ?iJ ?lJ ?cJ ?kJ ?mJ ?kCJ ?aiI ?iI ?lI ?cI ?kI ?mI ?kCF ?xF ?iF ?lF ?cF ?kF ?aL ?lL ?cL ?kL
    (case aJ => k_is); (case aF => k_is); (case pgJ => k_is); (case hdJ => k_is); (case poJ => k_is)
    (case saJ => k_is); (case pgF => k_is); (case hdF => k_is); (case poF => k_is); (case saF => k_is)
    (case j1 => k_is); (case j2 => k_is); (case j3 => k_is); (case j4 => k_is); (case f1 => k_is)
    (case f2 => k_is); (case f3 => k_is); (case f4 => k_is); (case w1 => k_is); (case zlen => k_is)
    (case zisinstance => k_is); (case zall => k_is); (case zsum => k_is); (case zabs => k_is); (case zsorted => k_is)
    (case zrange => k_is); (case zenumerate => k_is); (case zint => k_is); (case zbool => k_is); (case ztuple => k_is)
    (case zlist => k_is); (case aiJ => k_is); (case iJ => k_is); (case lJ => k_is); (case cJ => k_is)
    (case kJ => k_is); (case mJ => k_is); (case kCJ => k_is); (case aiI => k_is); (case iI => k_is)
    (case lI => k_is); (case cI => k_is); (case kI => k_is); (case mI => k_is); (case kCF => k_is)
    (case xF => k_is); (case iF => k_is); (case lF => k_is); (case cF => k_is); (case kF => k_is)
    (case aL => k_is); (case lL => k_is); (case cL => k_is); (case kL => k_is)
