import PyProof.Rows.All
import Wide.All
import OpenK.AllK
import Wide.FinOn
import KE.KStateDown
import KE.KLam
import Lean
import HandS.ForMost
import HandS.Flow
import HandS.Style
import HandS.TupAny
import HandS.MakeKwOnly
import HandS.Property
import HandS.ClsMeth
import HandS.Star
import HandS.IsInst
import HandS.StrMore
import HandS.Walk
import HandS.ReplaceList
import HandS.ReplaceLit
import HandS.Deep
import HandS.Conv
import HandS.Lambda
import HandS.Nested
import HandS.EndTab
import HandS.CallLocal
import HandS.Defaults
import HandS.Wide
import HandS.FStr
import HandS.FStrTup
import HandS.HeadEnd
import HandS.Head0
import HandS.Head1
import HandS.Head2
import HandS.HeadHook1
import HandS.HeadHook2
import HandS.HeadHook3
import PyProof.Rows.MatchSeqLen
import PySem.Challenge.RW_callflows_k19_whole_texts_with_real_func
import HandS.HeadHook4
import HandS.HeadWalk
import KE.KNestM
import KE.GoesMore
import PyProof.Draws
import HandS.NoneIn
import HandS.ReplaceDef
import HandS.Small
set_option Elab.async false
/-! K1Math: streams, gates, the push and the pull reading of a chain. Plain Lean. -/
namespace K
section
variable {V E S S1 S2 : Type}

/-- what a source will give: for each value the calls ahead of it, then the calls behind the last one -/
structure Strm (V E : Type) where
  items : List (List E × V)
  fin : List E

def Strm.nil : Strm V E := ⟨[], []⟩
def Strm.cons (p : List E × V) (s : Strm V E) : Strm V E := ⟨p :: s.items, s.fin⟩
def Strm.run (s : Strm V E) : List V × List E := (s.items.map (·.2), (s.items.map (·.1)).flatten ++ s.fin)
def Strm.lst (xs : List V) : Strm V E := ⟨xs.map fun v => ([], v), []⟩

/-- a gate's step: the calls, what goes on, the next state, whether all is over behind it -/
abbrev Step (S V E : Type) := S → V → List E × Option V × S × Bool

/-- a stream through a gate; acc: calls that wait for the next value -/
def tr (st : Step S V E) : S → List E → List (List E × V) → List E → Strm V E
  | _, acc, [], fin => ⟨[], acc ++ fin⟩
  | q, acc, (l, v) :: rest, fin =>
    match st q v with
    | (lg, some v', q', ov) => Strm.cons (acc ++ l ++ lg, v') (if ov = true then Strm.nil else tr st q' [] rest fin)
    | (lg, none, q', ov) => if ov = true then ⟨[], acc ++ l ++ lg⟩ else tr st q' (acc ++ l ++ lg) rest fin

def trS (st : Step S V E) (q : S) (s : Strm V E) : Strm V E := tr st q [] s.items s.fin

def comp (a : Step S1 V E) (b : Step S2 V E) : Step (S1 × S2) V E := fun q v =>
  match a q.1 v with
  | (l, none, q1, o) => (l, none, (q1, q.2), o)
  | (l, some v1, q1, o) => match b q.2 v1 with
    | (l2, r, q2, o2) => (l ++ l2, r, (q1, q2), o || o2)

theorem tr_nil (st : Step S V E) (q : S) (acc fin : List E) : tr st q acc [] fin = ⟨[], acc ++ fin⟩ := by
  unfold tr; rfl

theorem tr_some {st : Step S V E} {q : S} {acc l lg : List E} {v v' : V} {q' : S} {ov : Bool} {rest : List (List E × V)} {fin : List E} (h : st q v = (lg, some v', q', ov)) :
    tr st q acc ((l, v) :: rest) fin = Strm.cons (acc ++ l ++ lg, v') (if ov = true then Strm.nil else tr st q' [] rest fin) := by
  rw [tr, h]
theorem tr_none {st : Step S V E} {q : S} {acc l lg : List E} {v : V} {q' : S} {ov : Bool} {rest : List (List E × V)} {fin : List E} (h : st q v = (lg, none, q', ov)) :
    tr st q acc ((l, v) :: rest) fin = (if ov = true then ⟨[], acc ++ l ++ lg⟩ else tr st q' (acc ++ l ++ lg) rest fin) := by
  rw [tr, h]

theorem tr_comp (a : Step S1 V E) (b : Step S2 V E) : ∀ (items : List (List E × V)) (q1 : S1) (q2 : S2) (acc1 acc2 fin : List E),
    tr b q2 acc2 (tr a q1 acc1 items fin).items (tr a q1 acc1 items fin).fin = tr (comp a b) (q1, q2) (acc2 ++ acc1) items fin
  | [], q1, q2, acc1, acc2, fin => by
    simp only [tr_nil, List.append_assoc]
  | (l, v) :: rest, q1, q2, acc1, acc2, fin => by
    obtain ⟨lg, r, q1', ov, ha⟩ : ∃ lg r q1' ov, a q1 v = (lg, r, q1', ov) := ⟨_, _, _, _, rfl⟩
    cases r with
    | none =>
      have hc : comp a b (q1, q2) v = (lg, none, (q1', q2), ov) := by
        unfold comp; simp only [ha]
      rw [tr_none ha, tr_none hc]
      cases ov with
      | true =>
        rw [if_pos rfl, if_pos rfl, tr_nil]
        simp only [List.append_assoc]
      | false =>
        rw [if_neg Bool.false_ne_true, if_neg Bool.false_ne_true, tr_comp a b rest]
        simp only [List.append_assoc]
    | some v1 =>
      obtain ⟨lg2, r2, q2', ov2, hb⟩ : ∃ lg2 r2 q2' ov2, b q2 v1 = (lg2, r2, q2', ov2) := ⟨_, _, _, _, rfl⟩
      have hc : comp a b (q1, q2) v = (lg ++ lg2, r2, (q1', q2'), ov || ov2) := by
        unfold comp; simp only [ha, hb]
      rw [tr_some ha]
      show tr b q2 acc2 ((acc1 ++ l ++ lg, v1) :: (if ov = true then Strm.nil else tr a q1' [] rest fin).items) (if ov = true then Strm.nil else tr a q1' [] rest fin).fin = _
      cases r2 with
      | none =>
        rw [tr_none hb, tr_none hc]
        cases ov with
        | true =>
          rw [if_pos rfl, Bool.true_or, if_pos rfl]
          cases ov2 with
          | true => rw [if_pos rfl]; simp only [List.append_assoc]
          | false =>
            rw [if_neg Bool.false_ne_true]
            show tr b q2' _ [] [] = _
            rw [tr_nil]; simp only [List.append_assoc, List.append_nil]
        | false =>
          rw [if_neg Bool.false_ne_true, Bool.false_or]
          cases ov2 with
          | true => rw [if_pos rfl, if_pos rfl]; simp only [List.append_assoc]
          | false =>
            rw [if_neg Bool.false_ne_true, if_neg Bool.false_ne_true, tr_comp a b rest]
            simp only [List.append_assoc, List.append_nil]
      | some v2 =>
        rw [tr_some hb, tr_some hc]
        cases ov with
        | true =>
          rw [if_pos rfl, Bool.true_or, if_pos rfl]
          have e : (if ov2 = true then Strm.nil else tr b q2' [] (Strm.nil : Strm V E).items (Strm.nil : Strm V E).fin) = (Strm.nil : Strm V E) := by
            cases ov2 with
            | true => rfl
            | false => show tr b q2' [] [] [] = _; rw [tr_nil]; rfl
          rw [e]
          simp only [List.append_assoc]
        | false =>
          rw [if_neg Bool.false_ne_true, Bool.false_or]
          cases ov2 with
          | true => rw [if_pos rfl, if_pos rfl]; simp only [List.append_assoc]
          | false =>
            rw [if_neg Bool.false_ne_true, if_neg Bool.false_ne_true, tr_comp a b rest]
            simp only [List.append_assoc, List.append_nil]

theorem trS_comp (a : Step S1 V E) (b : Step S2 V E) (q1 : S1) (q2 : S2) (s : Strm V E) : trS b q2 (trS a q1 s) = trS (comp a b) (q1, q2) s := by
  unfold trS
  rw [tr_comp a b]
  rfl

/-- the push reading: each value through the gate, up to the one behind which all is over -/
def push (st : Step S V E) : S → List V → List V × List E
  | _, [] => ([], [])
  | q, v :: rest =>
    match st q v with
    | (l, r, q', ov) => if ov = true then (r.toList, l) else (r.toList ++ (push st q' rest).1, l ++ (push st q' rest).2)

theorem push_cons {st : Step S V E} {q : S} {v : V} {rest : List V} {l : List E} {r : Option V} {q' : S} {ov : Bool} (h : st q v = (l, r, q', ov)) :
    push st q (v :: rest) = (if ov = true then (r.toList, l) else (r.toList ++ (push st q' rest).1, l ++ (push st q' rest).2)) := by
  rw [push, h]

theorem run_cons (p : List E × V) (s : Strm V E) : (Strm.cons p s).run = (p.2 :: s.run.1, p.1 ++ s.run.2) := by
  unfold Strm.run Strm.cons
  simp only [List.map_cons, List.flatten_cons, List.append_assoc]
theorem run_nil : (Strm.nil : Strm V E).run = ([], []) := rfl

theorem run_push (st : Step S V E) : ∀ (xs : List V) (q : S) (acc : List E),
    (tr st q acc (xs.map fun v => (([] : List E), v)) []).run = ((push st q xs).1, acc ++ (push st q xs).2)
  | [], q, acc => by
    show (tr st q acc [] []).run = _
    rw [tr_nil]
    unfold push Strm.run
    simp
  | v :: rest, q, acc => by
    obtain ⟨lg, r, q', ov, ha⟩ : ∃ lg r q' ov, st q v = (lg, r, q', ov) := ⟨_, _, _, _, rfl⟩
    rw [push_cons ha, List.map_cons]
    cases r with
    | none =>
      rw [tr_none ha]
      cases ov with
      | true =>
        rw [if_pos rfl, if_pos rfl]
        simp [Strm.run]
      | false =>
        rw [if_neg Bool.false_ne_true, if_neg Bool.false_ne_true, run_push st rest]
        simp [List.append_assoc]
    | some v1 =>
      rw [tr_some ha, run_cons]
      cases ov with
      | true =>
        rw [if_pos rfl, if_pos rfl, run_nil]
        simp
      | false =>
        rw [if_neg Bool.false_ne_true, if_neg Bool.false_ne_true, run_push st rest]
        simp [List.append_assoc]
end
end K

/-! K2Math: gates, stages, what a flow and what a text does. Plain Lean. -/
namespace K
section
variable {V E S1 S2 : Type}

/-- two gates that do alike -/
theorem tr_sim {a : Step S1 V E} {b : Step S2 V E} (R : S1 → S2 → Prop)
    (h : ∀ q1 q2 v, R q1 q2 → (a q1 v).1 = (b q2 v).1 ∧ (a q1 v).2.1 = (b q2 v).2.1 ∧ (a q1 v).2.2.2 = (b q2 v).2.2.2 ∧ ((a q1 v).2.2.2 = false → R (a q1 v).2.2.1 (b q2 v).2.2.1)) :
    ∀ (items : List (List E × V)) (q1 : S1) (q2 : S2) (acc fin : List E), R q1 q2 → tr a q1 acc items fin = tr b q2 acc items fin
  | [], q1, q2, acc, fin, _ => by rw [tr_nil, tr_nil]
  | (l, v) :: rest, q1, q2, acc, fin, hR => by
    obtain ⟨lg, r, q1', ov, ha⟩ : ∃ lg r q1' ov, a q1 v = (lg, r, q1', ov) := ⟨_, _, _, _, rfl⟩
    obtain ⟨lg2, r2, q2', ov2, hb⟩ : ∃ lg r q1' ov, b q2 v = (lg, r, q1', ov) := ⟨_, _, _, _, rfl⟩
    have hh := h q1 q2 v hR
    rw [ha, hb] at hh
    obtain ⟨e1, e2, e3, e4⟩ := hh
    dsimp only at e1 e2 e3 e4
    subst e1 e2 e3
    cases r with
    | none =>
      rw [tr_none ha, tr_none hb]
      cases ov with
      | true => rfl
      | false =>
        rw [if_neg Bool.false_ne_true, if_neg Bool.false_ne_true]
        exact tr_sim R h rest _ _ _ _ (e4 rfl)
    | some v1 =>
      rw [tr_some ha, tr_some hb]
      cases ov with
      | true => rfl
      | false =>
        rw [if_neg Bool.false_ne_true, if_neg Bool.false_ne_true, tr_sim R h rest _ _ _ _ (e4 rfl)]
end

inductive Kd where
  | keep | drop | whl | frm
  deriving DecidableEq

/-- a stage -/
inductive Sg (N : Type) where
  | each (w : List N) (now : Bool)
  | ask (k : Kd) (t : List N) (now : Bool)
  | first (n : Nat) (now : Bool)
  | skip (n : Nat) (now : Bool)
  | every (k r : Nat) (now : Bool)
  | last (n : Nat)
  | but (n : Nat)
  | turned

section
variable {N V E : Type}

def Sg.isList : Sg N → Bool
  | .last _ => true
  | .but _ => true
  | .turned => true
  | _ => false
def Sg.now : Sg N → Bool
  | .each _ b => b
  | .ask _ _ b => b
  | .first _ b => b
  | .skip _ b => b
  | .every _ _ b => b
  | _ => true
/-- what a list kind leaves -/
def Sg.cut (xs : List V) : Sg N → List V
  | .last n => xs.drop (xs.length - n)
  | .but n => xs.take (xs.length - n)
  | .turned => xs.reverse
  | _ => xs

/-- a gate: its stage, how many came, whether it is open -/
structure Gt (N : Type) where
  sg : Sg N
  seen : Nat
  op : Bool

def Gt.new (sg : Sg N) : Gt N := ⟨sg, 0, false⟩
def Gt.dead (g : Gt N) : Bool := match g.sg with
  | .first n _ => n == 0
  | _ => false

/-- what names do: the value behind names and the calls; a value's truth -/
structure Wd (N V E : Type) where
  beh : List N → V → V × List E
  tru : V → Bool
  beh_nil : ∀ v, beh [] v = (v, [])
variable (W : Wd N V E)

def gstep : Step (Gt N) V E := fun g v => match g.sg with
  | .each w _ => ((W.beh w v).2, some (W.beh w v).1, ⟨g.sg, g.seen + 1, g.op⟩, false)
  | .first n _ => ([], if g.seen + 1 ≤ n then some v else none, ⟨g.sg, g.seen + 1, g.op⟩, g.seen + 1 == n)
  | .skip n _ => ([], if n < g.seen + 1 then some v else none, ⟨g.sg, g.seen + 1, g.op⟩, false)
  | .every k r _ => ([], if r < g.seen + 1 ∧ (g.seen + 1 - 1 - r) % k = 0 then some v else none, ⟨g.sg, g.seen + 1, g.op⟩, false)
  | .ask k t _ => if g.op = true then ([], some v, ⟨g.sg, g.seen + 1, g.op⟩, false) else
      let b := W.tru (W.beh t v).1
      match k with
      | .frm => ((W.beh t v).2, if b = true then none else some v, ⟨g.sg, g.seen + 1, !b⟩, false)
      | .keep => ((W.beh t v).2, if b = true then some v else none, ⟨g.sg, g.seen + 1, g.op⟩, false)
      | .drop => ((W.beh t v).2, if b = true then none else some v, ⟨g.sg, g.seen + 1, g.op⟩, false)
      | .whl => ((W.beh t v).2, if b = true then some v else none, ⟨g.sg, g.seen + 1, g.op⟩, !b)
  | _ => ([], some v, ⟨g.sg, g.seen + 1, g.op⟩, false)

/-- several gates in a row -/
def stepL (st : Step (Gt N) V E) : Step (List (Gt N)) V E
  | [], v => ([], some v, [], false)
  | g :: gs, v => match st g v with
    | (l, none, g', o) => (l, none, g' :: gs, o)
    | (l, some v1, g', o) => match stepL st gs v1 with
      | (l2, r, gs', o2) => (l ++ l2, r, g' :: gs', o || o2)

theorem stepL_id (st : Step (Gt N) V E) : ∀ (items : List (List E × V)) (acc fin : List E), acc = [] → tr (stepL st) [] acc items fin = ⟨items, fin⟩
  | [], acc, fin, h => by rw [tr_nil, h]; rfl
  | (l, v) :: rest, acc, fin, h => by
    have e : stepL st [] v = ([], some v, [], false) := rfl
    rw [tr_some e, if_neg Bool.false_ne_true, stepL_id st rest [] fin rfl, h]
    simp [Strm.cons]

theorem stepL_comp (st : Step (Gt N) V E) (g : Gt N) (gs : List (Gt N)) (s : Strm V E) : trS (comp st (stepL st)) (g, gs) s = trS (stepL st) (g :: gs) s := by
  unfold trS
  refine tr_sim (fun q1 q2 => q2 = q1.1 :: q1.2) (fun q1 q2 v e => ?_) _ _ _ _ _ rfl
  subst e
  obtain ⟨g, gs⟩ := q1
  obtain ⟨lg, r, q1', ov, ha⟩ : ∃ lg r q1' ov, st g v = (lg, r, q1', ov) := ⟨_, _, _, _, rfl⟩
  cases r with
  | none => simp [comp, stepL, ha]
  | some v1 =>
    obtain ⟨lg2, r2, q2', ov2, hb⟩ : ∃ lg r q1' ov, stepL st gs v1 = (lg, r, q1', ov) := ⟨_, _, _, _, rfl⟩
    simp [comp, stepL, ha, hb]

/-- a stream through one stage -/
def gateS (g : Gt N) (s : Strm V E) : Strm V E := if g.dead = true then Strm.nil else trS (gstep W) g s
def chain (p : List (Gt N)) (s : Strm V E) : Strm V E := p.foldl (fun s g => gateS W g s) s

theorem chain_nil : ∀ p : List (Gt N), chain W p (Strm.nil : Strm V E) = Strm.nil
  | [] => rfl
  | g :: p => by
    show chain W p (gateS W g Strm.nil) = _
    have e : gateS W g (Strm.nil : Strm V E) = Strm.nil := by
      unfold gateS
      split
      · rfl
      · unfold trS; show tr _ _ [] [] [] = _; rw [tr_nil]; rfl
    rw [e, chain_nil p]

theorem chain_eq : ∀ (p : List (Gt N)) (s : Strm V E), chain W p s = if p.any Gt.dead = true then Strm.nil else trS (stepL (gstep W)) p s
  | [], s => by
    show s = _
    rw [if_neg (by simp)]
    unfold trS
    rw [stepL_id _ _ _ _ rfl]
  | g :: p, s => by
    show chain W p (gateS W g s) = _
    unfold gateS
    by_cases h : g.dead = true
    · rw [if_pos h, chain_nil, if_pos (by simp [h])]
    · rw [if_neg h, chain_eq p]
      have e : (g :: p).any Gt.dead = p.any Gt.dead := by
        simp only [List.any_cons, Bool.not_eq_true] at h ⊢
        rw [h, Bool.false_or]
      rw [e]
      by_cases h2 : p.any Gt.dead = true
      · rw [if_pos h2, if_pos h2]
      · rw [if_neg h2, if_neg h2, trS_comp, stepL_comp]

/-- the push reading of a part -/
def pushD (p : List (Gt N)) (xs : List V) : List V × List E := if p.any Gt.dead = true then ([], []) else push (stepL (gstep W)) p xs

theorem chain_run (p : List (Gt N)) (xs : List V) : (chain W p (Strm.lst xs)).run = pushD W p xs := by
  rw [chain_eq]
  unfold pushD
  by_cases h : p.any Gt.dead = true
  · rw [if_pos h, if_pos h]; rfl
  · rw [if_neg h, if_neg h]
    unfold trS
    show (tr _ _ [] (xs.map fun v => ([], v)) []).run = _
    rw [run_push]
    simp

theorem pushD_nil : ∀ xs : List V, pushD W ([] : List (Gt N)) xs = (xs, [])
  | [] => rfl
  | x :: xs => by
    have ih := pushD_nil xs
    unfold pushD at ih ⊢
    rw [if_neg (by simp)] at ih ⊢
    have e : stepL (gstep W) [] x = ([], some x, [], false) := rfl
    rw [push_cons e, if_neg Bool.false_ne_true, ih]
    rfl

/-- the program's play -/
def ps : List (Sg N) → List (Gt N) → List V → List V × List E
  | [], p, xs => pushD W p xs
  | sg :: r, p, xs =>
    if sg.isList = true then ((ps r [] (sg.cut (pushD W p xs).1)).1, (pushD W p xs).2 ++ (ps r [] (sg.cut (pushD W p xs).1)).2)
    else if sg.now = true then ((ps r [] (pushD W (p ++ [Gt.new sg]) xs).1).1, (pushD W (p ++ [Gt.new sg]) xs).2 ++ (ps r [] (pushD W (p ++ [Gt.new sg]) xs).1).2)
    else ps r (p ++ [Gt.new sg]) xs

/-- the text's play -/
def pl : List (Sg N) → Strm V E → List V × List E
  | [], s => s.run
  | sg :: r, s =>
    if sg.isList = true then ((pl r (Strm.lst (sg.cut s.run.1))).1, s.run.2 ++ (pl r (Strm.lst (sg.cut s.run.1))).2)
    else if sg.now = true then ((pl r (Strm.lst (gateS W (Gt.new sg) s).run.1)).1, (gateS W (Gt.new sg) s).run.2 ++ (pl r (Strm.lst (gateS W (Gt.new sg) s).run.1)).2)
    else pl r (gateS W (Gt.new sg) s)

theorem chain_snoc (p : List (Gt N)) (g : Gt N) (s : Strm V E) : chain W (p ++ [g]) s = gateS W g (chain W p s) := by
  unfold chain
  rw [List.foldl_append]
  rfl

theorem pl_ps : ∀ (sgs : List (Sg N)) (p : List (Gt N)) (xs : List V), pl W sgs (chain W p (Strm.lst xs)) = ps W sgs p xs
  | [], p, xs => chain_run W p xs
  | sg :: r, p, xs => by
    unfold pl ps
    by_cases h : sg.isList = true
    · rw [if_pos h, if_pos h, chain_run]
      have := pl_ps r [] (sg.cut (pushD W p xs).1)
      rw [← this]
      rfl
    · rw [if_neg h, if_neg h]
      rw [← chain_snoc]
      by_cases h2 : sg.now = true
      · rw [if_pos h2, if_pos h2, chain_run]
        have := pl_ps r [] (pushD W (p ++ [Gt.new sg]) xs).1
        rw [← this]
        rfl
      · rw [if_neg h2, if_neg h2]
        exact pl_ps r _ xs
end
end K

set_option Elab.async false
set_option linter.all false
set_option maxRecDepth 100000
set_option maxHeartbeats 4000000
/-! KB: the text by places, the words of a def, the facts of the head. -/
namespace K
open PySem PySem.Spec PyProof.Rows L2 He
def topS (i : Nat) : Stmt := PySem.Challenge.pw_callflows_k19_whole_texts_with_real_func.main.body.getD i (.Pass ⟨0, 0, 0, 0⟩)
/-- how the parameters of a def bind, all given -/
def BindOk (x : Str) (st : Stmt) (ps : List Str) : Prop := ∀ (kV doc pm : Value) (an : Option Addr) (cdv ct : Value) (us : List Value), us.length = ps.length →
  bindArgs (PySem.W.fnOf x x (defArgs st) (defBody st) (defScope st) .none kV doc pm an cdv ct) ⟨us, []⟩ = pure (ps.zip us)
/-- a def of the top, as the head tells it -/
def Gf (K : PySem.W.Frag) (mg : Str → Option Value) (x : Str) (st : Stmt) : Prop :=
  mg x = some (.ref (ga K x)) ∧ ∃ fd, FunD K x x (defArgs st) (defBody st) (defScope st) [] [] (ga K x) fd
/-- a method -/
def Mf (K : PySem.W.Frag) (n q : Str) (st : Stmt) (dvs : List V) (kws : List (Str × V)) (a : Addr) : Prop := ∃ fd, FunD K n q (defArgs st) (defBody st) (defScope st) dvs kws a fd
/-- instances of the class say what they are -/
structure InsT (K : PySem.W.Frag) (C : Addr) : Prop where
  cls : PySem.W.findIn K (.ref C) "__class__" = some (some (.builtin "object.__class__"))
  get : PySem.W.specialIn K (.builtin "object.__class__") "__get__" = some (some (.builtin "getset_descriptor.__get__"))
  tak : PySem.W.takesIn K (.builtin "object.__class__") = some true
  mro : PySem.W.mroIn K C (.type "object") = some true
/-- the def behind a property, a classmethod -/
def pgA (K : PySem.W.Frag) (t : String) (C : Addr) (f : Str) : Addr := match PySem.W.recIn K (ma K C f) t with
  | some (.ref g :: _) => g
  | _ => 0
/-- what a def of the top does, ready to be called -/
structure Ok1 (P : Program) (w : World) (K : PySem.W.Frag) (mg : Str → Option Value) (base : Heap) (k : Nat) (x : Str) (ps : List Str) (sp : Sp) : Prop where
  fn : ∃ fd, FnOk P w K mg base CX0 k (ga K x) fd ps sp ∧ Binds K fd ps []
  gl : mg x = some (.ref (ga K x))
  kp : PySem.W.keepIn K (.ref (ga K x)) = true
section
variable {P : Program} {w : World} {K : PySem.W.Frag} {mg : Str → Option Value} {base : Heap}
theorem Ok1.mono {j k : Nat} {x : Str} {ps : List Str} {sp : Sp} (F : Ok1 P w K mg base j x ps sp) (h : j ≤ k) : Ok1 P w K mg base k x ps sp :=
  ⟨let ⟨fd, a, b⟩ := F.fn; ⟨fd, a.mono h, b⟩, F.gl, F.kp⟩
theorem Gf.mk {x : Str} {st : Stmt} {N ps : List Str} {k : Nat} {sp : Sp} (G : Gf K mg x st) (S : FnScope N ps (defScope st)) (hb : BindOk x st ps) (len : ∀ vs H Q E, sp vs H Q E → vs.length = ps.length)
    (body : ∀ (cdv : Value) (A : Around) (outer : List Env) (s : Shared) (H : Hp) (vs : List V) (Q : VK) (E : XK), Room k (A.deeper (envOfC x (defScope st) s.heap.objs.size (ga K x) cdv)) → sp vs H Q E →
      ∃ t, PSs (cxOf CX0 P w K mg base N x (defScope st) (ga K x) cdv A outer s H E).nox (defBody st) t ∧ t { nx := fun _ H' => Q .non H', rt := Q } (start N vs) H) : Ok1 P w K mg base (k + 1) x ps sp := by
  obtain ⟨gl, fd, F⟩ := G
  refine ⟨⟨fd, F.ok S len fun cdv A outer s H vs Q E hr hs => ?_, F.bindsN hb⟩, gl, F.kp⟩
  obtain ⟨t, h1, h2⟩ := body cdv A outer s H vs Q E hr hs
  exact ⟨t, h1.nox, h2⟩
theorem Mf.mk {n q : Str} {st : Stmt} {N ps : List Str} {k : Nat} {sp : Sp} {dvs : List V} {kws : List (Str × V)} {a : Addr} (G : Mf K n q st dvs kws a) (S : FnScope N ps (defScope st)) (len : ∀ vs H Q E, sp vs H Q E → vs.length = ps.length)
    (body : ∀ (cdv : Value) (A : Around) (outer : List Env) (s : Shared) (H : Hp) (vs : List V) (Q : VK) (E : XK), Room k (A.deeper (envOfC q (defScope st) s.heap.objs.size a cdv)) → sp vs H Q E →
      ∃ t, PSs (cxOf CX0 P w K mg base N q (defScope st) a cdv A outer s H E).nox (defBody st) t ∧ t { nx := fun _ H' => Q .non H', rt := Q } (start N vs) H) :
    ∃ fd, FunD K n q (defArgs st) (defBody st) (defScope st) dvs kws a fd ∧ FnOk P w K mg base CX0 (k + 1) a fd ps sp := by
  obtain ⟨fd, F⟩ := G
  refine ⟨fd, F, F.ok S len fun cdv A outer s H vs Q E hr hs => ?_⟩
  obtain ⟨t, h1, h2⟩ := body cdv A outer s H vs Q E hr hs
  exact ⟨t, h1.nox, h2⟩
end
section
variable {X : Cx} {k : Nat} {x : Str} {ps : List Str} {sp : Sp} {p pos : Pos} {e : Expr} {es : List Expr} {t : TA}
/-- f(e, ..), f a def of the top -/
theorem pe_g (F : Ok1 X.prog X.w X.K X.mg X.base k x ps sp) (hr : Room k X.A) (ha : PA X (e :: es) t) (hg : Gl X x := by rfl) (hdb : (x == ("__debug__" : Str)) = false := by decide)
    (he : starEach (e :: es) X.env = (false, eval e X.env) :: starEach es X.env := by rfl) (hpl : (backTo pos (starEach es X.env)).any (·.1) = false := by rfl) : PE X (.Call (.Name x p) (e :: es) [] pos) (tCall sp [] E0 t) := by
  obtain ⟨⟨fd, h1, h2⟩, gl, kp⟩ := F
  exact pe_call h1 hr hg gl kp h2 .nil pass0 ha hdb he hpl
theorem pe_g0 (F : Ok1 X.prog X.w X.K X.mg X.base k x ps sp) (hr : Room k X.A) (hg : Gl X x := by rfl) (hdb : (x == ("__debug__" : Str)) = false := by decide) : PE X (.Call (.Name x p) [] [] pos) (tCall sp [] E0 tNil) := by
  obtain ⟨⟨fd, h1, h2⟩, gl, kp⟩ := F
  exact pe_call0 h1 hr hg gl kp h2 .nil pass0 hdb
end
abbrev s_is_integer : Stmt := topS 23
theorem sc_is_integer : FnScope ["value"] ["value"] (defScope s_is_integer) := ⟨rfl, rfl, rfl, by decide +kernel, rfl, by decide +kernel, by decide +kernel⟩
theorem bn_is_integer : BindOk "is_integer" s_is_integer ["value"] := fun _ _ _ _ _ _ us hl => match us, hl with | [_], _ => rfl
abbrev s_is_name : Stmt := topS 24
theorem sc_is_name : FnScope ["value", "sign"] ["value"] (defScope s_is_name) := ⟨rfl, rfl, rfl, by decide +kernel, rfl, by decide +kernel, by decide +kernel⟩
theorem bn_is_name : BindOk "is_name" s_is_name ["value"] := fun _ _ _ _ _ _ us hl => match us, hl with | [_], _ => rfl
abbrev s_are_names : Stmt := topS 25
theorem sc_are_names : FnScope ["value", "least", "most", "name"] ["value", "least", "most"] (defScope s_are_names) := ⟨rfl, rfl, rfl, by decide +kernel, rfl, by decide +kernel, by decide +kernel⟩
theorem bn_are_names : BindOk "are_names" s_are_names ["value", "least", "most"] := fun _ _ _ _ _ _ us hl => match us, hl with | [_, _, _], _ => rfl
abbrev s_is_word : Stmt := topS 26
theorem sc_is_word : FnScope ["value"] ["value"] (defScope s_is_word) := ⟨rfl, rfl, rfl, by decide +kernel, rfl, by decide +kernel, by decide +kernel⟩
theorem bn_is_word : BindOk "is_word" s_is_word ["value"] := fun _ _ _ _ _ _ us hl => match us, hl with | [_], _ => rfl
abbrev s_is_test : Stmt := topS 27
theorem sc_is_test : FnScope ["value"] ["value"] (defScope s_is_test) := ⟨rfl, rfl, rfl, by decide +kernel, rfl, by decide +kernel, by decide +kernel⟩
theorem bn_is_test : BindOk "is_test" s_is_test ["value"] := fun _ _ _ _ _ _ us hl => match us, hl with | [_], _ => rfl
abbrev s_names_in : Stmt := topS 29
theorem sc_names_in : FnScope ["text", "pieces", "many", "names"] ["text"] (defScope s_names_in) := ⟨rfl, rfl, rfl, by decide +kernel, rfl, by decide +kernel, by decide +kernel⟩
theorem bn_names_in : BindOk "names_in" s_names_in ["text"] := fun _ _ _ _ _ _ us hl => match us, hl with | [_], _ => rfl
abbrev s_is_count : Stmt := topS 33
theorem sc_is_count : FnScope ["value", "least"] ["value", "least"] (defScope s_is_count) := ⟨rfl, rfl, rfl, by decide +kernel, rfl, by decide +kernel, by decide +kernel⟩
theorem bn_is_count : BindOk "is_count" s_is_count ["value", "least"] := fun _ _ _ _ _ _ us hl => match us, hl with | [_, _], _ => rfl
abbrev s_is_detail : Stmt := topS 34
theorem sc_is_detail : FnScope ["kind", "detail"] ["kind", "detail"] (defScope s_is_detail) := ⟨rfl, rfl, rfl, by decide +kernel, rfl, by decide +kernel, by decide +kernel⟩
theorem bn_is_detail : BindOk "is_detail" s_is_detail ["kind", "detail"] := fun _ _ _ _ _ _ us hl => match us, hl with | [_, _], _ => rfl
abbrev s_inside : Stmt := topS 46
theorem sc_inside : FnScope ["text", "start", "end"] ["text", "start", "end"] (defScope s_inside) := ⟨rfl, rfl, rfl, by decide +kernel, rfl, by decide +kernel, by decide +kernel⟩
theorem bn_inside : BindOk "inside" s_inside ["text", "start", "end"] := fun _ _ _ _ _ _ us hl => match us, hl with | [_, _, _], _ => rfl
abbrev s_digit_in : Stmt := topS 47
theorem sc_digit_in : FnScope ["text", "least"] ["text", "least"] (defScope s_digit_in) := ⟨rfl, rfl, rfl, by decide +kernel, rfl, by decide +kernel, by decide +kernel⟩
theorem bn_digit_in : BindOk "digit_in" s_digit_in ["text", "least"] := fun _ _ _ _ _ _ us hl => match us, hl with | [_, _], _ => rfl
abbrev s_condition_in : Stmt := topS 48
theorem sc_condition_in : FnScope ["text", "tail", "test"] ["text"] (defScope s_condition_in) := ⟨rfl, rfl, rfl, by decide +kernel, rfl, by decide +kernel, by decide +kernel⟩
theorem bn_condition_in : BindOk "condition_in" s_condition_in ["text"] := fun _ _ _ _ _ _ us hl => match us, hl with | [_], _ => rfl
abbrev s_comprehension_in : Stmt := topS 49
theorem sc_comprehension_in : FnScope ["text", "now", "head", "loop", "tail", "word", "pieces", "found", "last", "piece", "index", "kind", "detail"] ["text", "now"] (defScope s_comprehension_in) := ⟨rfl, rfl, rfl, by decide +kernel, rfl, by decide +kernel, by decide +kernel⟩
theorem bn_comprehension_in : BindOk "comprehension_in" s_comprehension_in ["text", "now"] := fun _ _ _ _ _ _ us hl => match us, hl with | [_, _], _ => rfl
abbrev s_slice_in : Stmt := topS 50
theorem sc_slice_in : FnScope ["text", "now", "many", "kind", "detail", "start", "step"] ["text", "now"] (defScope s_slice_in) := ⟨rfl, rfl, rfl, by decide +kernel, rfl, by decide +kernel, by decide +kernel⟩
theorem bn_slice_in : BindOk "slice_in" s_slice_in ["text", "now"] := fun _ _ _ _ _ _ us hl => match us, hl with | [_, _], _ => rfl
abbrev s_call_in : Stmt := topS 51
theorem sc_call_in : FnScope ["text", "now", "numbers", "name", "bracket", "tail", "given", "body", "test"] ["text", "now"] (defScope s_call_in) := ⟨rfl, rfl, rfl, by decide +kernel, rfl, by decide +kernel, by decide +kernel⟩
theorem bn_call_in : BindOk "call_in" s_call_in ["text", "now"] := fun _ _ _ _ _ _ us hl => match us, hl with | [_, _], _ => rfl
abbrev s_list_in : Stmt := topS 52
theorem sc_list_in : FnScope ["text", "last", "but_last", "many"] ["text"] (defScope s_list_in) := ⟨rfl, rfl, rfl, by decide +kernel, rfl, by decide +kernel, by decide +kernel⟩
theorem bn_list_in : BindOk "list_in" s_list_in ["text"] := fun _ _ _ _ _ _ us hl => match us, hl with | [_], _ => rfl
abbrev s_stages_in : Stmt := topS 53
theorem sc_stages_in : FnScope ["line", "text", "start", "end", "body", "tail"] ["line"] (defScope s_stages_in) := ⟨rfl, rfl, rfl, by decide +kernel, rfl, by decide +kernel, by decide +kernel⟩
theorem bn_stages_in : BindOk "stages_in" s_stages_in ["line"] := fun _ _ _ _ _ _ us hl => match us, hl with | [_], _ => rfl
abbrev s_read_stages : Stmt := topS 54
theorem sc_read_stages : FnScope ["text", "lines", "found", "ended", "index", "line", "some"] ["text"] (defScope s_read_stages) := ⟨rfl, rfl, rfl, by decide +kernel, rfl, by decide +kernel, by decide +kernel⟩
theorem bn_read_stages : BindOk "read_stages" s_read_stages ["text"] := fun _ _ _ _ _ _ us hl => match us, hl with | [_], _ => rfl
abbrev s_check_flow : Stmt := topS 58
theorem sc_check_flow : FnScope ["value"] ["value"] (defScope s_check_flow) := ⟨rfl, rfl, rfl, by decide +kernel, rfl, by decide +kernel, by decide +kernel⟩
theorem bn_check_flow : BindOk "check_flow" s_check_flow ["value"] := fun _ _ _ _ _ _ us hl => match us, hl with | [_], _ => rfl
abbrev s_parts_of : Stmt := topS 61
theorem sc_parts_of : FnScope ["flow", "found", "part", "stage", "one"] ["flow"] (defScope s_parts_of) := ⟨rfl, rfl, rfl, by decide +kernel, rfl, by decide +kernel, by decide +kernel⟩
theorem bn_parts_of : BindOk "parts_of" s_parts_of ["flow"] := fun _ _ _ _ _ _ us hl => match us, hl with | [_], _ => rfl
abbrev s_left_of : Stmt := topS 62
theorem sc_left_of : FnScope ["stage", "values", "many"] ["stage", "values"] (defScope s_left_of) := ⟨rfl, rfl, rfl, by decide +kernel, rfl, by decide +kernel, by decide +kernel⟩
theorem bn_left_of : BindOk "left_of" s_left_of ["stage", "values"] := fun _ _ _ _ _ _ us hl => match us, hl with | [_, _], _ => rfl
abbrev s_is_counted_in : Stmt := topS 63
theorem sc_is_counted_in : FnScope ["kind", "detail", "seen", "period", "start"] ["kind", "detail", "seen"] (defScope s_is_counted_in) := ⟨rfl, rfl, rfl, by decide +kernel, rfl, by decide +kernel, by decide +kernel⟩
theorem bn_is_counted_in : BindOk "is_counted_in" s_is_counted_in ["kind", "detail", "seen"] := fun _ _ _ _ _ _ us hl => match us, hl with | [_, _, _], _ => rfl
abbrev s_played_part : Stmt := topS 65
theorem sc_played_part : FnScope ["stages", "values", "caller", "gates", "left", "value", "now", "goes", "is_over", "gate", "ends", "stage"] ["stages", "values", "caller"] (defScope s_played_part) := ⟨rfl, rfl, rfl, by decide +kernel, rfl, by decide +kernel, by decide +kernel⟩
theorem bn_played_part : BindOk "played_part" s_played_part ["stages", "values", "caller"] := fun _ _ _ _ _ _ us hl => match us, hl with | [_, _, _], _ => rfl
abbrev s_played : Stmt := topS 66
theorem sc_played : FnScope ["flow", "values", "caller", "left", "part"] ["flow", "values", "caller"] (defScope s_played) := ⟨rfl, rfl, rfl, by decide +kernel, rfl, by decide +kernel, by decide +kernel⟩
theorem bn_played : BindOk "played" s_played ["flow", "values", "caller"] := fun _ _ _ _ _ _ us hl => match us, hl with | [_, _, _], _ => rfl
abbrev s_names_of : Stmt := topS 69
theorem sc_names_of : FnScope ["flow", "found", "stage"] ["flow"] (defScope s_names_of) := ⟨rfl, rfl, rfl, by decide +kernel, rfl, by decide +kernel, by decide +kernel⟩
theorem bn_names_of : BindOk "names_of" s_names_of ["flow"] := fun _ _ _ _ _ _ us hl => match us, hl with | [_], _ => rfl
abbrev s_run : Stmt := topS 70
theorem sc_run : FnScope ["flow", "entries", "functions", "name", "runner", "left"] ["flow", "entries", "functions"] (defScope s_run) := ⟨rfl, rfl, rfl, by decide +kernel, rfl, by decide +kernel, by decide +kernel⟩
theorem bn_run : BindOk "run" s_run ["flow", "entries", "functions"] := fun _ _ _ _ _ _ us hl => match us, hl with | [_, _, _], _ => rfl
abbrev s_law_cell : Stmt := topS 72
theorem sc_law_cell : FnScope ["_law_cells", "_law_k", "_law_seed", "_law_cell_here_here"] ["_law_cells", "_law_k"] (defScope s_law_cell) := ⟨rfl, rfl, rfl, by decide +kernel, rfl, by decide +kernel, by decide +kernel⟩
theorem bn_law_cell : BindOk "_law_cell" s_law_cell ["_law_cells", "_law_k"] := fun _ _ _ _ _ _ us hl => match us, hl with | [_, _], _ => rfl
abbrev s_law_purse : Stmt := topS 73
theorem sc_law_purse : FnScope ["_law_cell_here", "_law_digits"] ["_law_cell_here"] (defScope s_law_purse) := ⟨rfl, rfl, rfl, by decide +kernel, rfl, by decide +kernel, by decide +kernel⟩
theorem bn_law_purse : BindOk "_law_purse" s_law_purse ["_law_cell_here"] := fun _ _ _ _ _ _ us hl => match us, hl with | [_], _ => rfl
abbrev s_law_take : Stmt := topS 74
theorem sc_law_take : FnScope ["_law_purse_here", "_law_many", "_law_seed", "_law_grown", "_law_digit"] ["_law_purse_here", "_law_many"] (defScope s_law_take) := ⟨rfl, rfl, rfl, by decide +kernel, rfl, by decide +kernel, by decide +kernel⟩
theorem bn_law_take : BindOk "_law_take" s_law_take ["_law_purse_here", "_law_many"] := fun _ _ _ _ _ _ us hl => match us, hl with | [_, _], _ => rfl
abbrev s_law_name : Stmt := topS 75
theorem sc_law_name : FnScope ["_law_purse_here", "_law_letter", "_law_many", "_law_k"] ["_law_purse_here"] (defScope s_law_name) := ⟨rfl, rfl, rfl, by decide +kernel, rfl, by decide +kernel, by decide +kernel⟩
theorem bn_law_name : BindOk "_law_name" s_law_name ["_law_purse_here"] := fun _ _ _ _ _ _ us hl => match us, hl with | [_], _ => rfl
abbrev s_law_tags : Stmt := topS 76
theorem sc_law_tags : FnScope ["_law_purse_here", "_law_many", "_law_alike", "_law_tags_here", "_law_k", "_law_tag"] ["_law_purse_here"] (defScope s_law_tags) := ⟨rfl, rfl, rfl, by decide +kernel, rfl, by decide +kernel, by decide +kernel⟩
theorem bn_law_tags : BindOk "_law_tags" s_law_tags ["_law_purse_here"] := fun _ _ _ _ _ _ us hl => match us, hl with | [_], _ => rfl
abbrev s_law_labels : Stmt := topS 77
theorem sc_law_labels : FnScope [] [] (defScope s_law_labels) := ⟨rfl, rfl, rfl, by decide +kernel, rfl, by decide +kernel, by decide +kernel⟩
theorem bn_law_labels : BindOk "_law_labels" s_law_labels [] := fun _ _ _ _ _ _ us hl => match us, hl with | [], _ => rfl
abbrev s_law_detail : Stmt := topS 78
theorem sc_law_detail : FnScope ["_law_purse_here", "_law_tags_here", "_law_label", "_law_small", "_law_by", "_law_many", "_law_k"] ["_law_purse_here", "_law_tags_here", "_law_label"] (defScope s_law_detail) := ⟨rfl, rfl, rfl, by decide +kernel, rfl, by decide +kernel, by decide +kernel⟩
theorem bn_law_detail : BindOk "_law_detail" s_law_detail ["_law_purse_here", "_law_tags_here", "_law_label"] := fun _ _ _ _ _ _ us hl => match us, hl with | [_, _, _], _ => rfl
abbrev s_law_part : Stmt := topS 79
theorem sc_law_part : FnScope ["_law_purse_here", "_law_tags_here", "_law_label", "_law_told"] ["_law_purse_here", "_law_tags_here"] (defScope s_law_part) := ⟨rfl, rfl, rfl, by decide +kernel, rfl, by decide +kernel, by decide +kernel⟩
theorem bn_law_part : BindOk "_law_part" s_law_part ["_law_purse_here", "_law_tags_here"] := fun _ _ _ _ _ _ us hl => match us, hl with | [_, _], _ => rfl
abbrev s_law_applied : Stmt := topS 80
theorem sc_law_applied : FnScope ["_law_names_here", "_law_inner", "_law_found", "_law_tag"] ["_law_names_here", "_law_inner"] (defScope s_law_applied) := ⟨rfl, rfl, rfl, by decide +kernel, rfl, by decide +kernel, by decide +kernel⟩
theorem bn_law_applied : BindOk "_law_applied" s_law_applied ["_law_names_here", "_law_inner"] := fun _ _ _ _ _ _ us hl => match us, hl with | [_, _], _ => rfl
abbrev s_law_line : Stmt := topS 81
theorem sc_law_line : FnScope ["_law_part_here", "_law_label", "_law_told", "_law_mode", "_law_found"] ["_law_part_here"] (defScope s_law_line) := ⟨rfl, rfl, rfl, by decide +kernel, rfl, by decide +kernel, by decide +kernel⟩
theorem bn_law_line : BindOk "_law_line" s_law_line ["_law_part_here"] := fun _ _ _ _ _ _ us hl => match us, hl with | [_], _ => rfl
abbrev s_law_test : Stmt := topS 82
theorem sc_law_test : FnScope ["_law_purse_here", "_law_tags_here", "_law_k"] ["_law_purse_here", "_law_tags_here"] (defScope s_law_test) := ⟨rfl, rfl, rfl, by decide +kernel, rfl, by decide +kernel, by decide +kernel⟩
theorem bn_law_test : BindOk "_law_test" s_law_test ["_law_purse_here", "_law_tags_here"] := fun _ _ _ _ _ _ us hl => match us, hl with | [_, _], _ => rfl
abbrev s_law_condition : Stmt := topS 83
theorem sc_law_condition : FnScope ["_law_part_here"] ["_law_part_here"] (defScope s_law_condition) := ⟨rfl, rfl, rfl, by decide +kernel, rfl, by decide +kernel, by decide +kernel⟩
theorem bn_law_condition : BindOk "_law_condition" s_law_condition ["_law_part_here"] := fun _ _ _ _ _ _ us hl => match us, hl with | [_], _ => rfl
abbrev s_law_conditions : Stmt := topS 84
theorem sc_law_conditions : FnScope ["_law_purse_here", "_law_tags_here", "_law_some", "_law_k", "_law_label", "_law_mode", "_law_word", "_law_found", "_law_part_here"] ["_law_purse_here", "_law_tags_here"] (defScope s_law_conditions) := ⟨rfl, rfl, rfl, by decide +kernel, rfl, by decide +kernel, by decide +kernel⟩
theorem bn_law_conditions : BindOk "_law_conditions" s_law_conditions ["_law_purse_here", "_law_tags_here"] := fun _ _ _ _ _ _ us hl => match us, hl with | [_, _], _ => rfl
abbrev s_law_call : Stmt := topS 85
theorem sc_law_call : FnScope ["_law_purse_here", "_law_tags_here", "_law_way", "_law_mode", "_law_tag", "_law_found", "_law_label"] ["_law_purse_here", "_law_tags_here"] (defScope s_law_call) := ⟨rfl, rfl, rfl, by decide +kernel, rfl, by decide +kernel, by decide +kernel⟩
theorem bn_law_call : BindOk "_law_call" s_law_call ["_law_purse_here", "_law_tags_here"] := fun _ _ _ _ _ _ us hl => match us, hl with | [_, _], _ => rfl
abbrev s_law_row : Stmt := topS 86
theorem sc_law_row : FnScope ["_law_purse_here", "_law_tags_here", "_law_way", "_law_part_here"] ["_law_purse_here", "_law_tags_here"] (defScope s_law_row) := ⟨rfl, rfl, rfl, by decide +kernel, rfl, by decide +kernel, by decide +kernel⟩
theorem bn_law_row : BindOk "_law_row" s_law_row ["_law_purse_here", "_law_tags_here"] := fun _ _ _ _ _ _ us hl => match us, hl with | [_, _], _ => rfl
abbrev s_law_rows : Stmt := topS 87
theorem sc_law_rows : FnScope ["_law_purse_here", "_law_most", "_law_tags_here", "_law_lines", "_law_steps", "_law_turn", "_law_line_here", "_law_some"] ["_law_purse_here", "_law_most"] (defScope s_law_rows) := ⟨rfl, rfl, rfl, by decide +kernel, rfl, by decide +kernel, by decide +kernel⟩
theorem bn_law_rows : BindOk "_law_rows" s_law_rows ["_law_purse_here", "_law_most"] := fun _ _ _ _ _ _ us hl => match us, hl with | [_, _], _ => rfl
abbrev s_law_apply : Stmt := topS 88
theorem sc_law_apply : FnScope ["_law_play_here", "_law_names_here", "_law_thing", "_law_tag"] ["_law_play_here", "_law_names_here", "_law_thing"] (defScope s_law_apply) := ⟨rfl, rfl, rfl, by decide +kernel, rfl, by decide +kernel, by decide +kernel⟩
theorem bn_law_apply : BindOk "_law_apply" s_law_apply ["_law_play_here", "_law_names_here", "_law_thing"] := fun _ _ _ _ _ _ us hl => match us, hl with | [_, _, _], _ => rfl
abbrev s_law_passes : Stmt := topS 89
theorem sc_law_passes : FnScope ["_law_play_here", "_law_conditions_here", "_law_thing", "_law_names_here", "_law_wanted"] ["_law_play_here", "_law_conditions_here", "_law_thing"] (defScope s_law_passes) := ⟨rfl, rfl, rfl, by decide +kernel, rfl, by decide +kernel, by decide +kernel⟩
theorem bn_law_passes : BindOk "_law_passes" s_law_passes ["_law_play_here", "_law_conditions_here", "_law_thing"] := fun _ _ _ _ _ _ us hl => match us, hl with | [_, _, _], _ => rfl
abbrev s_law_pull : Stmt := topS 90
theorem sc_law_pull : FnScope ["_law_play_here", "_law_source", "_law_sort_here", "_law_got"] ["_law_play_here", "_law_source"] (defScope s_law_pull) := ⟨rfl, rfl, rfl, by decide +kernel, rfl, by decide +kernel, by decide +kernel⟩
theorem bn_law_pull : BindOk "_law_pull" s_law_pull ["_law_play_here", "_law_source"] := fun _ _ _ _ _ _ us hl => match us, hl with | [_, _], _ => rfl
abbrev s_law_pull_slice : Stmt := topS 91
theorem sc_law_pull_slice : FnScope ["_law_play_here", "_law_source", "_law_got"] ["_law_play_here", "_law_source"] (defScope s_law_pull_slice) := ⟨rfl, rfl, rfl, by decide +kernel, rfl, by decide +kernel, by decide +kernel⟩
theorem bn_law_pull_slice : BindOk "_law_pull_slice" s_law_pull_slice ["_law_play_here", "_law_source"] := fun _ _ _ _ _ _ us hl => match us, hl with | [_, _], _ => rfl
abbrev s_law_all : Stmt := topS 92
theorem sc_law_all : FnScope ["_law_play_here", "_law_source", "_law_found", "_law_got"] ["_law_play_here", "_law_source"] (defScope s_law_all) := ⟨rfl, rfl, rfl, by decide +kernel, rfl, by decide +kernel, by decide +kernel⟩
theorem bn_law_all : BindOk "_law_all" s_law_all ["_law_play_here", "_law_source"] := fun _ _ _ _ _ _ us hl => match us, hl with | [_, _], _ => rfl
abbrev s_law_names_of : Stmt := topS 93
theorem sc_law_names_of : FnScope ["_law_written"] ["_law_written"] (defScope s_law_names_of) := ⟨rfl, rfl, rfl, by decide +kernel, rfl, by decide +kernel, by decide +kernel⟩
theorem bn_law_names_of : BindOk "_law_names_of" s_law_names_of ["_law_written"] := fun _ _ _ _ _ _ us hl => match us, hl with | [_], _ => rfl
abbrev s_law_call_begun : Stmt := topS 94
theorem sc_law_call_begun : FnScope ["_law_body", "_law_source", "_law_word", "_law_inner", "_law_pieces", "_law_given", "_law_names_here", "_law_tests_here"] ["_law_body", "_law_source"] (defScope s_law_call_begun) := ⟨rfl, rfl, rfl, by decide +kernel, rfl, by decide +kernel, by decide +kernel⟩
theorem bn_law_call_begun : BindOk "_law_call_begun" s_law_call_begun ["_law_body", "_law_source"] := fun _ _ _ _ _ _ us hl => match us, hl with | [_, _], _ => rfl
abbrev s_law_line_done : Stmt := topS 95
theorem sc_law_line_done : FnScope ["_law_play_here", "_law_line_here", "_law_source", "_law_found", "_law_tail", "_law_pieces", "_law_tests_here", "_law_begun", "_law_piece"] ["_law_play_here", "_law_line_here", "_law_source"] (defScope s_law_line_done) := ⟨rfl, rfl, rfl, by decide +kernel, rfl, by decide +kernel, by decide +kernel⟩
theorem bn_law_line_done : BindOk "_law_line_done" s_law_line_done ["_law_play_here", "_law_line_here", "_law_source"] := fun _ _ _ _ _ _ us hl => match us, hl with | [_, _, _], _ => rfl
abbrev s_law_carried : Stmt := topS 96
theorem sc_law_carried : FnScope ["_law_play_here", "_law_written", "_law_values_here", "_law_source", "_law_line_here"] ["_law_play_here", "_law_written", "_law_values_here"] (defScope s_law_carried) := ⟨rfl, rfl, rfl, by decide +kernel, rfl, by decide +kernel, by decide +kernel⟩
theorem bn_law_carried : BindOk "_law_carried" s_law_carried ["_law_play_here", "_law_written", "_law_values_here"] := fun _ _ _ _ _ _ us hl => match us, hl with | [_, _, _], _ => rfl
abbrev s_law_answer : Stmt := topS 97
theorem sc_law_answer : FnScope ["_law_play_here", "_law_tag", "_law_thing", "_law_act", "_law_answer_here"] ["_law_play_here", "_law_tag", "_law_thing"] (defScope s_law_answer) := ⟨rfl, rfl, rfl, by decide +kernel, rfl, by decide +kernel, by decide +kernel⟩
theorem bn_law_answer : BindOk "_law_answer" s_law_answer ["_law_play_here", "_law_tag", "_law_thing"] := fun _ _ _ _ _ _ us hl => match us, hl with | [_, _, _], _ => rfl
abbrev s_law_truth : Stmt := topS 98
theorem sc_law_truth : FnScope ["_law_play_here", "_law_answer_here"] ["_law_play_here", "_law_answer_here"] (defScope s_law_truth) := ⟨rfl, rfl, rfl, by decide +kernel, rfl, by decide +kernel, by decide +kernel⟩
theorem bn_law_truth : BindOk "_law_truth" s_law_truth ["_law_play_here", "_law_answer_here"] := fun _ _ _ _ _ _ us hl => match us, hl with | [_, _], _ => rfl
abbrev s_law_number_function : Stmt := topS 99
theorem sc_law_number_function : FnScope ["_law_by", "_law_more", "_law_modulus"] ["_law_by", "_law_more", "_law_modulus"] (defScope s_law_number_function) := ⟨rfl, rfl, rfl, by decide +kernel, rfl, by decide +kernel, by decide +kernel⟩
theorem bn_law_number_function : BindOk "_law_number_function" s_law_number_function ["_law_by", "_law_more", "_law_modulus"] := fun _ _ _ _ _ _ us hl => match us, hl with | [_, _, _], _ => rfl
abbrev s_law_truth_function : Stmt := topS 100
theorem sc_law_truth_function : FnScope ["_law_more", "_law_modulus"] ["_law_more", "_law_modulus"] (defScope s_law_truth_function) := ⟨rfl, rfl, rfl, by decide +kernel, rfl, by decide +kernel, by decide +kernel⟩
theorem bn_law_truth_function : BindOk "_law_truth_function" s_law_truth_function ["_law_more", "_law_modulus"] := fun _ _ _ _ _ _ us hl => match us, hl with | [_, _], _ => rfl
abbrev s_law_functions : Stmt := topS 101
theorem sc_law_functions : FnScope ["_law_purse_here", "_law_tags_here", "_law_found", "_law_tag", "_law_by", "_law_more", "_law_modulus"] ["_law_purse_here", "_law_tags_here"] (defScope s_law_functions) := ⟨rfl, rfl, rfl, by decide +kernel, rfl, by decide +kernel, by decide +kernel⟩
theorem bn_law_functions : BindOk "_law_functions" s_law_functions ["_law_purse_here", "_law_tags_here"] := fun _ _ _ _ _ _ us hl => match us, hl with | [_, _], _ => rfl
abbrev s_law_numbers : Stmt := topS 102
theorem sc_law_numbers : FnScope ["_law_purse_here", "_law_many", "_law_found", "_law_k", "_law_great"] ["_law_purse_here", "_law_many"] (defScope s_law_numbers) := ⟨rfl, rfl, rfl, by decide +kernel, rfl, by decide +kernel, by decide +kernel⟩
theorem bn_law_numbers : BindOk "_law_numbers" s_law_numbers ["_law_purse_here", "_law_many"] := fun _ _ _ _ _ _ us hl => match us, hl with | [_, _], _ => rfl
abbrev s_law_names_in : Stmt := topS 103
theorem sc_law_names_in : FnScope ["_law_steps", "_law_found", "_law_part_here", "_law_tag"] ["_law_steps"] (defScope s_law_names_in) := ⟨rfl, rfl, rfl, by decide +kernel, rfl, by decide +kernel, by decide +kernel⟩
theorem bn_law_names_in : BindOk "_law_names_in" s_law_names_in ["_law_steps"] := fun _ _ _ _ _ _ us hl => match us, hl with | [_], _ => rfl
abbrev s_law_run_right : Stmt := topS 104
theorem sc_law_run_right : FnScope ["_law_purse_here", "_law_mine", "_law_written", "_law_tags_here", "_law_functions_here", "_law_values_here", "_law_calls_here", "_law_due", "_law_kept", "_law_told", "_law_back", "_law_tag"] ["_law_purse_here", "_law_mine", "_law_written", "_law_tags_here"] (defScope s_law_run_right) := ⟨rfl, rfl, rfl, by decide +kernel, rfl, by decide +kernel, by decide +kernel⟩
theorem bn_law_run_right : BindOk "_law_run_right" s_law_run_right ["_law_purse_here", "_law_mine", "_law_written", "_law_tags_here"] := fun _ _ _ _ _ _ us hl => match us, hl with | [_, _, _, _], _ => rfl
abbrev s_law_right : Stmt := topS 105
theorem sc_law_right : FnScope ["_law_purse_here", "_law_turn", "_law_lines", "_law_steps", "_law_written", "_law_mine", "_law_twin", "_law_tags_here"] ["_law_purse_here"] (defScope s_law_right) := ⟨rfl, rfl, rfl, by decide +kernel, rfl, by decide +kernel, by decide +kernel⟩
theorem bn_law_right : BindOk "_law_right" s_law_right ["_law_purse_here"] := fun _ _ _ _ _ _ us hl => match us, hl with | [_], _ => rfl
abbrev s_law : Stmt := topS 106
theorem sc_law : FnScope ["_law_cells", "_law_mine", "_law_told", "_law_k"] ["_law_cells"] (defScope s_law) := ⟨rfl, rfl, rfl, by decide +kernel, rfl, by decide +kernel, by decide +kernel⟩
theorem bn_law : BindOk "law" s_law ["_law_cells"] := fun _ _ _ _ _ _ us hl => match us, hl with | [_], _ => rfl
abbrev s_Stage_init : Stmt := inClass (topS 38) 0
theorem sc_Stage_init : FnScope ["self", "kind", "detail", "now"] ["self", "kind", "detail", "now"] (defScope s_Stage_init) := ⟨rfl, rfl, rfl, by decide +kernel, rfl, by decide +kernel, by decide +kernel⟩
abbrev s_Stage_kind : Stmt := inClass (topS 38) 1
theorem sc_Stage_kind : FnScope ["self"] ["self"] (defScope s_Stage_kind) := ⟨rfl, rfl, rfl, by decide +kernel, rfl, by decide +kernel, by decide +kernel⟩
abbrev s_Stage_detail : Stmt := inClass (topS 38) 2
theorem sc_Stage_detail : FnScope ["self"] ["self"] (defScope s_Stage_detail) := ⟨rfl, rfl, rfl, by decide +kernel, rfl, by decide +kernel, by decide +kernel⟩
abbrev s_Stage_now : Stmt := inClass (topS 38) 3
theorem sc_Stage_now : FnScope ["self"] ["self"] (defScope s_Stage_now) := ⟨rfl, rfl, rfl, by decide +kernel, rfl, by decide +kernel, by decide +kernel⟩
abbrev s_Flow_init : Stmt := inClass (topS 57) 0
theorem sc_Flow_init : FnScope ["self", "stages", "index", "stage"] ["self", "stages"] (defScope s_Flow_init) := ⟨rfl, rfl, rfl, by decide +kernel, rfl, by decide +kernel, by decide +kernel⟩
abbrev s_Flow_read : Stmt := inClass (topS 57) 2
theorem sc_Flow_read : FnScope ["cls", "text", "found"] ["cls", "text"] (defScope s_Flow_read) := ⟨rfl, rfl, rfl, by decide +kernel, rfl, by decide +kernel, by decide +kernel⟩
abbrev s_Flow_stages : Stmt := inClass (topS 57) 3
theorem sc_Flow_stages : FnScope ["self"] ["self"] (defScope s_Flow_stages) := ⟨rfl, rfl, rfl, by decide +kernel, rfl, by decide +kernel, by decide +kernel⟩
abbrev s_Gate_init : Stmt := inClass (topS 64) 0
theorem sc_Gate_init : FnScope ["self", "stage"] ["self", "stage"] (defScope s_Gate_init) := ⟨rfl, rfl, rfl, by decide +kernel, rfl, by decide +kernel, by decide +kernel⟩
abbrev s_Gate_passed : Stmt := inClass (topS 64) 1
theorem sc_Gate_passed : FnScope ["self", "value", "caller", "kind", "detail", "truth"] ["self", "value", "caller"] (defScope s_Gate_passed) := ⟨rfl, rfl, rfl, by decide +kernel, rfl, by decide +kernel, by decide +kernel⟩
abbrev s_Runner_init : Stmt := inClass (topS 68) 0
theorem sc_Runner_init : FnScope ["self", "functions"] ["self", "functions"] (defScope s_Runner_init) := ⟨rfl, rfl, rfl, by decide +kernel, rfl, by decide +kernel, by decide +kernel⟩
abbrev s_Runner_behind : Stmt := inClass (topS 68) 1
theorem sc_Runner_behind : FnScope ["self", "names", "value", "name", "function", "answer"] ["self", "names", "value"] (defScope s_Runner_behind) := ⟨rfl, rfl, rfl, by decide +kernel, rfl, by decide +kernel, by decide +kernel⟩
abbrev s_Runner_is_true : Stmt := inClass (topS 68) 2
theorem sc_Runner_is_true : FnScope ["self", "test", "value"] ["self", "test", "value"] (defScope s_Runner_is_true) := ⟨rfl, rfl, rfl, by decide +kernel, rfl, by decide +kernel, by decide +kernel⟩
/-- what the head tells -/
structure Tx (K : PySem.W.Frag) (mg : Str → Option Value) (w : World) : Prop where
  z_isinstance : mg "isinstance" = none
  z_int : mg "int" = none
  z_bool : mg "bool" = none
  z_str : mg "str" = none
  z_tuple : mg "tuple" = none
  z_len : mg "len" = none
  z_all : mg "all" = none
  z_any : mg "any" = none
  z_list : mg "list" = none
  z_dict : mg "dict" = none
  z_max : mg "max" = none
  z_min : mg "min" = none
  z_abs : mg "abs" = none
  z_range : mg "range" = none
  z_enumerate : mg "enumerate" = none
  z_repr : mg "repr" = none
  z_divmod : mg "divmod" = none
  g_KINDS : mg "KINDS" = some (.ref (He.ga K "KINDS"))
  t_KINDS : ∀ H : Hp, SqT K H (He.ga K "KINDS") ((["each", "keep", "drop", "while", "from", "first", "skip", "every", "last", "but last", "turned"] : List Str).map V.str)
  g_LIST_KINDS : mg "LIST_KINDS" = some (.ref (He.ga K "LIST_KINDS"))
  t_LIST_KINDS : ∀ H : Hp, SqT K H (He.ga K "LIST_KINDS") ((["last", "but last", "turned"] : List Str).map V.str)
  g_TESTED : mg "TESTED" = some (.ref (He.ga K "TESTED"))
  t_TESTED : ∀ H : Hp, SqT K H (He.ga K "TESTED") ((["keep", "drop", "while", "from"] : List Str).map V.str)
  g_COUNTED : mg "COUNTED" = some (.ref (He.ga K "COUNTED"))
  t_COUNTED : ∀ H : Hp, SqT K H (He.ga K "COUNTED") ((["first", "skip", "every"] : List Str).map V.str)
  i_MOST_STAGES : ∃ t, mg "MOST_STAGES" = some (.int 8 t)
  i_MOST_DIGITS : ∃ t, mg "MOST_DIGITS" = some (.int 3 t)
  i_MOST_NAMES : ∃ t, mg "MOST_NAMES" = some (.int 3 t)
  i_MOST : ∃ t, mg "MOST" = some (.int 9 t)
  i_MOST_CONDITIONS : ∃ t, mg "MOST_CONDITIONS" = some (.int 3 t)
  s_LETTERS : ∃ t, mg "LETTERS" = some (.str "abcdefghijklmnopqrstuvwyz" t)
  s_DIGITS : ∃ t, mg "DIGITS" = some (.str "0123456789" t)
  s_BEGIN : ∃ t, mg "BEGIN" = some (.str "rows = " t)
  s_LAST_LINE : ∃ t, mg "LAST_LINE" = some (.str "return list(rows)" t)
  s_LOOP : ∃ t, mg "LOOP" = some (.str " for x in rows" t)
  s_LAMBDA : ∃ t, mg "LAMBDA" = some (.str "lambda x: " t)
  g_CALLS : mg "CALLS" = some (.ref (He.ga K "CALLS"))
  d_CALLS : ∃ es n, KDict K w (He.ga K "CALLS") es n
  c_takewhile : ∃ t, PySem.W.nsIn K (He.ga K "CALLS") "takewhile" = some (some (.str "while" t))
  c_dropwhile : ∃ t, PySem.W.nsIn K (He.ga K "CALLS") "dropwhile" = some (some (.str "from" t))
  c_map : ∃ t, PySem.W.nsIn K (He.ga K "CALLS") "map" = some (some (.str "each" t))
  c_filter : ∃ t, PySem.W.nsIn K (He.ga K "CALLS") "filter" = some (some (.str "keep" t))
  g_Stage : mg "Stage" = some (.ref (He.ga K "Stage"))
  k_Stage : PySem.W.keepIn K (.ref (He.ga K "Stage")) = true
  cl_Stage : Cls K (He.ga K "Stage")
  mk_Stage : Mk K (He.ga K "Stage") (He.ma K (He.ga K "Stage") "__init__")
  n_Stage_fields : NoAttr K (He.ga K "Stage") "fields"
  g_Flow : mg "Flow" = some (.ref (He.ga K "Flow"))
  k_Flow : PySem.W.keepIn K (.ref (He.ga K "Flow")) = true
  cl_Flow : Cls K (He.ga K "Flow")
  mk_Flow : Mk K (He.ga K "Flow") (He.ma K (He.ga K "Flow") "__init__")
  n_Flow_kept : NoAttr K (He.ga K "Flow") "kept"
  g_Gate : mg "Gate" = some (.ref (He.ga K "Gate"))
  k_Gate : PySem.W.keepIn K (.ref (He.ga K "Gate")) = true
  cl_Gate : Cls K (He.ga K "Gate")
  mk_Gate : Mk K (He.ga K "Gate") (He.ma K (He.ga K "Gate") "__init__")
  n_Gate_stage : NoAttr K (He.ga K "Gate") "stage"
  n_Gate_seen : NoAttr K (He.ga K "Gate") "seen"
  n_Gate_is_open : NoAttr K (He.ga K "Gate") "is_open"
  g_Runner : mg "Runner" = some (.ref (He.ga K "Runner"))
  k_Runner : PySem.W.keepIn K (.ref (He.ga K "Runner")) = true
  cl_Runner : Cls K (He.ga K "Runner")
  mk_Runner : Mk K (He.ga K "Runner") (He.ma K (He.ga K "Runner") "__init__")
  n_Runner_functions : NoAttr K (He.ga K "Runner") "functions"
  n_Runner_made : NoAttr K (He.ga K "Runner") "made"
  y_Stage : PySem.W.kitOne K (.ref (He.ga K "Stage")) (.ref (He.ga K "Stage")) = some true
  y_Flow : PySem.W.kitOne K (.ref (He.ga K "Flow")) (.ref (He.ga K "Flow")) = some true
  x_Stage : InsT K (He.ga K "Stage")
  x_Flow : InsT K (He.ga K "Flow")
  ne_cls : He.ga K "Stage" ≠ He.ga K "Flow"
  d_is_integer : Gf K mg "is_integer" s_is_integer
  d_is_name : Gf K mg "is_name" s_is_name
  d_are_names : Gf K mg "are_names" s_are_names
  d_is_word : Gf K mg "is_word" s_is_word
  d_is_test : Gf K mg "is_test" s_is_test
  d_names_in : Gf K mg "names_in" s_names_in
  d_is_count : Gf K mg "is_count" s_is_count
  d_is_detail : Gf K mg "is_detail" s_is_detail
  d_inside : Gf K mg "inside" s_inside
  d_digit_in : Gf K mg "digit_in" s_digit_in
  d_condition_in : Gf K mg "condition_in" s_condition_in
  d_comprehension_in : Gf K mg "comprehension_in" s_comprehension_in
  d_slice_in : Gf K mg "slice_in" s_slice_in
  d_call_in : Gf K mg "call_in" s_call_in
  d_list_in : Gf K mg "list_in" s_list_in
  d_stages_in : Gf K mg "stages_in" s_stages_in
  d_read_stages : Gf K mg "read_stages" s_read_stages
  d_check_flow : Gf K mg "check_flow" s_check_flow
  d_parts_of : Gf K mg "parts_of" s_parts_of
  d_left_of : Gf K mg "left_of" s_left_of
  d_is_counted_in : Gf K mg "is_counted_in" s_is_counted_in
  d_played_part : Gf K mg "played_part" s_played_part
  d_played : Gf K mg "played" s_played
  d_names_of : Gf K mg "names_of" s_names_of
  d_run : Gf K mg "run" s_run
  d_law_cell : Gf K mg "_law_cell" s_law_cell
  d_law_purse : Gf K mg "_law_purse" s_law_purse
  d_law_take : Gf K mg "_law_take" s_law_take
  d_law_name : Gf K mg "_law_name" s_law_name
  d_law_tags : Gf K mg "_law_tags" s_law_tags
  d_law_labels : Gf K mg "_law_labels" s_law_labels
  d_law_detail : Gf K mg "_law_detail" s_law_detail
  d_law_part : Gf K mg "_law_part" s_law_part
  d_law_applied : Gf K mg "_law_applied" s_law_applied
  d_law_line : Gf K mg "_law_line" s_law_line
  d_law_test : Gf K mg "_law_test" s_law_test
  d_law_condition : Gf K mg "_law_condition" s_law_condition
  d_law_conditions : Gf K mg "_law_conditions" s_law_conditions
  d_law_call : Gf K mg "_law_call" s_law_call
  d_law_row : Gf K mg "_law_row" s_law_row
  d_law_rows : Gf K mg "_law_rows" s_law_rows
  d_law_apply : Gf K mg "_law_apply" s_law_apply
  d_law_passes : Gf K mg "_law_passes" s_law_passes
  d_law_pull : Gf K mg "_law_pull" s_law_pull
  d_law_pull_slice : Gf K mg "_law_pull_slice" s_law_pull_slice
  d_law_all : Gf K mg "_law_all" s_law_all
  d_law_names_of : Gf K mg "_law_names_of" s_law_names_of
  d_law_call_begun : Gf K mg "_law_call_begun" s_law_call_begun
  d_law_line_done : Gf K mg "_law_line_done" s_law_line_done
  d_law_carried : Gf K mg "_law_carried" s_law_carried
  d_law_answer : Gf K mg "_law_answer" s_law_answer
  d_law_truth : Gf K mg "_law_truth" s_law_truth
  d_law_number_function : Gf K mg "_law_number_function" s_law_number_function
  d_law_truth_function : Gf K mg "_law_truth_function" s_law_truth_function
  d_law_functions : Gf K mg "_law_functions" s_law_functions
  d_law_numbers : Gf K mg "_law_numbers" s_law_numbers
  d_law_names_in : Gf K mg "_law_names_in" s_law_names_in
  d_law_run_right : Gf K mg "_law_run_right" s_law_run_right
  d_law_right : Gf K mg "_law_right" s_law_right
  d_law : Gf K mg "law" s_law
  d_Stage_init : Mf K "__init__" "Stage.__init__" s_Stage_init [.non] [("now", .bl false)] (He.ma K (He.ga K "Stage") "__init__")
  m_Stage_kind : PropOf K (He.ga K "Stage") "kind" (He.ma K (He.ga K "Stage") "kind") (pgA K "property" (He.ga K "Stage") "kind")
  d_Stage_kind : Mf K "kind" "Stage.kind" s_Stage_kind [] [] (pgA K "property" (He.ga K "Stage") "kind")
  m_Stage_detail : PropOf K (He.ga K "Stage") "detail" (He.ma K (He.ga K "Stage") "detail") (pgA K "property" (He.ga K "Stage") "detail")
  d_Stage_detail : Mf K "detail" "Stage.detail" s_Stage_detail [] [] (pgA K "property" (He.ga K "Stage") "detail")
  m_Stage_now : PropOf K (He.ga K "Stage") "now" (He.ma K (He.ga K "Stage") "now") (pgA K "property" (He.ga K "Stage") "now")
  d_Stage_now : Mf K "now" "Stage.now" s_Stage_now [] [] (pgA K "property" (He.ga K "Stage") "now")
  d_Flow_init : Mf K "__init__" "Flow.__init__" s_Flow_init [] [] (He.ma K (He.ga K "Flow") "__init__")
  r_Flow_read : ClX.CRead K (He.ga K "Flow") (.type "type")
  m_Flow_read : ClX.CMet K (He.ga K "Flow") (.type "type") "read" (He.ma K (He.ga K "Flow") "read") (pgA K "classmethod" (He.ga K "Flow") "read")
  d_Flow_read : Mf K "read" "Flow.read" s_Flow_read [] [] (pgA K "classmethod" (He.ga K "Flow") "read")
  m_Flow_stages : PropOf K (He.ga K "Flow") "stages" (He.ma K (He.ga K "Flow") "stages") (pgA K "property" (He.ga K "Flow") "stages")
  d_Flow_stages : Mf K "stages" "Flow.stages" s_Flow_stages [] [] (pgA K "property" (He.ga K "Flow") "stages")
  d_Gate_init : Mf K "__init__" "Gate.__init__" s_Gate_init [] [] (He.ma K (He.ga K "Gate") "__init__")
  m_Gate_passed : Meth K (He.ga K "Gate") "passed" (He.ma K (He.ga K "Gate") "passed")
  d_Gate_passed : Mf K "passed" "Gate.passed" s_Gate_passed [] [] (He.ma K (He.ga K "Gate") "passed")
  d_Runner_init : Mf K "__init__" "Runner.__init__" s_Runner_init [] [] (He.ma K (He.ga K "Runner") "__init__")
  m_Runner_behind : Meth K (He.ga K "Runner") "behind" (He.ma K (He.ga K "Runner") "behind")
  d_Runner_behind : Mf K "behind" "Runner.behind" s_Runner_behind [] [] (He.ma K (He.ga K "Runner") "behind")
  m_Runner_is_true : Meth K (He.ga K "Runner") "is_true" (He.ma K (He.ga K "Runner") "is_true")
  d_Runner_is_true : Mf K "is_true" "Runner.is_true" s_Runner_is_true [] [] (He.ma K (He.ga K "Runner") "is_true")
end K

set_option Elab.async false
set_option linter.all false
set_option maxRecDepth 100000
set_option maxHeartbeats 4000000
/-! HK: the head's facts. -/
namespace K
open PySem PySem.Spec PyProof.Rows L2 He LamX
/-! ### forced lists -/
def frcK {α : Type} : PySem.W.Frag → (PySem.W.Frag → α) → α
  | [], k => k []
  | (a, o) :: r, k => HandSHeadRun.frNat a fun a => frcK r fun r => k ((a, o) :: r)
theorem frcK_eq {α : Type} : ∀ (l : PySem.W.Frag) (k : PySem.W.Frag → α), frcK l k = k l
  | [], k => rfl
  | (a, o) :: r, k => by
    show HandSHeadRun.frNat a (fun a => frcK r fun r => k ((a, o) :: r)) = _
    rw [HandSHeadRun.frNat_eq, frcK_eq r]
def frcN {α : Type} : List Addr → (List Addr → α) → α
  | [], k => k []
  | a :: r, k => HandSHeadRun.frNat a fun a => frcN r fun r => k (a :: r)
theorem frcN_eq {α : Type} : ∀ (l : List Addr) (k : List Addr → α), frcN l k = k l
  | [], k => rfl
  | a :: r, k => by
    show HandSHeadRun.frNat a (fun a => frcN r fun r => k (a :: r)) = _
    rw [HandSHeadRun.frNat_eq, frcN_eq r]
/-! ### a def at an address -/
structure Dd where
  a : PySem.W.Frag → Addr
  name : Str
  qual : Str
  st : Stmt
  dv : List V
  kw : List (Str × V)
def fnA (K : PySem.W.Frag) (a : Addr) : He.FnW := match K.lookup a with
  | some ⟨_, _, .func fd, _⟩ => some (fd.name, fd.qualname, fd.params, fd.body, fd.scope, fd.globals, fd.closure, fd.builtins)
  | _ => none
def Dd.val (d : Dd) : He.FnW := some (d.name, d.qual, defArgs d.st, .stmts (defBody d.st), defScope d.st, mainGlobals, [], builtinsNs)
def Dd.ok (K : PySem.W.Frag) (d : Dd) : Bool := PySem.W.keepIn K (.ref (d.a K)) && (match K.lookup (d.a K) with
  | some ⟨_, _, .func fd, _⟩ => PySem.W.codeIn K fd.code d.qual && (He.dflB K fd.defaults d.dv && He.kwdB K fd.kwdefaults d.kw)
  | _ => false)
theorem Dd.funD {K : PySem.W.Frag} {d : Dd} (e : fnA K (d.a K) = d.val) (c : d.ok K = true) : ∃ fd, FunD K d.name d.qual (defArgs d.st) (defBody d.st) (defScope d.st) d.dv d.kw (d.a K) fd := by
  obtain ⟨kp, c2⟩ := He.ba c
  unfold fnA at e
  cases hq : K.lookup (d.a K) with
  | none => rw [hq] at c2; cases c2
  | some o =>
    obtain ⟨oc, od, dt, osl⟩ := o
    rw [hq] at c2 e
    cases dt with
    | func fd =>
      obtain ⟨m1, m2, m3, m4, m5, m6, m7, m8, m9, m10, m11, m12, m13, m14, m15⟩ := fd
      have e2 : (some (m1, m2, m3, m4, m5, m6, m7, m15) : He.FnW) = some (d.name, d.qual, defArgs d.st, .stmts (defBody d.st), defScope d.st, mainGlobals, [], builtinsNs) := e
      simp only [Option.some.injEq, Prod.mk.injEq] at e2
      obtain ⟨h1, h2, h3, h4, h5, h6, h7, h8⟩ := e2
      subst h1 h2 h3 h4 h5 h6 h7 h8
      have c3 : (PySem.W.codeIn K m13 d.qual && (He.dflB K m8 d.dv && He.kwdB K m9 d.kw)) = true := c2
      obtain ⟨k1, k2⟩ := He.ba c3
      obtain ⟨k3, k4⟩ := He.ba k2
      exact ⟨_, ⟨oc, od, m8, m9, m10, m11, m12, m13, m14, osl, rfl, hq, k1, He.dflB_ok k3, He.kwdB_ok k4⟩, kp⟩
    | _ => cases c2
/-! ### more facts -/
def insB (K : PySem.W.Frag) (C : Addr) : Bool := He.eqO (PySem.W.findIn K (.ref C) "__class__") (some (some (.builtin "object.__class__"))) && (He.eqO (PySem.W.specialIn K (.builtin "object.__class__") "__get__") (some (some (.builtin "getset_descriptor.__get__"))) &&
  (decide (PySem.W.takesIn K (.builtin "object.__class__") = some true) && decide (PySem.W.mroIn K C (.type "object") = some true)))
theorem insB_ok {K : PySem.W.Frag} {C : Addr} (h : insB K C = true) : InsT K C := by
  obtain ⟨h1, h⟩ := He.ba h
  obtain ⟨h2, h⟩ := He.ba h
  obtain ⟨h3, h4⟩ := He.ba h
  exact ⟨He.eqO_ok h1, He.eqO_ok h2, of_decide_eq_true h3, of_decide_eq_true h4⟩
def neB (K : PySem.W.Frag) (x y : Str) : Bool := !(He.ga K x == He.ga K y)
theorem neB_ok {K : PySem.W.Frag} {x y : Str} (h : neB K x y = true) : He.ga K x ≠ He.ga K y := fun e => by
  unfold neB at h
  rw [e, beq_self_eq_true] at h
  cases h
def recB (K : PySem.W.Frag) (p : Addr) (t : String) : Bool := match PySem.W.recIn K p t with
  | some (.ref _ :: _) => true
  | _ => false
theorem recB_ok {K : PySem.W.Frag} {C : Addr} {f : Str} {t : String} (h : recB K (He.ma K C f) t = true) : ∃ rest, PySem.W.recIn K (He.ma K C f) t = some (.ref (pgA K t C f) :: rest) := by
  unfold recB at h
  unfold pgA
  cases e : PySem.W.recIn K (He.ma K C f) t with
  | none => rw [e] at h; cases h
  | some l =>
    rw [e] at h
    cases l with
    | nil => cases h
    | cons v r =>
      cases v with
      | ref g => exact ⟨r, rfl⟩
      | _ => cases h
def propB (K : PySem.W.Frag) (C : Addr) (f : Str) : Bool := He.eqO (PySem.W.findIn K (.ref C) f) (some (some (.ref (He.ma K C f)))) && (He.eqO (PySem.W.specialIn K (.ref (He.ma K C f)) "__get__") (some (some (.builtin "property.__get__"))) &&
  (decide (PySem.W.takesIn K (.ref (He.ma K C f)) = some true) && recB K (He.ma K C f) "property"))
theorem propB_ok {K : PySem.W.Frag} {C : Addr} {f : Str} (h : propB K C f = true) : PropOf K C f (He.ma K C f) (pgA K "property" C f) := by
  obtain ⟨h1, h⟩ := He.ba h
  obtain ⟨h2, h⟩ := He.ba h
  obtain ⟨h3, h4⟩ := He.ba h
  exact ⟨He.eqO_ok h1, He.eqO_ok h2, of_decide_eq_true h3, recB_ok h4⟩
def readB (K : PySem.W.Frag) (C : Addr) : Bool := PySem.W.readsIn K C (.type "type") && He.eqO (PySem.W.specialIn K (.ref C) "__getattribute__") (some (some (.builtin "type.__getattribute__")))
theorem readB_ok {K : PySem.W.Frag} {C : Addr} (h : readB K C = true) : ClX.CRead K C (.type "type") := by
  obtain ⟨h1, h2⟩ := He.ba h
  exact ⟨h1, He.eqO_ok h2⟩
def getB (x : Option PySem.W.CFound) (p C : Addr) : Bool := match x with
  | some (.get (.builtin g) (.ref q) .none (.ref D)) => decide (g = "classmethod.__get__") && (q == p && D == C)
  | _ => false
theorem getB_ok {x : Option PySem.W.CFound} {p C : Addr} (h : getB x p C = true) : x = some (.get (.builtin "classmethod.__get__") (.ref p) .none (.ref C)) := by
  unfold getB at h
  split at h
  · obtain ⟨h1, h2⟩ := He.ba h
    obtain ⟨h3, h4⟩ := He.ba h2
    rw [of_decide_eq_true h1, beq_iff_eq.mp h3, beq_iff_eq.mp h4]
  · cases h
def cmetB (K : PySem.W.Frag) (C : Addr) (m : Str) : Bool := getB (PySem.W.findCls K (.ref C) (.type "type") m) (He.ma K C m) C && (recB K (He.ma K C m) "classmethod" && PySem.W.fnIn K (pgA K "classmethod" C m))
theorem cmetB_ok {K : PySem.W.Frag} {C : Addr} {m : Str} (h : cmetB K C m = true) : ClX.CMet K C (.type "type") m (He.ma K C m) (pgA K "classmethod" C m) := by
  obtain ⟨h1, h⟩ := He.ba h
  obtain ⟨h2, h3⟩ := He.ba h
  exact ⟨getB_ok h1, recB_ok h2, h3⟩
theorem calls_of {K : PySem.W.Frag} {a : Addr} {kvs : List (Str × He.Dv)} (h : He.valsB K a kvs = true) {x z : Str} (i : Nat) (e : kvs[i]? = some (x, .str z)) : ∃ t, PySem.W.nsIn K a x = some (some (.str z t)) := by
  obtain ⟨u, h1, t, h2⟩ := He.valsB_ok h (List.mem_of_getElem? e)
  exact ⟨t, by rw [h1, h2]⟩
def dds0 : List Dd := [⟨fun K => He.ga K "is_integer", "is_integer", "is_integer", s_is_integer, [], []⟩, ⟨fun K => He.ga K "is_name", "is_name", "is_name", s_is_name, [], []⟩, ⟨fun K => He.ga K "are_names", "are_names", "are_names", s_are_names, [], []⟩, ⟨fun K => He.ga K "is_word", "is_word", "is_word", s_is_word, [], []⟩, ⟨fun K => He.ga K "is_test", "is_test", "is_test", s_is_test, [], []⟩, ⟨fun K => He.ga K "names_in", "names_in", "names_in", s_names_in, [], []⟩, ⟨fun K => He.ga K "is_count", "is_count", "is_count", s_is_count, [], []⟩, ⟨fun K => He.ga K "is_detail", "is_detail", "is_detail", s_is_detail, [], []⟩, ⟨fun K => He.ga K "inside", "inside", "inside", s_inside, [], []⟩, ⟨fun K => He.ga K "digit_in", "digit_in", "digit_in", s_digit_in, [], []⟩]
def dds1 : List Dd := [⟨fun K => He.ga K "condition_in", "condition_in", "condition_in", s_condition_in, [], []⟩, ⟨fun K => He.ga K "comprehension_in", "comprehension_in", "comprehension_in", s_comprehension_in, [], []⟩, ⟨fun K => He.ga K "slice_in", "slice_in", "slice_in", s_slice_in, [], []⟩, ⟨fun K => He.ga K "call_in", "call_in", "call_in", s_call_in, [], []⟩, ⟨fun K => He.ga K "list_in", "list_in", "list_in", s_list_in, [], []⟩, ⟨fun K => He.ga K "stages_in", "stages_in", "stages_in", s_stages_in, [], []⟩, ⟨fun K => He.ga K "read_stages", "read_stages", "read_stages", s_read_stages, [], []⟩, ⟨fun K => He.ga K "check_flow", "check_flow", "check_flow", s_check_flow, [], []⟩, ⟨fun K => He.ga K "parts_of", "parts_of", "parts_of", s_parts_of, [], []⟩, ⟨fun K => He.ga K "left_of", "left_of", "left_of", s_left_of, [], []⟩]
def dds2 : List Dd := [⟨fun K => He.ga K "is_counted_in", "is_counted_in", "is_counted_in", s_is_counted_in, [], []⟩, ⟨fun K => He.ga K "played_part", "played_part", "played_part", s_played_part, [], []⟩, ⟨fun K => He.ga K "played", "played", "played", s_played, [], []⟩, ⟨fun K => He.ga K "names_of", "names_of", "names_of", s_names_of, [], []⟩, ⟨fun K => He.ga K "run", "run", "run", s_run, [], []⟩, ⟨fun K => He.ga K "_law_cell", "_law_cell", "_law_cell", s_law_cell, [], []⟩, ⟨fun K => He.ga K "_law_purse", "_law_purse", "_law_purse", s_law_purse, [], []⟩, ⟨fun K => He.ga K "_law_take", "_law_take", "_law_take", s_law_take, [], []⟩, ⟨fun K => He.ga K "_law_name", "_law_name", "_law_name", s_law_name, [], []⟩, ⟨fun K => He.ga K "_law_tags", "_law_tags", "_law_tags", s_law_tags, [], []⟩]
def dds3 : List Dd := [⟨fun K => He.ga K "_law_labels", "_law_labels", "_law_labels", s_law_labels, [], []⟩, ⟨fun K => He.ga K "_law_detail", "_law_detail", "_law_detail", s_law_detail, [], []⟩, ⟨fun K => He.ga K "_law_part", "_law_part", "_law_part", s_law_part, [], []⟩, ⟨fun K => He.ga K "_law_applied", "_law_applied", "_law_applied", s_law_applied, [], []⟩, ⟨fun K => He.ga K "_law_line", "_law_line", "_law_line", s_law_line, [], []⟩, ⟨fun K => He.ga K "_law_test", "_law_test", "_law_test", s_law_test, [], []⟩, ⟨fun K => He.ga K "_law_condition", "_law_condition", "_law_condition", s_law_condition, [], []⟩, ⟨fun K => He.ga K "_law_conditions", "_law_conditions", "_law_conditions", s_law_conditions, [], []⟩, ⟨fun K => He.ga K "_law_call", "_law_call", "_law_call", s_law_call, [], []⟩, ⟨fun K => He.ga K "_law_row", "_law_row", "_law_row", s_law_row, [], []⟩]
def dds4 : List Dd := [⟨fun K => He.ga K "_law_rows", "_law_rows", "_law_rows", s_law_rows, [], []⟩, ⟨fun K => He.ga K "_law_apply", "_law_apply", "_law_apply", s_law_apply, [], []⟩, ⟨fun K => He.ga K "_law_passes", "_law_passes", "_law_passes", s_law_passes, [], []⟩, ⟨fun K => He.ga K "_law_pull", "_law_pull", "_law_pull", s_law_pull, [], []⟩, ⟨fun K => He.ga K "_law_pull_slice", "_law_pull_slice", "_law_pull_slice", s_law_pull_slice, [], []⟩, ⟨fun K => He.ga K "_law_all", "_law_all", "_law_all", s_law_all, [], []⟩, ⟨fun K => He.ga K "_law_names_of", "_law_names_of", "_law_names_of", s_law_names_of, [], []⟩, ⟨fun K => He.ga K "_law_call_begun", "_law_call_begun", "_law_call_begun", s_law_call_begun, [], []⟩, ⟨fun K => He.ga K "_law_line_done", "_law_line_done", "_law_line_done", s_law_line_done, [], []⟩, ⟨fun K => He.ga K "_law_carried", "_law_carried", "_law_carried", s_law_carried, [], []⟩]
def dds5 : List Dd := [⟨fun K => He.ga K "_law_answer", "_law_answer", "_law_answer", s_law_answer, [], []⟩, ⟨fun K => He.ga K "_law_truth", "_law_truth", "_law_truth", s_law_truth, [], []⟩, ⟨fun K => He.ga K "_law_number_function", "_law_number_function", "_law_number_function", s_law_number_function, [], []⟩, ⟨fun K => He.ga K "_law_truth_function", "_law_truth_function", "_law_truth_function", s_law_truth_function, [], []⟩, ⟨fun K => He.ga K "_law_functions", "_law_functions", "_law_functions", s_law_functions, [], []⟩, ⟨fun K => He.ga K "_law_numbers", "_law_numbers", "_law_numbers", s_law_numbers, [], []⟩, ⟨fun K => He.ga K "_law_names_in", "_law_names_in", "_law_names_in", s_law_names_in, [], []⟩, ⟨fun K => He.ga K "_law_run_right", "_law_run_right", "_law_run_right", s_law_run_right, [], []⟩, ⟨fun K => He.ga K "_law_right", "_law_right", "_law_right", s_law_right, [], []⟩, ⟨fun K => He.ga K "law", "law", "law", s_law, [], []⟩]
def dds6 : List Dd := [⟨fun K => He.ma K (He.ga K "Stage") "__init__", "__init__", "Stage.__init__", s_Stage_init, [.non], [("now", .bl false)]⟩, ⟨fun K => pgA K "property" (He.ga K "Stage") "kind", "kind", "Stage.kind", s_Stage_kind, [], []⟩, ⟨fun K => pgA K "property" (He.ga K "Stage") "detail", "detail", "Stage.detail", s_Stage_detail, [], []⟩, ⟨fun K => pgA K "property" (He.ga K "Stage") "now", "now", "Stage.now", s_Stage_now, [], []⟩, ⟨fun K => He.ma K (He.ga K "Flow") "__init__", "__init__", "Flow.__init__", s_Flow_init, [], []⟩, ⟨fun K => pgA K "classmethod" (He.ga K "Flow") "read", "read", "Flow.read", s_Flow_read, [], []⟩, ⟨fun K => pgA K "property" (He.ga K "Flow") "stages", "stages", "Flow.stages", s_Flow_stages, [], []⟩, ⟨fun K => He.ma K (He.ga K "Gate") "__init__", "__init__", "Gate.__init__", s_Gate_init, [], []⟩, ⟨fun K => He.ma K (He.ga K "Gate") "passed", "passed", "Gate.passed", s_Gate_passed, [], []⟩, ⟨fun K => He.ma K (He.ga K "Runner") "__init__", "__init__", "Runner.__init__", s_Runner_init, [], []⟩]
def dds7 : List Dd := [⟨fun K => He.ma K (He.ga K "Runner") "behind", "behind", "Runner.behind", s_Runner_behind, [], []⟩, ⟨fun K => He.ma K (He.ga K "Runner") "is_true", "is_true", "Runner.is_true", s_Runner_is_true, [], []⟩]
def dds : List Dd := dds0 ++ (dds1 ++ (dds2 ++ (dds3 ++ (dds4 ++ (dds5 ++ (dds6 ++ (dds7)))))))
def fas0 : List He.Fa := [.free "isinstance", .free "int", .free "bool", .free "str", .free "tuple", .free "len", .free "all", .free "any", .free "list", .free "dict"]
def fas1 : List He.Fa := [.free "max", .free "min", .free "abs", .free "range", .free "enumerate", .free "repr", .free "divmod", .glo "KINDS", .glo "LIST_KINDS", .glo "TESTED"]
def fas2 : List He.Fa := [.glo "COUNTED", .int "MOST_STAGES" 8, .int "MOST_DIGITS" 3, .int "MOST_NAMES" 3, .int "MOST" 9, .int "MOST_CONDITIONS" 3, .str "LETTERS" "abcdefghijklmnopqrstuvwyz", .str "DIGITS" "0123456789", .str "BEGIN" "rows = ", .str "LAST_LINE" "return list(rows)"]
def fas3 : List He.Fa := [.str "LOOP" " for x in rows", .str "LAMBDA" "lambda x: ", .glo "CALLS", .glo "Stage", .keep "Stage", .cls "Stage", .mkr "Stage", .noat "Stage" "fields", .glo "Flow", .keep "Flow"]
def fas4 : List He.Fa := [.cls "Flow", .mkr "Flow", .noat "Flow" "kept", .glo "Gate", .keep "Gate", .cls "Gate", .mkr "Gate", .noat "Gate" "stage", .noat "Gate" "seen", .noat "Gate" "is_open"]
def fas5 : List He.Fa := [.glo "Runner", .keep "Runner", .cls "Runner", .mkr "Runner", .noat "Runner" "functions", .noat "Runner" "made", .glo "is_integer", .glo "is_name", .glo "are_names", .glo "is_word"]
def fas6 : List He.Fa := [.glo "is_test", .glo "names_in", .glo "is_count", .glo "is_detail", .glo "inside", .glo "digit_in", .glo "condition_in", .glo "comprehension_in", .glo "slice_in", .glo "call_in"]
def fas7 : List He.Fa := [.glo "list_in", .glo "stages_in", .glo "read_stages", .glo "check_flow", .glo "parts_of", .glo "left_of", .glo "is_counted_in", .glo "played_part", .glo "played", .glo "names_of"]
def fas8 : List He.Fa := [.glo "run", .glo "_law_cell", .glo "_law_purse", .glo "_law_take", .glo "_law_name", .glo "_law_tags", .glo "_law_labels", .glo "_law_detail", .glo "_law_part", .glo "_law_applied"]
def fas9 : List He.Fa := [.glo "_law_line", .glo "_law_test", .glo "_law_condition", .glo "_law_conditions", .glo "_law_call", .glo "_law_row", .glo "_law_rows", .glo "_law_apply", .glo "_law_passes", .glo "_law_pull"]
def fas10 : List He.Fa := [.glo "_law_pull_slice", .glo "_law_all", .glo "_law_names_of", .glo "_law_call_begun", .glo "_law_line_done", .glo "_law_carried", .glo "_law_answer", .glo "_law_truth", .glo "_law_number_function", .glo "_law_truth_function"]
def fas11 : List He.Fa := [.glo "_law_functions", .glo "_law_numbers", .glo "_law_names_in", .glo "_law_run_right", .glo "_law_right", .glo "law", .meth "Gate" "passed", .meth "Runner" "behind", .meth "Runner" "is_true"]
def fas : List He.Fa := fas0 ++ (fas1 ++ (fas2 ++ (fas3 ++ (fas4 ++ (fas5 ++ (fas6 ++ (fas7 ++ (fas8 ++ (fas9 ++ (fas10 ++ (fas11)))))))))))
def need0 : List Str := ["is_integer", "is_name", "are_names", "is_word", "is_test", "names_in", "is_count", "is_detail", "inside", "digit_in"]
def need1 : List Str := ["condition_in", "comprehension_in", "slice_in", "call_in", "list_in", "stages_in", "read_stages", "check_flow", "parts_of", "left_of"]
def need2 : List Str := ["is_counted_in", "played_part", "played", "names_of", "run", "_law_cell", "_law_purse", "_law_take", "_law_name", "_law_tags"]
def need3 : List Str := ["_law_labels", "_law_detail", "_law_part", "_law_applied", "_law_line", "_law_test", "_law_condition", "_law_conditions", "_law_call", "_law_row"]
def need4 : List Str := ["_law_rows", "_law_apply", "_law_passes", "_law_pull", "_law_pull_slice", "_law_all", "_law_names_of", "_law_call_begun", "_law_line_done", "_law_carried"]
def need5 : List Str := ["_law_answer", "_law_truth", "_law_number_function", "_law_truth_function", "_law_functions", "_law_numbers", "_law_names_in", "_law_run_right", "_law_right", "law"]
def need6 : List Str := ["Stage", "Flow", "Gate", "Runner", "KINDS", "LIST_KINDS", "TESTED", "COUNTED", "CALLS"]
def need : List Str := need0 ++ (need1 ++ (need2 ++ (need3 ++ (need4 ++ (need5 ++ (need6))))))
def exs0 : List (PySem.W.Frag → Bool) := [fun K => He.tupB K "KINDS" [.str "each", .str "keep", .str "drop", .str "while", .str "from", .str "first", .str "skip", .str "every", .str "last", .str "but last", .str "turned"], fun K => He.tupB K "LIST_KINDS" [.str "last", .str "but last", .str "turned"], fun K => He.tupB K "TESTED" [.str "keep", .str "drop", .str "while", .str "from"], fun K => He.tupB K "COUNTED" [.str "first", .str "skip", .str "every"], fun K => He.valsB K (He.ga K "CALLS") [("takewhile", .str "while"), ("dropwhile", .str "from"), ("map", .str "each"), ("filter", .str "keep")], fun K => decide (PySem.W.kitOne K (.ref (He.ga K "Stage")) (.ref (He.ga K "Stage")) = some true), fun K => decide (PySem.W.kitOne K (.ref (He.ga K "Flow")) (.ref (He.ga K "Flow")) = some true), fun K => insB K (He.ga K "Stage"), fun K => insB K (He.ga K "Flow"), fun K => neB K "Stage" "Flow"]
def exs1 : List (PySem.W.Frag → Bool) := [fun K => neB K "Gate" "Stage", fun K => neB K "Gate" "Runner", fun K => propB K (He.ga K "Stage") "kind", fun K => propB K (He.ga K "Stage") "detail", fun K => propB K (He.ga K "Stage") "now", fun K => readB K (He.ga K "Flow"), fun K => cmetB K (He.ga K "Flow") "read", fun K => propB K (He.ga K "Flow") "stages"]
def exs : List (PySem.W.Frag → Bool) := exs0 ++ (exs1)
/-! ### what is looked at -/
def refsK (o : Obj) : List Addr := match o.data with
  | .func fd => He.refV fd.code ++ (He.refV fd.defaults ++ He.refV fd.kwdefaults)
  | .cls cd => [cd.ns]
  | .dict es _ => es.toList.flatMap fun e => He.refV e.val
  | .fields vs => (match o.cls with
    | .type "property" => vs.toList.flatMap He.refV
    | .type "classmethod" => vs.toList.flatMap He.refV
    | _ => [])
  | _ => []
def nextK (g : Addr → Option Obj) (as : List Addr) : List Addr := as.flatMap fun a => match g a with
  | some o => refsK o
  | none => []
def asK {α : Type} (g : Addr → Option Obj) (k : List Addr → α) : α :=
  frcK (He.frG g [mainGlobals]) fun K0 => frcN (need.map (He.ga K0)) fun a1 => frcN (nextK g a1) fun a2 => frcN (nextK g a2) fun a3 => frcN (nextK g a3) fun a4 => frcN (nextK g a4) fun a5 => k ([mainGlobals, cStatics] ++ (a1 ++ (a2 ++ (a3 ++ (a4 ++ a5)))))
def callKeys : List Str := ["takewhile", "dropwhile", "map", "filter"]
def makers : List (Str × Option Str) := [("_law_number_function", none), ("_law_truth_function", none)]
def tabK (g : Addr → Option Obj) (K : PySem.W.Frag) (p : Str × Option Str) : Bool := PySem.W.codeHdIn K (He.cT K p).1 (He.cT K p).2 && ((K.lookup (He.cT K p).2).isNone && (match g (He.cT K p).2 with
  | some o => He.emptyTab o
  | none => false))
def allK (g : Addr → Option Obj) (K : PySem.W.Frag) : Bool := (fas.all fun f => f.ok K) && ((dds.all fun d => d.ok K) && ((exs.all fun f => f K) && ((makers.all fun p => tabK g K p) && !((He.cT K ("_law_number_function", none)).2 == (He.cT K ("_law_truth_function", none)).2))))
abbrev AlK : Type := Bool × (List He.FnW × Option (List (Option (Str × Int))))
def obsK (g : Addr → Option Obj) : AlK := asK g fun as => frcK (He.frG g as) fun K => (allK g K, (dds.map fun d => fnA K (d.a K), He.dicW K (He.ga K "CALLS")))
def valK (w : World) : AlK := (true, (dds.map Dd.val, some (He.keysIn w.params callKeys)))
structure SaysK (w : World) (h : Heap) (K : PySem.W.Frag) : Prop where
  all : (fas.all fun f => f.ok K) = true ∧ (dds.all fun d => d.ok K) = true ∧ (exs.all fun f => f K) = true
  fns : (dds.map fun d => fnA K (d.a K)) = dds.map Dd.val
  tab : He.dicW K (He.ga K "CALLS") = some (He.keysIn w.params callKeys)
  hd : ∀ p ∈ makers, PySem.W.codeHdIn K (He.cT K p).1 (He.cT K p).2 = true
  out : ∀ p ∈ makers, K.lookup (He.cT K p).2 = none
  empty : ∀ p ∈ makers, h.get? (He.cT K p).2 = some { cls := .none, data := .fields #[] }
  ne : (He.cT K ("_law_number_function", none)).2 ≠ (He.cT K ("_law_truth_function", none)).2
theorem asK_eq {α : Type} (g : Addr → Option Obj) : ∃ as : List Addr, ∀ k : List Addr → α, asK g k = k as := by
  unfold asK
  have h : ∀ a1 : List Addr, a1 = need.map (He.ga (He.frG g [mainGlobals])) → ∃ as : List Addr, as = [mainGlobals, cStatics] ++ (a1 ++ (nextK g a1 ++ (nextK g (nextK g a1) ++ (nextK g (nextK g (nextK g a1)) ++ nextK g (nextK g (nextK g (nextK g a1))))))) := fun a1 _ => ⟨_, rfl⟩
  obtain ⟨as, e⟩ := h _ rfl
  refine ⟨as, fun k => ?_⟩
  rw [frcK_eq, frcN_eq, frcN_eq, frcN_eq, frcN_eq, frcN_eq, e]
theorem saysK_of {w : World} {h : Heap} (e : obsK h.get? = valK w) : ∃ K : PySem.W.Frag, K.In h ∧ SaysK w h K := by
  obtain ⟨as, ha⟩ := asK_eq (α := AlK) h.get?
  unfold obsK at e
  rw [ha, frcK_eq] at e
  refine ⟨He.frG h.get? as, He.frG_in, ?_⟩
  generalize He.frG h.get? as = K at e
  have e1 : allK h.get? K = true := congrArg (fun z : AlK => z.1) e
  have e2 : (dds.map fun d => fnA K (d.a K)) = dds.map Dd.val := congrArg (fun z : AlK => z.2.1) e
  have e3 : He.dicW K (He.ga K "CALLS") = some (He.keysIn w.params callKeys) := congrArg (fun z : AlK => z.2.2) e
  obtain ⟨h1, h2⟩ := He.ba e1
  obtain ⟨h3, h4⟩ := He.ba h2
  obtain ⟨h5, h6⟩ := He.ba h4
  obtain ⟨h7, h8⟩ := He.ba h6
  have key : ∀ p ∈ makers, PySem.W.codeHdIn K (He.cT K p).1 (He.cT K p).2 = true ∧ K.lookup (He.cT K p).2 = none ∧ h.get? (He.cT K p).2 = some { cls := .none, data := .fields #[] } := fun p hp => by
    obtain ⟨i1, i2⟩ := He.ba (List.all_eq_true.mp h7 p hp)
    obtain ⟨i3, i4⟩ := He.ba i2
    refine ⟨i1, Option.isNone_iff_eq_none.mp i3, ?_⟩
    cases q : h.get? (He.cT K p).2 with
    | none => rw [q] at i4; cases i4
    | some o =>
      rw [q] at i4
      rw [He.emptyTab_eq i4]
  refine ⟨⟨h1, h3, h5⟩, e2, e3, fun p hp => (key p hp).1, fun p hp => (key p hp).2.1, fun p hp => (key p hp).2.2, fun z => ?_⟩
  rw [z, beq_self_eq_true] at h8
  cases h8
section
variable {w : World} {h : Heap} {K : PySem.W.Frag}
theorem SaysK.fa (c : SaysK w h K) (i : Nat) {f : He.Fa} (e : fas[i]? = some f) : f.ok K = true := List.all_eq_true.mp c.all.1 f (List.mem_of_getElem? e)
theorem SaysK.ex (c : SaysK w h K) (i : Nat) {f : PySem.W.Frag → Bool} (e : exs[i]? = some f) : f K = true := List.all_eq_true.mp c.all.2.2 f (List.mem_of_getElem? e)
theorem SaysK.def_ (c : SaysK w h K) (i : Nat) {d : Dd} (e : dds[i]? = some d) : ∃ fd, FunD K d.name d.qual (defArgs d.st) (defBody d.st) (defScope d.st) d.dv d.kw (d.a K) fd := by
  have e2 : (dds.map fun d => fnA K (d.a K))[i]? = (dds.map Dd.val)[i]? := by rw [c.fns]
  rw [List.getElem?_map, List.getElem?_map, e] at e2
  exact Dd.funD (Option.some.inj e2) (List.all_eq_true.mp c.all.2.1 d (List.mem_of_getElem? e))
end
def hookK : PySem.W.Hook where
  α := AlK
  obs := fun s => obsK s.heap.get?
  val := fun w => valK w
  says := fun w h => ∃ K : PySem.W.Frag, K.In h ∧ SaysK w h K
  of := fun _ _ e => saysK_of e
  keeps := fun _ _ _ ⟨K, hK, c⟩ k => ⟨K, PySem.W.Frag.In.keeps hK k, ⟨c.all, c.fns, c.tab, c.hd, c.out, fun p hp => k _ _ (c.empty p hp), c.ne⟩⟩
def obK (s : PySem.W.SharedT) : AlK := obsK (HandSHeadRun.getT s)
theorem obK_eq (s : PySem.W.SharedT) : obK s = hookK.obs s.abs := by
  have e : HandSHeadRun.getT s = s.abs.heap.get? := funext (HandSHeadRun.getT_eq s)
  show obsK (HandSHeadRun.getT s) = obsK s.abs.heap.get?
  rw [e]
theorem tx_of {K : PySem.W.Frag} {h : Heap} {mg : Str → Option Value} {w : World} (X : K.In h) (G : h.Ns mainGlobals mg) (c : SaysK w h K) : Tx K mg w where
  z_isinstance := He.free_ok X G (c.fa 0 rfl)
  z_int := He.free_ok X G (c.fa 1 rfl)
  z_bool := He.free_ok X G (c.fa 2 rfl)
  z_str := He.free_ok X G (c.fa 3 rfl)
  z_tuple := He.free_ok X G (c.fa 4 rfl)
  z_len := He.free_ok X G (c.fa 5 rfl)
  z_all := He.free_ok X G (c.fa 6 rfl)
  z_any := He.free_ok X G (c.fa 7 rfl)
  z_list := He.free_ok X G (c.fa 8 rfl)
  z_dict := He.free_ok X G (c.fa 9 rfl)
  z_max := He.free_ok X G (c.fa 10 rfl)
  z_min := He.free_ok X G (c.fa 11 rfl)
  z_abs := He.free_ok X G (c.fa 12 rfl)
  z_range := He.free_ok X G (c.fa 13 rfl)
  z_enumerate := He.free_ok X G (c.fa 14 rfl)
  z_repr := He.free_ok X G (c.fa 15 rfl)
  z_divmod := He.free_ok X G (c.fa 16 rfl)
  g_KINDS := He.glo_ok X G (c.fa 17 rfl)
  t_KINDS := fun H => He.tupB_ok (c.ex 0 rfl) H
  g_LIST_KINDS := He.glo_ok X G (c.fa 18 rfl)
  t_LIST_KINDS := fun H => He.tupB_ok (c.ex 1 rfl) H
  g_TESTED := He.glo_ok X G (c.fa 19 rfl)
  t_TESTED := fun H => He.tupB_ok (c.ex 2 rfl) H
  g_COUNTED := He.glo_ok X G (c.fa 20 rfl)
  t_COUNTED := fun H => He.tupB_ok (c.ex 3 rfl) H
  i_MOST_STAGES := He.int_ok X G (c.fa 21 rfl)
  i_MOST_DIGITS := He.int_ok X G (c.fa 22 rfl)
  i_MOST_NAMES := He.int_ok X G (c.fa 23 rfl)
  i_MOST := He.int_ok X G (c.fa 24 rfl)
  i_MOST_CONDITIONS := He.int_ok X G (c.fa 25 rfl)
  s_LETTERS := He.str_ok X G (c.fa 26 rfl)
  s_DIGITS := He.str_ok X G (c.fa 27 rfl)
  s_BEGIN := He.str_ok X G (c.fa 28 rfl)
  s_LAST_LINE := He.str_ok X G (c.fa 29 rfl)
  s_LOOP := He.str_ok X G (c.fa 30 rfl)
  s_LAMBDA := He.str_ok X G (c.fa 31 rfl)
  g_CALLS := He.glo_ok X G (c.fa 32 rfl)
  d_CALLS := He.dicW_ok c.tab
  c_takewhile := calls_of (c.ex 4 rfl) 0 rfl
  c_dropwhile := calls_of (c.ex 4 rfl) 1 rfl
  c_map := calls_of (c.ex 4 rfl) 2 rfl
  c_filter := calls_of (c.ex 4 rfl) 3 rfl
  g_Stage := He.glo_ok X G (c.fa 33 rfl)
  k_Stage := He.keep_ok (c.fa 34 rfl)
  cl_Stage := He.cls_ok (c.fa 35 rfl)
  mk_Stage := He.mkr_ok (c.fa 36 rfl)
  n_Stage_fields := He.noat_ok (c.fa 37 rfl)
  g_Flow := He.glo_ok X G (c.fa 38 rfl)
  k_Flow := He.keep_ok (c.fa 39 rfl)
  cl_Flow := He.cls_ok (c.fa 40 rfl)
  mk_Flow := He.mkr_ok (c.fa 41 rfl)
  n_Flow_kept := He.noat_ok (c.fa 42 rfl)
  g_Gate := He.glo_ok X G (c.fa 43 rfl)
  k_Gate := He.keep_ok (c.fa 44 rfl)
  cl_Gate := He.cls_ok (c.fa 45 rfl)
  mk_Gate := He.mkr_ok (c.fa 46 rfl)
  n_Gate_stage := He.noat_ok (c.fa 47 rfl)
  n_Gate_seen := He.noat_ok (c.fa 48 rfl)
  n_Gate_is_open := He.noat_ok (c.fa 49 rfl)
  g_Runner := He.glo_ok X G (c.fa 50 rfl)
  k_Runner := He.keep_ok (c.fa 51 rfl)
  cl_Runner := He.cls_ok (c.fa 52 rfl)
  mk_Runner := He.mkr_ok (c.fa 53 rfl)
  n_Runner_functions := He.noat_ok (c.fa 54 rfl)
  n_Runner_made := He.noat_ok (c.fa 55 rfl)
  y_Stage := of_decide_eq_true (c.ex 5 rfl)
  y_Flow := of_decide_eq_true (c.ex 6 rfl)
  x_Stage := insB_ok (c.ex 7 rfl)
  x_Flow := insB_ok (c.ex 8 rfl)
  ne_cls := neB_ok (c.ex 9 rfl)
  d_is_integer := ⟨He.glo_ok X G (c.fa 56 rfl), c.def_ 0 rfl⟩
  d_is_name := ⟨He.glo_ok X G (c.fa 57 rfl), c.def_ 1 rfl⟩
  d_are_names := ⟨He.glo_ok X G (c.fa 58 rfl), c.def_ 2 rfl⟩
  d_is_word := ⟨He.glo_ok X G (c.fa 59 rfl), c.def_ 3 rfl⟩
  d_is_test := ⟨He.glo_ok X G (c.fa 60 rfl), c.def_ 4 rfl⟩
  d_names_in := ⟨He.glo_ok X G (c.fa 61 rfl), c.def_ 5 rfl⟩
  d_is_count := ⟨He.glo_ok X G (c.fa 62 rfl), c.def_ 6 rfl⟩
  d_is_detail := ⟨He.glo_ok X G (c.fa 63 rfl), c.def_ 7 rfl⟩
  d_inside := ⟨He.glo_ok X G (c.fa 64 rfl), c.def_ 8 rfl⟩
  d_digit_in := ⟨He.glo_ok X G (c.fa 65 rfl), c.def_ 9 rfl⟩
  d_condition_in := ⟨He.glo_ok X G (c.fa 66 rfl), c.def_ 10 rfl⟩
  d_comprehension_in := ⟨He.glo_ok X G (c.fa 67 rfl), c.def_ 11 rfl⟩
  d_slice_in := ⟨He.glo_ok X G (c.fa 68 rfl), c.def_ 12 rfl⟩
  d_call_in := ⟨He.glo_ok X G (c.fa 69 rfl), c.def_ 13 rfl⟩
  d_list_in := ⟨He.glo_ok X G (c.fa 70 rfl), c.def_ 14 rfl⟩
  d_stages_in := ⟨He.glo_ok X G (c.fa 71 rfl), c.def_ 15 rfl⟩
  d_read_stages := ⟨He.glo_ok X G (c.fa 72 rfl), c.def_ 16 rfl⟩
  d_check_flow := ⟨He.glo_ok X G (c.fa 73 rfl), c.def_ 17 rfl⟩
  d_parts_of := ⟨He.glo_ok X G (c.fa 74 rfl), c.def_ 18 rfl⟩
  d_left_of := ⟨He.glo_ok X G (c.fa 75 rfl), c.def_ 19 rfl⟩
  d_is_counted_in := ⟨He.glo_ok X G (c.fa 76 rfl), c.def_ 20 rfl⟩
  d_played_part := ⟨He.glo_ok X G (c.fa 77 rfl), c.def_ 21 rfl⟩
  d_played := ⟨He.glo_ok X G (c.fa 78 rfl), c.def_ 22 rfl⟩
  d_names_of := ⟨He.glo_ok X G (c.fa 79 rfl), c.def_ 23 rfl⟩
  d_run := ⟨He.glo_ok X G (c.fa 80 rfl), c.def_ 24 rfl⟩
  d_law_cell := ⟨He.glo_ok X G (c.fa 81 rfl), c.def_ 25 rfl⟩
  d_law_purse := ⟨He.glo_ok X G (c.fa 82 rfl), c.def_ 26 rfl⟩
  d_law_take := ⟨He.glo_ok X G (c.fa 83 rfl), c.def_ 27 rfl⟩
  d_law_name := ⟨He.glo_ok X G (c.fa 84 rfl), c.def_ 28 rfl⟩
  d_law_tags := ⟨He.glo_ok X G (c.fa 85 rfl), c.def_ 29 rfl⟩
  d_law_labels := ⟨He.glo_ok X G (c.fa 86 rfl), c.def_ 30 rfl⟩
  d_law_detail := ⟨He.glo_ok X G (c.fa 87 rfl), c.def_ 31 rfl⟩
  d_law_part := ⟨He.glo_ok X G (c.fa 88 rfl), c.def_ 32 rfl⟩
  d_law_applied := ⟨He.glo_ok X G (c.fa 89 rfl), c.def_ 33 rfl⟩
  d_law_line := ⟨He.glo_ok X G (c.fa 90 rfl), c.def_ 34 rfl⟩
  d_law_test := ⟨He.glo_ok X G (c.fa 91 rfl), c.def_ 35 rfl⟩
  d_law_condition := ⟨He.glo_ok X G (c.fa 92 rfl), c.def_ 36 rfl⟩
  d_law_conditions := ⟨He.glo_ok X G (c.fa 93 rfl), c.def_ 37 rfl⟩
  d_law_call := ⟨He.glo_ok X G (c.fa 94 rfl), c.def_ 38 rfl⟩
  d_law_row := ⟨He.glo_ok X G (c.fa 95 rfl), c.def_ 39 rfl⟩
  d_law_rows := ⟨He.glo_ok X G (c.fa 96 rfl), c.def_ 40 rfl⟩
  d_law_apply := ⟨He.glo_ok X G (c.fa 97 rfl), c.def_ 41 rfl⟩
  d_law_passes := ⟨He.glo_ok X G (c.fa 98 rfl), c.def_ 42 rfl⟩
  d_law_pull := ⟨He.glo_ok X G (c.fa 99 rfl), c.def_ 43 rfl⟩
  d_law_pull_slice := ⟨He.glo_ok X G (c.fa 100 rfl), c.def_ 44 rfl⟩
  d_law_all := ⟨He.glo_ok X G (c.fa 101 rfl), c.def_ 45 rfl⟩
  d_law_names_of := ⟨He.glo_ok X G (c.fa 102 rfl), c.def_ 46 rfl⟩
  d_law_call_begun := ⟨He.glo_ok X G (c.fa 103 rfl), c.def_ 47 rfl⟩
  d_law_line_done := ⟨He.glo_ok X G (c.fa 104 rfl), c.def_ 48 rfl⟩
  d_law_carried := ⟨He.glo_ok X G (c.fa 105 rfl), c.def_ 49 rfl⟩
  d_law_answer := ⟨He.glo_ok X G (c.fa 106 rfl), c.def_ 50 rfl⟩
  d_law_truth := ⟨He.glo_ok X G (c.fa 107 rfl), c.def_ 51 rfl⟩
  d_law_number_function := ⟨He.glo_ok X G (c.fa 108 rfl), c.def_ 52 rfl⟩
  d_law_truth_function := ⟨He.glo_ok X G (c.fa 109 rfl), c.def_ 53 rfl⟩
  d_law_functions := ⟨He.glo_ok X G (c.fa 110 rfl), c.def_ 54 rfl⟩
  d_law_numbers := ⟨He.glo_ok X G (c.fa 111 rfl), c.def_ 55 rfl⟩
  d_law_names_in := ⟨He.glo_ok X G (c.fa 112 rfl), c.def_ 56 rfl⟩
  d_law_run_right := ⟨He.glo_ok X G (c.fa 113 rfl), c.def_ 57 rfl⟩
  d_law_right := ⟨He.glo_ok X G (c.fa 114 rfl), c.def_ 58 rfl⟩
  d_law := ⟨He.glo_ok X G (c.fa 115 rfl), c.def_ 59 rfl⟩
  d_Stage_init := c.def_ 60 rfl
  m_Stage_kind := propB_ok (c.ex 12 rfl)
  d_Stage_kind := c.def_ 61 rfl
  m_Stage_detail := propB_ok (c.ex 13 rfl)
  d_Stage_detail := c.def_ 62 rfl
  m_Stage_now := propB_ok (c.ex 14 rfl)
  d_Stage_now := c.def_ 63 rfl
  d_Flow_init := c.def_ 64 rfl
  r_Flow_read := readB_ok (c.ex 15 rfl)
  m_Flow_read := cmetB_ok (c.ex 16 rfl)
  d_Flow_read := c.def_ 65 rfl
  m_Flow_stages := propB_ok (c.ex 17 rfl)
  d_Flow_stages := c.def_ 66 rfl
  d_Gate_init := c.def_ 67 rfl
  m_Gate_passed := He.meth_ok (c.fa 116 rfl)
  d_Gate_passed := c.def_ 68 rfl
  d_Runner_init := c.def_ 69 rfl
  m_Runner_behind := He.meth_ok (c.fa 117 rfl)
  d_Runner_behind := c.def_ 70 rfl
  m_Runner_is_true := He.meth_ok (c.fa 118 rfl)
  d_Runner_is_true := c.def_ 71 rfl
end K

set_option Elab.async false
set_option linter.all false
set_option maxRecDepth 100000
set_option maxHeartbeats 0
/-! HRn: the top is run, the facts hold. -/
namespace K
def nm0 : List PySem.Str := ["_wall", "FlowError", "InvalidKind", "InvalidDetail", "InvalidMode", "InvalidStages", "InvalidText", "WrongLine", "InvalidEntries", "InvalidFunctions", "InvalidIndex", "NotAFlow"]
def nm1 : List PySem.Str := ["LackError", "NoFunction", "KINDS", "LIST_KINDS", "MOST_STAGES", "LETTERS", "DIGITS", "MOST_DIGITS", "MOST_NAMES", "is_integer", "is_name", "are_names"]
def nm2 : List PySem.Str := ["is_word", "is_test", "applied", "names_in", "TESTED", "MOST", "is_count", "is_detail", "comprehension", "call", "line_of", "Stage"]
def nm3 : List PySem.Str := ["BEGIN", "LAST_LINE", "LOOP", "LAMBDA", "CALLS", "MOST_CONDITIONS", "inside", "digit_in", "condition_in", "comprehension_in", "slice_in", "call_in"]
def nm4 : List PySem.Str := ["list_in", "stages_in", "read_stages", "check_index", "Flow", "check_flow", "COUNTED", "parts_of", "left_of", "is_counted_in", "Gate", "played_part"]
def nm5 : List PySem.Str := ["played", "Runner", "names_of", "run", "_law_cell", "_law_purse", "_law_take", "_law_name", "_law_tags", "_law_labels", "_law_detail", "_law_part"]
def nm6 : List PySem.Str := ["_law_applied", "_law_line", "_law_test", "_law_condition", "_law_conditions", "_law_call", "_law_row", "_law_rows", "_law_apply", "_law_passes", "_law_pull", "_law_pull_slice"]
def nm7 : List PySem.Str := ["_law_all", "_law_names_of", "_law_call_begun", "_law_line_done", "_law_carried", "_law_answer", "_law_truth", "_law_number_function", "_law_truth_function", "_law_functions", "_law_numbers", "_law_names_in"]
def nm8 : List PySem.Str := ["_law_run_right", "_law_right"]
def looseN : List PySem.Str := nm0 ++ nm1 ++ nm2 ++ nm3 ++ nm4 ++ nm5 ++ nm6 ++ nm7 ++ nm8

abbrev Rw : PySem.W.OpenRow := PySem.W.OpenLaw.row PySem.Challenge.rw_callflows_k19_whole_texts_with_real_func
abbrev qv : PySem.Program := PySem.W.view Rw.prog [106]
theorem runF (w : PySem.World) : HandSHeadRun.RunEq Rw qv hookK obK 9000 looseN (w.withFollow "special-get-raises" false) := by
  intro os
  kernel_rfl
theorem runT (w : PySem.World) : HandSHeadRun.RunEq Rw qv hookK obK 9000 looseN (w.withFollow "special-get-raises" true) := by
  intro os
  kernel_rfl
theorem runK (w : PySem.World) : HandSHeadRun.RunEq Rw qv hookK obK 9000 looseN w := PySem.W.byRow2 "special-get-raises" (P := fun w => HandSHeadRun.RunEq Rw qv hookK obK 9000 looseN w) runF runT w
end K

set_option Elab.async false
set_option linter.all false
set_option maxRecDepth 100000
set_option maxHeartbeats 4000000
/-! KH: small helpers: built-in names, heaps, comprehensions. -/
namespace K
open PySem PySem.Spec PyProof.Rows L2 He
theorem bt_isinstance : bootBuiltins "isinstance" = some (.builtin "isinstance") := by decide +kernel
theorem bt_int : bootBuiltins "int" = some (.type "int") := by decide +kernel
theorem bt_bool : bootBuiltins "bool" = some (.type "bool") := by decide +kernel
theorem bt_str : bootBuiltins "str" = some (.type "str") := by decide +kernel
theorem bt_tuple : bootBuiltins "tuple" = some (.type "tuple") := by decide +kernel
theorem bt_list : bootBuiltins "list" = some (.type "list") := by decide +kernel
theorem bt_dict : bootBuiltins "dict" = some (.type "dict") := by decide +kernel
theorem bt_len : bootBuiltins "len" = some (.builtin "len") := by decide +kernel
theorem bt_all : bootBuiltins "all" = some (.builtin "all") := by decide +kernel
theorem bt_any : bootBuiltins "any" = some (.builtin "any") := by decide +kernel
theorem bt_max : bootBuiltins "max" = some (.builtin "max") := by decide +kernel
theorem bt_min : bootBuiltins "min" = some (.builtin "min") := by decide +kernel
theorem bt_abs : bootBuiltins "abs" = some (.builtin "abs") := by decide +kernel
theorem bt_repr : bootBuiltins "repr" = some (.builtin "repr") := by decide +kernel
theorem bt_divmod : bootBuiltins "divmod" = some (.builtin "divmod") := by decide +kernel
/-! ### heaps -/
/-- what never changes: a tuple, a def's own object -/
def Stay (o : HO) : Prop := (∃ xs, o = .tup xs) ∨ ∃ φ, o = .ext φ
/-- all but what stands at M is as it was; what never changes stays in any case -/
def Kp (M : Addr → Prop) (H H' : Hp) : Prop := ∀ b o, H b = some o → (¬ M b ∨ Stay o) → H' b = some o
theorem Kp.refl (M : Addr → Prop) (H : Hp) : Kp M H H := fun _ _ h _ => h
theorem Kp.trans {M : Addr → Prop} {H H1 H2 : Hp} (a : Kp M H H1) (b : Kp M H1 H2) : Kp M H H2 := fun c o h n => b c o (a c o h n) n
theorem Kp.mono {M N : Addr → Prop} {H H1 : Hp} (a : Kp M H H1) (h : ∀ b, M b → N b) : Kp N H H1 := fun c o e n => a c o e (n.imp (fun q z => q (h c z)) id)
theorem Same.kp {M : Addr → Prop} {H H1 : Hp} (a : Same H H1) : Kp M H H1 := fun c o e _ => a c o e
theorem Kp.same {H H1 : Hp} (a : Kp (fun _ => False) H H1) : Same H H1 := fun c o e => a c o e (.inl id)
theorem same_new {H : Hp} {p : Addr} {o : HO} (h : H p = none) : Same H (upd H p o) := fun b x e => by
  rw [upd_ne (ne_of_none e h)]; exact e
theorem kp_set {M : Addr → Prop} {H : Hp} {p : Addr} {o u : HO} (h : M p) (e : H p = some u) (hu : ¬ Stay u) : Kp M H (upd H p o) := fun b x eb n => by
  have nb : b ≠ p := fun z => by
    rcases n with n | n
    · exact n (z ▸ h)
    · rw [z, e] at eb
      exact hu (Option.some.inj eb ▸ n)
  rw [upd_ne nb]; exact eb
theorem ns_lst {xs : List V} : ¬ Stay (.lst xs) := fun z => by
  rcases z with ⟨_, z⟩ | ⟨_, z⟩ <;> cases z
theorem ns_ins {C dx : Addr} {fs : List (Str × V)} : ¬ Stay (.ins C dx fs) := fun z => by
  rcases z with ⟨_, z⟩ | ⟨_, z⟩ <;> cases z
theorem ns_dK {kvs : List (Key × V)} : ¬ Stay (.dK kvs) := fun z => by
  rcases z with ⟨_, z⟩ | ⟨_, z⟩ <;> cases z
theorem Kp.tup {M : Addr → Prop} {H H1 : Hp} (a : Kp M H H1) {b : Addr} {xs : List V} (e : H b = some (.tup xs)) : H1 b = some (.tup xs) := a b _ e (.inr (.inl ⟨_, rfl⟩))
theorem Kp.ext {M : Addr → Prop} {H H1 : Hp} (a : Kp M H H1) {b : Addr} {φ : Heap → Prop} (e : H b = some (.ext φ)) : H1 b = some (.ext φ) := a b _ e (.inr (.inr ⟨_, rfl⟩))
theorem same_seqT {K : PySem.W.Frag} {H H' : Hp} {a : Addr} {xs : List V} (e : Same H H') (h : SqT K H a xs) : SqT K H' a xs := by
  rcases h with (h | ⟨o, h⟩) | h
  · exact .inl (.inl (e _ _ h))
  · exact .inl (.inr ⟨o, e _ _ h⟩)
  · exact .inr h
/-! ### a comprehension whose turns leave what stood as it was -/
theorem lc_pure {J : It} {n : Nat} {G : Hp → Prop} {Y : Nat → Hp → V → Hp → Prop} (w : Walk J n G Y) {g : TG} {tt : TT} {te : TE} {vs : List Nat} {σ : L2.St} {H1 : Hp} {D : Addr} {Qd : Hp → Prop} (ys : List V) (hn : ys.length = n) (hz : n < sizeLine) (nD : H1 D = none)
    (hG : ∀ H, Same H1 H → G H)
    (hs : ∀ i x H H' (R : V → Hp → Prop) (N : Hp → Prop), i < n → Same H1 H → Y i H x H' → (∀ y H4, ys[i]? = some y → Same H H4 → R y H4) →
      g x (wipe σ vs) H' fun σ2 H2 => wipe σ2 vs = wipe σ vs ∧ tt σ2 H2 fun b H3 => if b = true then te σ2 H3 R else N H3)
    (hd : ∀ H, Same H1 H → H D = some (.lst ys) → Qd H) :
    ∃ W : Nat → Nat → Hp → Prop, (∃ m, W 0 m (upd H1 D (.lst []))) ∧ ∀ i m H, W i m H →
      (J.stop i H ∧ Qd H) ∨ (J.go i H ∧ ∃ Nx : Hp → Prop, (∀ H', Nx H' → ∃ m', m' < m ∧ W (i + 1) m' H') ∧ ∀ x H', J.yld i H x H' → g x (wipe σ vs) H' fun σ2 H2 => wipe σ2 vs = wipe σ vs ∧ tt σ2 H2 fun b H3 =>
        if b = true then te σ2 H3 fun y H4 => ∃ acc, H4 D = some (.lst acc) ∧ acc.length < sizeLine ∧ Nx (upd H4 D (.lst (acc ++ [y]))) else Nx H3) := by
  refine lc_it w (fun i H => Same H1 H ∧ H D = some (.lst (ys.take i))) ⟨same_new nD, upd_same⟩ (fun i H _ p => hG H p.1) (fun i x H H' hi p y => ?_) (fun H p => ?_)
  · refine hs i x H H' _ _ hi p.1 y fun v H4 ey sm => ?_
    refine ⟨ys.take i, sm _ _ p.2, by rw [List.length_take]; omega, fun b o e => ?_, ?_⟩
    · rw [upd_ne (ne_of_none e nD)]
      exact sm _ _ (p.1 _ _ e)
    · rw [upd_same, List.take_add_one, ey]; rfl
  · refine hd H p.1 ?_
    rw [p.2, List.take_of_length_le (by omega)]
theorem yes_if {te : TE} {σ : L2.St} {H : Hp} {R : V → Hp → Prop} {N : Hp → Prop} (h : te σ H R) : tYes σ H fun b H3 => if b = true then te σ H3 R else N H3 := by
  show (if true = true then te σ H R else N H)
  rw [if_pos rfl]
  exact h
end K

set_option Elab.async false
set_option linter.all false
set_option maxRecDepth 100000
set_option maxHeartbeats 4000000
/-! KT1: names, as lists of signs. -/
namespace K
open PySem PySem.Spec PyProof.Rows L2 He TL
def lettersL : List Nat := tl "abcdefghijklmnopqrstuvwyz"
def digitsL : List Nat := tl "0123456789"
/-- a name: a letter (no x) and up to three digits -/
def isNameL : List Nat → Bool
  | [] => false
  | c :: ds => decide (ds.length ≤ 3) && (decide (c ∈ lettersL) && ds.all fun d => decide (d ∈ digitsL))
def isName (x : Str) : Bool := isNameL (tl x)
def areNames (xs : List Str) (lo hi : Nat) : Bool := decide (lo ≤ xs.length) && (decide (xs.length ≤ hi) && xs.all isName)
end K

set_option Elab.async false
set_option linter.all false
set_option maxRecDepth 100000
set_option maxHeartbeats 4000000
/-! KT2: texts as lists of signs: names put on x, starts, ends, what stands inside. -/
namespace K
open PySem PySem.Spec PyProof.Rows L2 He TL
def mk (l : List Nat) : Str := ⟨l.toArray⟩
theorem tl_mk' (l : List Nat) : tl (mk l) = l := rfl
theorem len_mk (l : List Nat) : (mk l).length = l.length := by rw [len_tl]; rfl
theorem mk_tl' (x : Str) : mk (tl x) = x := mk_tl x
theorem eq_mk {x : Str} {l : List Nat} (h : tl x = l) : x = mk l := by rw [← h, mk_tl']
theorem mk_inj {a b : List Nat} (h : mk a = mk b) : a = b := congrArg tl h
theorem mk_eq {a b : List Nat} : mk a = mk b ↔ a = b := ⟨mk_inj, fun h => by rw [h]⟩
theorem mk_app (a b : List Nat) : mk a ++ mk b = mk (a ++ b) := by
  refine ext_tl ?_
  rw [tl_append]
  rfl
/-- names put on a text, the first one outermost -/
def appl : List (List Nat) → List Nat → List Nat
  | [], x => x
  | n :: ns, x => n ++ 40 :: (appl ns x ++ [41])
def opens (ns : List (List Nat)) : List Nat := (ns.map fun n => n ++ [40]).flatten
theorem appl_eq : ∀ (ns : List (List Nat)) (x : List Nat), appl ns x = opens ns ++ (x ++ List.replicate ns.length 41)
  | [], x => by simp [appl, opens]
  | n :: ns, x => by
    rw [appl, appl_eq ns x]
    simp only [opens, List.map_cons, List.flatten_cons, List.length_cons, List.append_assoc, List.singleton_append, List.cons_append, List.nil_append]
    rw [List.replicate_succ', ← List.append_assoc x]
theorem spl_opens : ∀ (ns : List (List Nat)) (rest : List Nat), (∀ n ∈ ns, 40 ∉ n) → 40 ∉ rest → spl [40] 0 [] (opens ns ++ rest) = ns ++ [rest]
  | [], rest, _, hr => by
    show spl [40] 0 [] rest = [rest]
    rw [spl_last1 hr]; rfl
  | n :: ns, rest, hn, hr => by
    have e : opens (n :: ns) ++ rest = n ++ ([40] ++ (opens ns ++ rest)) := by simp [opens]
    rw [e, spl_part1 (hn n List.mem_cons_self), spl_opens ns rest (fun m hm => hn m (List.mem_cons_of_mem _ hm)) hr]
    rfl
theorem startswith_eq (x y : Str) : Txt.startswith x y = ((tl x).take (tl y).length == tl y) := by
  show (decide (0 + y.length ≤ x.length) && Builtin.Str.subAt x y 0) = _
  rw [PySem.StrLaws.subAt_eq, List.drop_zero]
  show (decide (0 + y.length ≤ x.length) && ((tl x).take y.length == tl y)) = _
  rw [len_tl y, len_tl x, Nat.zero_add]
  by_cases h : (tl y).length ≤ (tl x).length
  · rw [decide_eq_true h, Bool.true_and]
  · rw [decide_eq_false h, Bool.false_and]
    refine (beq_eq_false_iff_ne.mpr fun e => h ?_).symm
    have := congrArg List.length e
    rw [List.length_take] at this
    omega
theorem endswith_eq (x y : Str) : Txt.endswith x y = (decide ((tl y).length ≤ (tl x).length) && ((tl x).drop ((tl x).length - (tl y).length) == tl y)) := by
  show (decide (0 + y.length ≤ x.length) && Builtin.Str.subAt x y (x.length - y.length)) = _
  rw [PySem.StrLaws.subAt_eq]
  show (decide (0 + y.length ≤ x.length) && (((tl x).drop (x.length - y.length)).take y.length == tl y)) = _
  rw [len_tl y, len_tl x, Nat.zero_add]
  by_cases h : (tl y).length ≤ (tl x).length
  · rw [decide_eq_true h, Bool.true_and, Bool.true_and, List.take_of_length_le (by rw [List.length_drop]; omega)]
  · rw [decide_eq_false h, Bool.false_and, Bool.false_and]
/-- what stands between a start and an end -/
def insideL (t a b : List Nat) : Option (List Nat) :=
  if a.length + b.length ≤ t.length ∧ t.take a.length = a ∧ t.drop (t.length - b.length) = b then some ((t.drop a.length).take (t.length - b.length - a.length)) else none
theorem insideL_some {a m b : List Nat} : insideL (a ++ (m ++ b)) a b = some m := by
  unfold insideL
  have e1 : (a ++ (m ++ b)).length = a.length + (m.length + b.length) := by simp
  have e2 : (a ++ (m ++ b)).drop ((a ++ (m ++ b)).length - b.length) = b := by
    rw [e1, ← List.append_assoc, show a.length + (m.length + b.length) - b.length = (a ++ m).length by rw [List.length_append]; omega, List.drop_left]
  rw [if_pos ⟨by omega, by simp, e2⟩, e1, List.drop_left]
  congr 1
  have e3 : a.length + (m.length + b.length) - b.length - a.length = m.length := by omega
  rw [e3]
  simp
theorem insideL_start {t a b : List Nat} (h : t.take a.length ≠ a) : insideL t a b = none := if_neg fun z => h z.2.1
theorem insideL_end {t a b : List Nat} (h : t.drop (t.length - b.length) ≠ b) : insideL t a b = none := if_neg fun z => h z.2.2
end K

set_option Elab.async false
set_option linter.all false
set_option maxRecDepth 100000
set_option maxHeartbeats 4000000
/-! KR: rules that the layer lacks: a sign times a number, t += u of tuples, t[::-1] of a tuple, repr of data, calls that know that no repr is under way. -/
namespace K
open PySem PySem.Spec PyProof.Rows L2 He
/-! ### c * n, c one sign -/
theorem reps_one (c : Nat) : ∀ n : Nat, ((List.replicate n #[c]).foldl (· ++ ·) (#[] : Array Nat)).toList = List.replicate n c := by
  have g : ∀ (n : Nat) (acc : Array Nat), ((List.replicate n #[c]).foldl (· ++ ·) acc).toList = acc.toList ++ List.replicate n c := by
    intro n
    induction n with
    | zero => intro acc; simp
    | succ n ih =>
      intro acc
      rw [List.replicate_succ, List.foldl_cons, ih, List.replicate_succ]
      simp
  intro n
  rw [g n #[]]
  simp
def repS (c n : Nat) : Str := ⟨(List.replicate n c).toArray⟩
section
variable {X : Cx}
theorem op_repS : OpR X (binaryOp .Mult) (fun x y H Q => ∃ c n : Nat, x = .str ⟨#[c]⟩ ∧ y = .int (n : Int) ∧ n ≤ 1000 ∧ Q (.str (repS c n)) H) := by
  intro pins s σ H x y v u Q I rx ry h
  obtain ⟨c, n, rfl, rfl, hn, q⟩ := h
  obtain ⟨t, rfl⟩ := rx
  obtain ⟨t', rfl⟩ := ry
  refine PySem.SB.mul (mulOk_of 1 1000 (by show (#[c] : Array Nat).size ≤ 1; simp) (by omega) (by omega) (by decide) (by decide)) fun t2 k => ?_
  have e : Txt.mul ⟨#[c]⟩ (n : Int) = repS c n := by
    unfold Txt.mul repS
    by_cases h1 : (n : Int) < 1
    · rw [if_pos h1]
      have : n = 0 := by omega
      subst this
      rfl
    · rw [if_neg h1]
      by_cases h2 : ((n : Int) == 1 || (⟨#[c]⟩ : Str).length == 0) = true
      · rw [if_pos h2]
        have h3 : n = 1 := by
          rcases Bool.or_eq_true_iff.mp h2 with z | z
          · have := eq_of_beq z; omega
          · exact absurd z (by simp [Str.length])
        subst h3
        rfl
      · rw [if_neg h2]
        refine Str.ext' ?_
        refine Array.toList_inj.mp ?_
        show ((List.replicate (n : Int).toNat #[c]).foldl (· ++ ·) (#[] : Array Nat)).toList = _
        rw [reps_one, Int.toNat_natCast]
  rw [e]
  exact ⟨.str _, H, I.tok _, ⟨_, rfl⟩, q⟩
/-! ### t += u -/
theorem no_iadd_tuple : typeLookup (.type "tuple") (dunderI "add") = pure none := by first | rfl | kernel_rfl
theorem iop_catA : OpR X (inplaceOp .Add) (fun x y H Q => ∃ a b xs ys, x = .ref a ∧ y = .ref b ∧ SqT X.K H a xs ∧ SqT X.K H b ys ∧ xs.length + ys.length ≤ sizeLine ∧
    (xs = [] → Q (.ref b) H) ∧ (xs ≠ [] → ys ≠ [] ∧ ∀ p, H p = none → Q (.ref p) (upd H p (.tup (xs ++ ys))))) := by
  intro pins s σ H x y v u Q I rx ry h
  obtain ⟨a, b, xs, ys, rfl, rfl, ha, hb, hz, q0, q1⟩ := h
  cases rx
  cases ry
  obtain ⟨its, r1, p1, _⟩ := I.tuple ha
  obtain ⟨its2, r2, p2, _⟩ := I.tuple hb
  obtain ⟨⟨c1, d1, e1, sl1⟩, ho, hc, n, hd⟩ := id p1
  obtain ⟨⟨c2, d2, e2, sl2⟩, ho2, hc2, n2, hd2⟩ := id p2
  simp only at hc hd hc2 hd2
  subst hc hd hc2 hd2
  refine wpAny_inplaceOp_concat (T := "tuple") ⟨_, ho, rfl⟩ ⟨_, ho2, rfl⟩ no_iadd_tuple noFill_tuple_add seq_tuple_add ?_
  by_cases hx : xs = []
  · subst hx
    cases r1
    exact call_meets PySem.F.slot_tuple_add ⟨_, ho, rfl⟩ PySem.F.entry_tuple_add (PySem.F.args_tuple_add_2 _ _)
      (tuple_addW0 a b ([] : List Value).toArray its2.toArray n n2 d1 d2 sl1 sl2 (by simp)) ⟨ho, ho2, ⟨.ref b, H, I, rfl, q0 rfl⟩⟩
  · obtain ⟨hy, q⟩ := q1 hx
    have h1 : its ≠ [] := fun z => hx (r1.nil_iff.mp z)
    have h2 : its2 ≠ [] := fun z => hy (r2.nil_iff.mp z)
    have hs : its.toArray.size + its2.toArray.size ≤ sizeLine := by
      rw [List.size_toArray, List.size_toArray, ← r1.length, ← r2.length]; exact hz
    refine call_meets PySem.F.slot_tuple_add ⟨_, ho, rfl⟩ PySem.F.entry_tuple_add (PySem.F.args_tuple_add_2 _ _)
      (tuple_addW2 a b its.toArray its2.toArray n n2 d1 d2 sl1 sl2 (by simpa using h1) (by simpa using h2) hs) ⟨ho, ho2, ?_⟩
    refine ⟨.ref s.heap.objs.size, _, I.laid (t' := s.toks) (o := .tup (xs ++ ys)) (fun b ob q => Heap.get?_push_of_some _ q) (Nat.le_refl _) ?_, rfl, q _ (I.hok.fresh (Nat.le_refl _))⟩
    exact ⟨by rw [List.length_append]; exact hz, _, r1.append r2, by simpa using IsTup.new s.heap (its ++ its2).toArray⟩
end
/-! ### t[::-1] of a tuple -/
section
variable {prog : Program} {w : World} {A : Around} {E : Value → Shared → Prop} {s : Shared}
theorem adjust_back (n : Nat) : Builtin.Slice.sliceAdjust none none (-1) (n : Int) = ((n : Int) - 1, -1) := by
  unfold Builtin.Slice.sliceAdjust
  rfl
theorem places_back (n : Nat) : Builtin.Slice.slicePlaces ((n : Int) - 1) (-1) (-1) = n := by
  unfold Builtin.Slice.slicePlaces
  have h1 : ¬ ((-1 : Int) > 0) := by omega
  simp only [h1, if_false, Int.neg_neg, Int.ediv_one]
  split <;> omega
theorem pick_back (xs : Array Value) : ((List.range xs.size).filterMap fun (m : Nat) => xs[((xs.size : Int) - 1 + (m : Int) * (-1)).toNat]?).toArray = xs.toList.reverse.toArray := by
  congr 1
  refine List.ext_getElem? fun i => ?_
  have g : ∀ (l : List Nat), (∀ m ∈ l, m < xs.size) → l.filterMap (fun (m : Nat) => xs[((xs.size : Int) - 1 + (m : Int) * (-1)).toNat]?) = l.map fun m => xs[xs.size - 1 - m]?.getD default := by
    intro l
    induction l with
    | nil => intro _; rfl
    | cons m l ih =>
      intro hl
      have hm : m < xs.size := hl m List.mem_cons_self
      have e1 : ((xs.size : Int) - 1 + (m : Int) * (-1)).toNat = xs.size - 1 - m := by omega
      have e2 : xs.size - 1 - m < xs.size := by omega
      rw [List.filterMap_cons, List.map_cons, e1, ih fun k hk => hl k (List.mem_cons_of_mem _ hk)]
      simp [e2]
  have e := g (List.range xs.size) fun m hm => List.mem_range.mp hm
  rw [e]
  by_cases h : i < xs.size
  · rw [List.getElem?_reverse (by simpa using h)]
    have : xs.size - 1 - i < xs.size := by omega
    simp [h, this]
  · rw [List.getElem?_eq_none (by simpa using h), List.getElem?_eq_none (by simpa using h)]
theorem slice_back {sl : Addr} {vs : Value} {n : Nat} {Q : Int × Int × Nat → Shared → Prop} (hs : s.heap.IsSliceOf sl .none .none vs) (ps : IsPart vs (some (-1)))
    (h : Q ((n : Int) - 1, -1, n) s) : wpAny (model prog w) A (Builtin.Slice.sliceApplied (.ref sl) (pure (n : Int))) Q E s := by
  obtain ⟨os, hos, hcs, hds⟩ := id hs
  unfold Builtin.Slice.sliceApplied Builtin.Slice.sliceFields
  refine wpAny_bind (wpAny_bind (wpAny_field hos hds (x := .none) rfl (wpAny_bind (wpAny_field hos hds (x := .none) rfl (wpAny_bind (wpAny_field hos hds (x := vs) rfl (wpAny_pure ?_)))))))
  refine wpAny_bind (HT.slicePart_ ps ?_)
  show wpAny _ _ (if ((-1 : Int) == 0) = true then _ else _) _ _ s
  rw [if_neg (by decide)]
  refine wpAny_bind (slicePart_none (wpAny_bind (slicePart_none (wpAny_bind (wpAny_pure ?_)))))
  show wpAny _ _ (match Builtin.Slice.sliceAdjust none none (-1) (n : Int) with | (lo, hi) => pure (lo, (-1 : Int), Builtin.Slice.slicePlaces lo hi (-1))) _ _ s
  rw [adjust_back]
  show wpAny _ _ (pure ((n : Int) - 1, (-1 : Int), Builtin.Slice.slicePlaces ((n : Int) - 1) (-1) (-1))) _ _ s
  rw [places_back]
  exact wpAny_pure h
theorem item_back {t sl : Addr} {items : Array Value} {vs : Value} {Q : Value → Shared → Prop} (ht : IsTup s.heap t items) (hs : s.heap.IsSliceOf sl .none .none vs) (ps : IsPart vs (some (-1)))
    (h : Q (.ref s.heap.objs.size) { s with heap := s.heap.push { cls := .type "tuple", data := .seq items.toList.reverse.toArray } }) (hsz : items.size ≤ sizeLine) : wpAny (model prog w) A (getItem (.ref t) (.ref sl)) Q E s := by
  have hok : sizeOk (.seq items.toList.reverse.toArray) := by
    show items.toList.reverse.toArray.size ≤ sizeLine
    rw [List.size_toArray, List.length_reverse, Array.length_toList]
    exact hsz
  obtain ⟨os, hos, hcs, hds⟩ := id hs
  have hTs : s.TypeIs (.ref sl) "slice" := ⟨os, hos, hcs⟩
  unfold getItem
  refine wpAny_holding ?_
  refine wpAny_bind (wpAny_sequenceKey ht.typeIs (by decide) ?_)
  refine wpAny_bind (wpAny_callSpecial?_slot (name := Str.ofString "__getitem__") ht.typeIs PyProof.Rows.slot_tuple_getitem
    (wpAny_call_entry PyProof.Rows.slot_tuple_getitem ht.typeIs entry_tuple_getitem ?_ (args_tuple_getitem _ _)))
  show wpAny _ _ (Builtin.Tuple.tupleItemsOf (.ref t) >>= _) _ _ s
  refine wpAny_bind (tupleItemsOf_ ht ?_)
  refine wpAny_bind (wpAny_typeOf hTs ?_)
  rw [if_pos (by decide)]
  refine wpAny_bind (slice_back hs ps ?_)
  have hno : ¬ ((((items.size : Int) - 1) == 0 && (-1 : Int) == 1 && items.size == items.size) = true) := by
    intro q
    rw [Bool.and_eq_true, Bool.and_eq_true] at q
    exact absurd q.1.2 (by decide)
  show wpAny _ _ (if (((items.size : Int) - 1) == 0 && (-1 : Int) == 1 && items.size == items.size) = true then _ else _) _ _ s
  rw [if_neg hno, pick_back]
  first
    | exact wpAny_bind (m := Builtin.Tuple.tupleExact _) (wpAny_newObj_type (wpAny_pure ⟨_, rfl, wpAny_pure h⟩) hok)
    | exact wpAny_bind (wpAny_bind (m := Builtin.Tuple.tupleExact _) (wpAny_newObj_type (wpAny_pure ⟨_, rfl, wpAny_pure h⟩) hok))
end
section
variable {X : Cx}
def tRevT (K : PySem.W.Frag) (te : TE) : TE := fun σ H Q => te σ H fun x H1 => ∃ a xs, x = .ref a ∧ SqT K H1 a xs ∧ ∀ p, H1 p = none → Q (.ref p) (upd H1 p (.tup xs.reverse))
theorem pe_revT {e : Expr} {te : TE} {k : Nat} {p1 p2 p3 pos : Pos} (he : PE X e te) : PE X (.Subscript e (.Slice none none (some (.UnaryOp .USub (.Constant (.int 1) k p1) p2)) p3) pos) (tRevT X.K te) := by
  refine ⟨fun pins s σ H Q I h => ?_⟩
  refine Subscript_ (thn (he.run pins s σ H _ I h) fun v s1 ⟨x, H1, I1, r1, q1⟩ => ?_)
  obtain ⟨a, xs, ex, hx, q⟩ := q1
  subst ex
  cases r1
  have mone : PO X (some (.UnaryOp .USub (.Constant (.int 1) k p1) p2)) (tPart (tUn (rU fun i => .int (-i)) (tC (.int 1)))) := po_some (pe_un un_neg pe_int)
  refine wpAny_Slice (thn (po_none.run pins s1 σ H1 (fun o H2 => o = none ∧ H2 = H1) I1 ⟨rfl, rfl⟩) fun vl s2 ⟨l, H2, I2, pl, el, e2⟩ => ?_)
  subst el e2
  refine thn (po_none.run pins s2 σ H2 (fun o H3 => o = none ∧ H3 = H2) I2 ⟨rfl, rfl⟩) fun vu s3 ⟨u, H3, I3, pu, eu, e3⟩ => ?_
  subst eu e3
  refine thn (mone.run pins s3 σ H3 (fun o H4 => o = some (-1) ∧ H4 = H3) I3 ⟨1, rfl, -1, rfl, rfl, rfl⟩) fun vs s4 ⟨o, H4, I4, ps, eo, e4⟩ => ?_
  subst eo e4
  have I5 : Inv X pins σ H4 { s4 with heap := s4.heap.push { cls := .type "slice", data := .fields #[vl, vu, vs] } } := I4.kept (t' := s4.toks) fun b ob q => Heap.get?_push_of_some _ q
  obtain ⟨its, r, ht, hz⟩ := I5.tuple hx
  have el : vl = .none := by cases pl; rfl
  have eu : vu = .none := by cases pu; rfl
  subst el eu
  have hlen := r.length
  show wpAny (model X.prog X.w) X.A (subscriptTail e (.Slice none none (some (.UnaryOp .USub (.Constant (.int 1) k p1) p2)) p3) (.ref a) (.ref s4.heap.objs.size)) (EP X pins σ Q) X.xe { s4 with heap := s4.heap.push { cls := .type "slice", data := .fields #[.none, .none, vs] } }
  refine tail_any (ops := [.ref a, .ref s4.heap.objs.size]) ht.typeIs (PyProof.Rows.slot_tuple_getitem.lookup) ?_ (by with_unfolding_all rfl)
  refine item_back ht (Heap.IsSliceOf.new _ .none .none vs) ps ?_ (by rw [List.size_toArray]; omega)
  refine ⟨.ref _, _, I5.laid (t' := s4.toks) (o := .tup xs.reverse) (fun b ob q => Heap.get?_push_of_some _ q) (Nat.le_refl _) ?_, rfl, q _ (I5.hok.fresh (Nat.le_refl _))⟩
  refine ⟨by rw [List.length_reverse]; exact hz, its.reverse, r.reverse, ?_⟩
  exact IsTup.new _ _
/-! ### repr of data, where no repr is under way -/
theorem call_reprD (hg : X.A.guards = some []) (hu : X.A.units + 64 < cLine) : CallR X (.builtin "repr") (fun xs H Q => ∃ (a : Addr) (d : PyData), xs = [.ref a] ∧ Dp X.K H (.ref a) d ∧ d.showable = true ∧ d.hasDict = false ∧ d.depth ≤ 8 ∧
    d.shown.length ≤ sizeLine ∧ Q (.str d.shown) H) := by
  intro pins s σ H xs us Q I r h
  obtain ⟨a, d, rfl, hd, h1, h2, h3, h4, q⟩ := h
  obtain ⟨u, rfl, ru⟩ := vals1 r
  obtain ⟨as, hr⟩ := Dp.reads I d (.ref a) u hd ru
  cases ru
  refine repr_of_reads' hr h1 (fun z => by rw [h2] at z; cases z) hg (by omega) (fun b o e => e) (fun h' t tk k => ?_) h4
  exact ⟨.str _, H, I.kept (t' := tk) k, ⟨_, rfl⟩, q⟩
end
end K

set_option Elab.async false
set_option linter.all false
set_option maxRecDepth 100000
set_option maxHeartbeats 4000000
/-! KC: lambdas that a def hands back: made, kept, called later. -/
namespace K
open PySem PySem.Spec PyProof.Rows L2 He LamX
/-! ### what stands at a lambda's and a cell's address -/
/-- the lambda: its words, where it was made, the cells that it captured, its code object -/
def CloO (f : Addr) (q : Str) (params : Arguments) (body : Expr) (scope : Scope) (cl : List (Str × Addr)) (c : Addr) : HO := .ext fun h => ∃ pm ctv : Value, h.get? f = some (PySem.W.kla_obj "<lambda>" q params body scope cl pm c ctv)
def CellO (c : Addr) (v : V) : HO := .ext fun h => ∃ u : Value, RelV v u ∧ h.IsCell c (some u)
section
variable {P : Program} {w : World} {H H' : Hp} {h : Heap}
theorem cloO_at {f : Addr} {q : Str} {params : Arguments} {body : Expr} {scope : Scope} {cl : List (Str × Addr)} {c : Addr} (hok : HOk P w H h) (e : H f = some (CloO f q params body scope cl c)) :
    ∃ pm ctv : Value, h.get? f = some (PySem.W.kla_obj "<lambda>" q params body scope cl pm c ctv) := by
  obtain ⟨z, _, _⟩ := hok f _ e
  exact z
theorem cellO_at {c : Addr} {v : V} (hok : HOk P w H h) (e : H c = some (CellO c v)) : ∃ u : Value, RelV v u ∧ h.IsCell c (some u) := by
  obtain ⟨z, _, _⟩ := hok c _ e
  exact z
theorem cellO_ok {c : Addr} {v : V} {u : Value} (r : RelV v u) (hc : h.IsCell c (some u)) : ObjOk P w H h c (CellO c v) := by
  obtain ⟨o, ho, hd⟩ := hc
  exact ⟨⟨u, r, o, ho, hd⟩, ⟨o, ho⟩, fun h1 h2 ⟨u', r', o', a, b⟩ st => ⟨u', r', o', st _ a, b⟩⟩
/-- other things are as before where some addresses are told or forgotten that hold no tuple and no instance's dict -/
theorem objOk_swap {b : Addr} {o : HO} (x : ObjOk P w H h b o) (ho : ∀ a, H a = some (.own b) → H' a = some (.own b)) (ht : ∀ a xs, H a = some (.tup xs) → H' a = some (.tup xs)) : ObjOk P w H' h b o :=
  x.stay (fun _ _ _ e => e) ho ht
end
/-- some cells told -/
def tell (H : Hp) : List (Addr × V) → Hp
  | [] => H
  | p :: r => upd (tell H r) p.1 (CellO p.1 p.2)
theorem tell_other {H : Hp} {b : Addr} : ∀ {l : List (Addr × V)}, (∀ p ∈ l, p.1 ≠ b) → tell H l b = H b
  | [], _ => rfl
  | p :: r, h => by
    unfold tell
    rw [upd_ne (fun z => h p List.mem_cons_self z.symm)]
    exact tell_other fun q hq => h q (List.mem_cons_of_mem _ hq)
theorem tell_at {H : Hp} : ∀ {l : List (Addr × V)}, (l.map (·.1)).Nodup → ∀ p ∈ l, tell H l p.1 = some (CellO p.1 p.2)
  | [], _, p, hp => absurd hp (by simp)
  | q :: r, hn, p, hp => by
    unfold tell
    rw [List.map_cons, List.nodup_cons] at hn
    rcases List.mem_cons.mp hp with e | hp
    · rw [e, upd_same]
    · have ne : p.1 ≠ q.1 := fun z => hn.1 (z ▸ List.mem_map.mpr ⟨p, hp, rfl⟩)
      rw [upd_ne ne]
      exact tell_at hn.2 p hp
theorem tell_same {H : Hp} {l : List (Addr × V)} (hl : ∀ p ∈ l, H p.1 = none) : Same H (tell H l) := fun b o e => by
  rw [tell_other fun p hp => fun z => by rw [← z, hl p hp] at e; cases e]
  exact e
/-- some addresses forgotten -/
def forget (H : Hp) (cs : List Addr) : Hp := fun b => if b ∈ cs then none else H b
theorem forget_in {H : Hp} {cs : List Addr} {b : Addr} (h : b ∈ cs) : forget H cs b = none := if_pos h
theorem forget_out {H : Hp} {cs : List Addr} {b : Addr} (h : b ∉ cs) : forget H cs b = H b := if_neg h
section
variable {P : Program} {w : World} {H : Hp} {h h' : Heap} {fs : List Addr}
theorem hok_tell {l : List (Addr × V)} (x : HOk P w H h) (hl : ∀ p ∈ l, H p.1 = none ∧ ∃ u, RelV p.2 u ∧ h.IsCell p.1 (some u)) : HOk P w (tell H l) h := by
  have sm : Same H (tell H l) := tell_same fun p hp => (hl p hp).1
  intro b o e
  by_cases hb : ∃ p ∈ l, p.1 = b
  · have key : ∀ (m : List (Addr × V)), (∀ p ∈ m, p ∈ l) → ∀ o, tell H m b = some o → (∃ p ∈ m, p.1 = b ∧ o = CellO p.1 p.2) ∨ H b = some o := by
      intro m
      induction m with
      | nil => intro _ o e; exact .inr e
      | cons p r ih =>
        intro hm o e
        unfold tell at e
        by_cases hp : b = p.1
        · rw [hp, upd_same] at e
          exact .inl ⟨p, List.mem_cons_self, hp.symm, (Option.some.inj e).symm⟩
        · rw [upd_ne hp] at e
          rcases ih (fun q hq => hm q (List.mem_cons_of_mem _ hq)) o e with ⟨q, hq, e1, e2⟩ | e3
          · exact .inl ⟨q, List.mem_cons_of_mem _ hq, e1, e2⟩
          · exact .inr e3
    rcases key l (fun _ z => z) o e with ⟨p, hp, e1, e2⟩ | e3
    · obtain ⟨_, u, r, hc⟩ := hl p hp
      rw [e2, ← e1]
      exact cellO_ok r hc
    · exact objOk_swap (x b o e3) (fun a z => sm _ _ z) (fun a xs z => sm _ _ z)
  · have e2 : H b = some o := by
      rw [← e, tell_other fun p hp z => hb ⟨p, hp, z⟩]
    exact objOk_swap (x b o e2) (fun a z => sm _ _ z) (fun a xs z => sm _ _ z)
theorem un_tell {H1 : Hp} {l : List (Addr × V)} (u : Un fs [] H H1 h h') (hl : ∀ p ∈ l, H1 p.1 = none ∧ h.get? p.1 = none) : Un fs [] H (tell H1 l) h h' where
  keep := u.keep
  slot := u.slot
  free := fun b o e n hx => by
    rw [tell_other fun p hp z => by
      have n2 := (hl p hp).2
      rw [z, e] at n2
      cases n2]
    exact u.free b o e n hx
  there := u.there
  tups := fun b xs e => tell_same (fun p hp => (hl p hp).1) _ _ (u.tups b xs e)
  frzs := fun b o x e => tell_same (fun p hp => (hl p hp).1) _ _ (u.frzs b o x e)
  tbls := fun b ps e => by
    obtain ⟨m, e1⟩ := u.tbls b ps e
    exact ⟨m, tell_same (fun p hp => (hl p hp).1) _ _ e1⟩
end
/-! ### the call -/
section
variable {P : Program} {w : World} {K : PySem.W.Frag} {mg : Str → Option Value} {base : Heap} {A : Around} {outer : List Env} {s : Shared} {H : Hp}
theorem env0_forget {cs : List Addr} (e0 : Env0 P w K mg base A outer s H) (hx : ∀ c ∈ cs, ∃ v, H c = some (CellO c v)) : Env0 P w K mg base A outer s (forget H cs) := by
  have hno : ∀ b, H b = none → forget H cs b = none := fun b e => by
    unfold forget; split
    · rfl
    · exact e
  refine ⟨e0.frames, e0.mod, fun b o e => ⟨(e0.bs b o e).1, hno _ (e0.bs b o e).2⟩, e0.bsz, e0.funs, fun b hb => hno _ (e0.frf b hb), fun b o e => ?_, e0.bare⟩
  have hb : b ∉ cs := fun z => by rw [forget_in z] at e; cases e
  rw [forget_out hb] at e
  refine objOk_swap (e0.hok b o e) (fun a z => ?_) (fun a xs z => ?_)
  · by_cases ha : a ∈ cs
    · obtain ⟨v, hv⟩ := hx a ha
      rw [z] at hv; unfold CellO at hv; cases hv
    · rw [forget_out ha]; exact z
  · by_cases ha : a ∈ cs
    · obtain ⟨v, hv⟩ := hx a ha
      rw [z] at hv; unfold CellO at hv; cases hv
    · rw [forget_out ha]; exact z
/-- THE RULE: a kept lambda is called; its cells are told at their addresses. The body leaves the heap as it was -/
theorem clo_run {f c : Addr} {q : Str} {params : Arguments} {body : Expr} {scope : Scope} {cl : List (Str × Addr)} {N ps fr : List Str} {us : List Value} {vs : List V} {ws : List V} {te : TE} {v : V} {k : Nat} {E : XK}
    (S : NdefX.NScope N ps fr scope) (hbind : ∀ (pm ctv : Value) (us : List Value), us.length = ps.length → bindArgs (PySem.W.kla_fn "<lambda>" q params body scope cl pm (.ref c) ctv) ⟨us, []⟩ = pure (ps.zip us))
    (hr : Room (k + 1) A) (e0 : Env0 P w K mg base A outer s H) (hf : H f = some (CloO f q params body scope cl c)) (hc : H c = some (CodeO c q))
    (hw : ws.length = fr.length) (inj : ∀ x y a, cl.lookup x = some a → cl.lookup y = some a → x = y) (hcl : ∀ y a, cl.lookup y = some a → ∃ v, H a = some (CellO a v))
    (has : ∀ (i : Nat) (y : Str), fr[i]? = some y → ∃ a v, cl.lookup y = some a ∧ ws[i]? = some v ∧ H a = some (CellO a v)) (r : Vals vs us) (hl : vs.length = ps.length)
    (he : ∀ (A : Around) (outer : List Env) (s : Shared) (H : Hp) (f : Addr), PE (NdefX.ncx CX0 P w K mg base N ⟨"<lambda>", q, params, [], scope, cl, c⟩ f A outer s H E) body te)
    (ht : ∀ (H : Hp) (R : VK), R v H → te (NdefX.startF N vs (ws.map some)) H R) {Q : VK} (hQ : Q v H) :
    codeAny (model P w) A (.call (.ref f) ⟨us, []⟩) (CR CX0 outer P w H s Q E) s := by
  obtain ⟨pm, ctv, ho⟩ := cloO_at e0.hok hf
  have lim : s.heap.NoLimit := e0.mod.nolimit.keeps fun b o e => (e0.bs b o e).1
  obtain ⟨⟨oc, vs', t, hoc, hdc, hvc⟩, _, _⟩ := e0.hok c _ hc
  refine PySem.W.kla_callFunE hr.depth ho rfl S.co S.gen rfl ⟨c, oc, vs', t, rfl, hoc, hdc, hvc⟩ ?_
  rw [hbind pm ctv us (by rw [← r.length]; exact hl)]
  refine wpAny_pure (wpAny_newFunctionEnv S.nocell (fun ⟨n, _⟩ hy => S.par n (List.of_mem_zip hy).1) (fun h₁ hns hsb => ⟨lim.fresh _ hsb, ?_⟩) S.kind)
  show codeAny _ _ (.expr body (NdefX.envF ⟨"<lambda>", q, params, [], scope, cl, c⟩ f s.heap.objs.size)) _ _
  have kp : ∀ b o, s.heap.get? b = some o → h₁.get? b = some o := fun b o e => hsb.extBut b o (Nat.ne_of_lt (Heap.lt_size e)) (Heap.get?_push_of_some _ e)
  let cs' : List Addr := (cl.map (·.1)).filterMap fun y => cl.lookup y
  have inCs : ∀ a, a ∈ cs' → ∃ y, cl.lookup y = some a := fun a ha => by
    obtain ⟨y, _, e⟩ := List.mem_filterMap.mp ha
    exact ⟨y, e⟩
  have memCs : ∀ y a, cl.lookup y = some a → a ∈ cs' := fun y a e => List.mem_filterMap.mpr ⟨y, List.mem_map.mpr ⟨(y, a), PySem.mem_of_lookup e, rfl⟩, e⟩
  have cx : ∀ a ∈ cs', ∃ v, H a = some (CellO a v) := fun a ha => by
    obtain ⟨y, e⟩ := inCs a ha
    exact hcl y a e
  have e1 := env0_forget (cs := cs') e0 cx
  have C : NdefX.CellsAt cl fr (ws.map some) s.heap (forget H cs') := by
    refine ⟨by rw [List.length_map]; exact hw, fun y a e => ?_, inj, fun i y e => ?_⟩
    · refine ⟨forget_in (memCs y a e), ?_⟩
      obtain ⟨v, hv⟩ := hcl y a e
      obtain ⟨u, _, hu⟩ := cellO_at e0.hok hv
      exact ⟨_, hu⟩
    · obtain ⟨a, v, h1, h2, h3⟩ := has i y e
      refine ⟨a, h1, fun v' hv => ?_⟩
      rw [List.getElem?_map, h2] at hv
      cases hv
      obtain ⟨u, ru, hu⟩ := cellO_at e0.hok h3
      exact ⟨u, ru, hu⟩
  have J : Inv (NdefX.ncx CX0 P w K mg base N ⟨"<lambda>", q, params, [], scope, cl, c⟩ f A outer s (forget H cs') E) [] (NdefX.startF N vs (ws.map some)) (forget H cs') { s with heap := h₁, toks := s.toks + (ps.zip us).length } :=
    NdefX.inv_startN (F := ⟨"<lambda>", q, params, [], scope, cl, c⟩) S hr.hd e1 hl r C hns kp
  refine PySem.W.kla_codeExpr (wpAny_mono ((he A outer s (forget H cs') f).run [] _ _ _ (fun v' H' => v' = v ∧ H' = forget H cs') J (ht _ _ ⟨rfl, rfl⟩)) (fun u s' hq => ?_) fun e s' hq => hq)
  obtain ⟨v', H', J', rv, rfl, rfl⟩ := hq
  refine ⟨v', H, J'.os, J'.bare, ?_, ?_, rv, hQ⟩
  · have U : Un (frs outer) [] (forget H cs') (forget H cs') s.heap s'.heap := J'.base
    have fo : ∀ b, H b = none → forget H cs' b = none := fun b e => by
      unfold forget; split
      · rfl
      · exact e
    exact ⟨fun b o e n => U.keep b o e (fo b n), fun b o e n => U.slot b o e (fo b n), fun _ _ _ n _ => n, U.there, fun _ _ z => z, fun _ _ _ z => z, fun b p z => ⟨#[], by rw [z]; simp⟩⟩
  · have U : Un (frs outer) [] (forget H cs') (forget H cs') s.heap s'.heap := J'.base
    intro b o e
    by_cases hb : b ∈ cs'
    · obtain ⟨v2, hv⟩ := cx b hb
      rw [hv] at e
      cases e
      obtain ⟨u2, ru, hu⟩ := cellO_at e0.hok hv
      have nf : b ∉ frs outer := fun z => by
        have z2 := e0.frf b z
        rw [hv] at z2
        cases z2
      obtain ⟨o2, ho2, hd2⟩ := hu
      exact cellO_ok ru ⟨o2, U.keep b o2 ho2 (forget_in hb) nf (by simp), hd2⟩
    · have hk := J'.hok b o (by rw [forget_out hb]; exact e)
      refine objOk_swap hk (fun a z => ?_) (fun a xs z => ?_)
      · by_cases ha : a ∈ cs'
        · rw [forget_in ha] at z; cases z
        · rw [forget_out ha] at z; exact z
      · by_cases ha : a ∈ cs'
        · rw [forget_in ha] at z; cases z
        · rw [forget_out ha] at z; exact z
end
/-! ### the making -/
section
variable {X : Cx} {pins : List (Addr × Obj)} {σ : L2.St} {H : Hp} {s : Shared}
/-- a lambda's object, laid behind all others, is known from now on -/
theorem clo_laid {q : Str} {params : Arguments} {body : Expr} {scope : Scope} {cl : List (Str × Addr)} {pm ctv : Value} {c' : Addr} {tk : Nat} (I : Inv X pins σ H s) :
    Inv X pins σ (upd H s.heap.objs.size (CloO s.heap.objs.size q params body scope cl c')) { s with heap := s.heap.push (PySem.W.kla_obj "<lambda>" q params body scope cl pm c' ctv), toks := tk } := by
  refine I.laid (fun b u e => Heap.get?_push_of_some _ e) (Nat.le_refl _) ?_
  have e := Heap.get?_push_size s.heap (o := PySem.W.kla_obj "<lambda>" q params body scope cl pm c' ctv) rfl
  exact ⟨⟨pm, ctv, e⟩, ⟨_, e⟩, fun h1 h2 ⟨p1, p2, z⟩ st => ⟨p1, p2, st _ z⟩⟩
/-- the reading of a lambda that is kept: T, the tables of the code objects -/
def tLamK (T : List (Addr × Str)) (q : Str) (params : Arguments) (body : Expr) (scope : Scope) (cl : List (Str × Addr)) : TE := fun _ H Q => Tabs T H ∧
  ∀ (f c' : Addr) (H1 : Hp), ExtN H H1 → Tabs T H1 → H f = none → H1 f = some (CloO f q params body scope cl c') → H1 c' = some (CodeO c' q) → Q (.ref f) H1
theorem pe_lamK {T : List (Addr × Str)} {c P : Addr} {q : Str} {params : Arguments} {body : Expr} {scope : Scope} {pos : Pos} (TB : TabB X.base X.mg c P) (hcode : X.env.code = .ref c) (hq : X.env.qual ++ "<lambda>" = q)
    (hm : (P, q) ∈ T) (hu : ∀ p ∈ T, p.1 = P → p.2 = q) (hdef : defaultsOf params X.env = ([], [])) (hfree : X.Ok → ∀ y ∈ scope.names, y.2 = .free → ∃ c, X.env.cells.lookup y.1 = some c) :
    PE X (.Lambda params body scope pos) (tLamK T q params body scope (cloFrom X.env.cells scope.names [])) := by
  subst hq
  refine ⟨fun pins s σ H Q I h => ?_⟩
  obtain ⟨hT, hQ⟩ := h
  obtain ⟨ps, hP, ht, ha⟩ := hT _ hm
  refine PySem.W.kla_eval hdef ?_
  have bP := TB.bm.keeps I.bk
  have hP' : s.heap.get? P = some { cls := .none, data := .fields ps } := I.hok P _ hP
  have co_ne : ∀ {c : Addr} {q : Str} (z : Array Value), CodeO c q ≠ .tbl z := fun {c q} z => by unfold CodeO; intro e; cases e
  cases hc : codeAmong pos ps.toList with
  | some cv =>
    obtain ⟨c', e, hco⟩ := ha pos cv hc
    subst e
    refine PySem.W.kla_makeFunctionHit (mg := X.mg) (c := c) (P := P) (ps := ps) (closure_ok (hfree I.ok)) I.ok.glob (I.mod.glob.keeps I.bk) hcode (TB.code.keeps I.bk) hP' ht hc bP fun ctv h' tk hx hsz => ?_
    have I1 : Inv X pins σ H { s with heap := h', toks := tk } := I.kept hx
    have n1 : H h'.objs.size = none := I.hok.fresh hsz
    refine ⟨.ref h'.objs.size, _, clo_laid I1, rfl, hQ _ c' _ (ExtN.of (same_new n1)) (hT.ext (same_new n1)) n1 upd_same ?_⟩
    exact same_new n1 _ _ hco
  | none =>
    refine PySem.W.kla_makeFunction (mg := X.mg) (c := c) (P := P) (ps := ps) (closure_ok (hfree I.ok)) I.ok.glob (I.mod.glob.keeps I.bk) hcode (TB.code.keeps I.bk) hP' ht hc TB.gP bP fun c' ctv h' tk hx hge hlt hrec htb => ?_
    obtain ⟨c2, oc, vs, t, e2, hoc, hd, hv⟩ := hrec
    cases e2
    have hsz : s.heap.objs.size ≤ h'.objs.size := Nat.le_trans hge (Nat.le_of_lt hlt)
    have nC : H c' = none := I.hok.fresh hge
    have n1 : H h'.objs.size = none := I.hok.fresh hsz
    have I1 := inv_table (t' := tk) (more := #[rawInt pos.line, rawInt pos.col, .ref c']) (h' := h') I hP hx htb hge ⟨oc, vs, t, hoc, hd, hv⟩
    generalize hH1 : upd (upd H P (.tbl (ps ++ #[rawInt pos.line, rawInt pos.col, .ref c']))) c' (CodeO c' (X.env.qual ++ "<lambda>")) = H1 at I1
    have nPc : P ≠ c' := ne_of_none hP nC
    have n2 : H1 h'.objs.size = none := I1.hok.fresh (Nat.le_refl _)
    have ex1 : ExtN H H1 := fun b o e n => by
      rw [← hH1, upd_ne (ne_of_none e nC), upd_ne (fun z => n ps (Option.some.inj (e.symm.trans (by rw [z]; exact hP))))]
      exact e
    have ex2 : ExtN H (upd H1 h'.objs.size (CloO h'.objs.size (X.env.qual ++ "<lambda>") params body scope (cloFrom X.env.cells scope.names []) c')) := ex1.trans (ExtN.of (same_new n2))
    have eL : (ps ++ #[rawInt pos.line, rawInt pos.col, .ref c']).toList = ps.toList ++ [rawInt pos.line, rawInt pos.col, .ref c'] := by simp
    have t1 : Tabs T H1 := fun p hp => by
      by_cases hb : p.1 = P
      · rw [hu p hp hb, hb]
        refine ⟨_, by rw [← hH1, upd_ne nPc, upd_same], by rw [eL]; exact PySem.TriplesOk_snoc _ _ _ _ ht, fun p' cv hcv => ?_⟩
        rw [eL] at hcv
        rcases among_app _ ht hcv with z | z
        · obtain ⟨c0, e1, e2⟩ := ha p' cv z
          exact ⟨c0, e1, ex1 _ _ e2 co_ne⟩
        · exact ⟨c', z, by rw [← hH1, upd_same]⟩
      · obtain ⟨ps', a1, a2, a3⟩ := hT p hp
        refine ⟨ps', by rw [← hH1, upd_ne (ne_of_none a1 nC), upd_ne hb]; exact a1, a2, fun p' cv hcv => ?_⟩
        obtain ⟨c0, e1, e2⟩ := a3 p' cv hcv
        exact ⟨c0, e1, ex1 _ _ e2 co_ne⟩
    refine ⟨.ref h'.objs.size, _, clo_laid I1, rfl, hQ _ c' _ ex2 (t1.ext (same_new n2)) n1 upd_same ?_⟩
    exact same_new n2 _ _ (by rw [← hH1, upd_same])
end
theorem cells_name0 : ∀ {names : List (Str × NameKind)} {n : Nat} {acc : List (Str × Addr)} {y : Str} {a : Addr}, (y, a) ∈ cellsFrom n names acc → (y, a) ∈ acc ∨ (y, NameKind.cell) ∈ names
  | [], _, _, _, _, h => .inl h
  | (m, k) :: r, n, acc, y, a, h => by
    unfold cellsFrom at h
    by_cases hk : k = .cell
    · subst hk
      rw [if_pos (by rfl)] at h
      rcases cells_name0 h with z | z
      · rcases List.mem_cons.mp z with e | z
        · cases e; exact .inr List.mem_cons_self
        · exact .inl z
      · exact .inr (List.mem_cons_of_mem _ z)
    · rw [if_neg (by simpa using hk)] at h
      rcases cells_name0 h with z | z
      · exact .inl z
      · exact .inr (List.mem_cons_of_mem _ z)
theorem cells_name {names : List (Str × NameKind)} {n : Nat} {y : Str} {a : Addr} (h : (y, a) ∈ cellsFrom n names []) : (y, NameKind.cell) ∈ names := by
  rcases cells_name0 h with z | z
  · cases z
  · exact z
theorem nodup_map_on {α β : Type} {f : α → β} : ∀ {l : List α}, (∀ x ∈ l, ∀ y ∈ l, f x = f y → x = y) → l.Nodup → (l.map f).Nodup
  | [], _, _ => by simp
  | a :: r, h, hn => by
    rw [List.nodup_cons] at hn
    rw [List.map_cons, List.nodup_cons]
    refine ⟨fun hm => ?_, nodup_map_on (fun x hx y hy => h x (List.mem_cons_of_mem _ hx) y (List.mem_cons_of_mem _ hy)) hn.2⟩
    obtain ⟨b, hb, e⟩ := List.mem_map.mp hm
    have := h b (List.mem_cons_of_mem _ hb) a List.mem_cons_self e
    exact hn.1 (this ▸ hb)
/-- a kept lambda stands at f: its captured names fr hold ws -/
def CloAt (H : Hp) (f : Addr) (q : Str) (params : Arguments) (body : Expr) (scope : Scope) (fr : List Str) (ws : List V) : Prop := ∃ (c : Addr) (cl : List (Str × Addr)), H f = some (CloO f q params body scope cl c) ∧ H c = some (CodeO c q) ∧
  (∀ x y a, cl.lookup x = some a → cl.lookup y = some a → x = y) ∧ (∀ y a, cl.lookup y = some a → ∃ v, H a = some (CellO a v)) ∧
  ∀ (i : Nat) (y : Str), fr[i]? = some y → ∃ a v, cl.lookup y = some a ∧ ws[i]? = some v ∧ H a = some (CellO a v)
theorem CloAt.of {H H' : Hp} {f : Addr} {q : Str} {params : Arguments} {body : Expr} {scope : Scope} {fr : List Str} {ws : List V} (h : CloAt H f q params body scope fr ws) (e : ∀ b φ, H b = some (.ext φ) → H' b = some (.ext φ)) : CloAt H' f q params body scope fr ws := by
  obtain ⟨c, cl, h1, h2, h3, h4, h5⟩ := h
  refine ⟨c, cl, e _ _ h1, e _ _ h2, h3, fun y a z => ?_, fun i y z => ?_⟩
  · obtain ⟨v, hv⟩ := h4 y a z
    exact ⟨v, e _ _ hv⟩
  · obtain ⟨a, v, a1, a2, a3⟩ := h5 i y z
    exact ⟨a, v, a1, a2, e _ _ a3⟩
section
variable {P : Program} {w : World} {K : PySem.W.Frag} {mg : Str → Option Value} {base : Heap}
/-- what a def that hands back a lambda promises -/
def spClo (T : List (Addr × Str)) (n : Nat) (q : Str) (params : Arguments) (body : Expr) (scope : Scope) (fr : List Str) (g : List V → List V) : Sp := fun vs H Q _ => vs.length = n ∧ Tabs T H ∧
  ∀ (f : Addr) (H1 : Hp), ExtN H H1 → Tabs T H1 → H f = none → CloAt H1 f q params body scope fr (g vs) → Q (.ref f) H1
theorem fn_clo {x : Str} {st : Stmt} {N ps fr : List Str} {k : Nat} {params : Arguments} {lbody : Expr} {lsc : Scope} {lpos rpos : Pos} {T : List (Addr × Str)} {c P0 : Addr} {g : List V → List V} (G : Gf K mg x st) (S : FnScope N ps (defScope st)) (hb : BindOk x st ps)
    (hbody : defBody st = [.Return (some (.Lambda params lbody lsc lpos)) rpos]) (hcd : ∀ oc od fd osl, K.lookup (ga K x) = some ⟨oc, od, .func fd, osl⟩ → fd.code = .ref c)
    (TB : TabB base mg c P0) (hm : (P0, x ++ ".<locals>." ++ "<lambda>") ∈ T) (hu : ∀ p ∈ T, p.1 = P0 → p.2 = x ++ ".<locals>." ++ "<lambda>")
    (hdef : ∀ env : Env, defaultsOf params env = ([], [])) (hcell : ∀ y ∈ (defScope st).names, y.2 = .cell → y.1 ∈ ps) (hpar : ∀ y ∈ ps, (defScope st).names.lookup y = some .cell)
    (hfree : ∀ y ∈ lsc.names, y.2 = .free → (defScope st).names.lookup y.1 = some .cell) (hfr : ∀ y ∈ fr, (y, NameKind.free) ∈ lsc.names ∧ y ∈ ps) (hnd : ps.Nodup)
    (hg : ∀ (vs : List V) (i j : Nat) (y : Str), vs.length = ps.length → fr[i]? = some y → ps[j]? = some y → (g vs)[i]? = vs[j]?) :
    Ok1 P w K mg base (k + 1) x ps (spClo T ps.length (x ++ ".<locals>." ++ "<lambda>") params lbody lsc fr g) := by
  obtain ⟨gl, fd, F⟩ := G
  refine ⟨⟨fd, ⟨fun vs H Q E h => h.1, ?_⟩, F.bindsN hb⟩, gl, F.kp⟩
  obtain ⟨oc, od, dV, kV, doc, pm, an, cdv, ct, osl, rfl, lk, hcd2, _, _⟩ := F.ex
  have ec : cdv = .ref c := hcd _ _ _ _ lk
  subst ec
  intro A outer s H args us vs Q E hr e0 hbd r hs
  obtain ⟨hl, hT, hQ⟩ := hs
  have inK : K.In s.heap := e0.mod.kin.keeps fun b o e => (e0.bs b o e).1
  have nolim : s.heap.NoLimit := e0.mod.nolimit.keeps fun b o e => (e0.bs b o e).1
  have kinds : ∀ y ∈ ps.zip us, (defScope st).names.lookup y.1 = some .local ∨ ((defScope st).names.lookup y.1 = some .cell ∧ ((cellsFrom (s.heap.objs.size + 1) (defScope st).names []).lookup y.1).isSome = true) := by
    rintro ⟨n, v⟩ hy
    rcases S.par n (List.of_mem_zip hy).1 with q | q
    · exact .inl q
    · exact .inr ⟨q, PySem.W.cellsFrom_some _ _ _ (.inl q)⟩
  refine codeAny_call_function hr.depth (inK _ _ lk) rfl S.co S.gen rfl (PySem.W.codeRec_of inK hcd2) (hbd _ _ _ _ ?_)
  refine wpAny_newFunctionEnv_cells S.kind kinds fun env he s1 x1 => ?_
  subst he
  refine ⟨nolim.keeps x1.toInCall.keep, codeAny_func ?_⟩
  have I := inv_start (CX := CX0) (E := E) S hr.hd e0 hl r x1
  generalize hX : cxOf CX0 P w K mg base N x (defScope st) (ga K x) (.ref c) A outer s H E = X at I
  have eA : X.A = A.deeper (envOfC x (defScope st) s.heap.objs.size (ga K x) (.ref c)) := by rw [← hX]; rfl
  have eenv : X.env = envOfC x (defScope st) s.heap.objs.size (ga K x) (.ref c) := by rw [← hX]; rfl
  have hasC : X.Ok → ∀ y ∈ lsc.names, y.2 = .free → ∃ c, X.env.cells.lookup y.1 = some c := fun ok y hy e => by
    have z := hfree y hy e
    refine ok.has _ (.inl ?_)
    rw [eenv]
    exact z
  have lam := pe_lamK (X := X) (T := T) (c := c) (P := P0) (q := x ++ ".<locals>." ++ "<lambda>") (params := params) (body := lbody) (scope := lsc) (pos := lpos) (by rw [← hX]; exact TB) (by rw [eenv]; rfl) (by rw [eenv]; rfl) hm hu (hdef _) hasC
  have key : wpAny (model P w) X.A (eval (.Lambda params lbody lsc lpos) X.env) (fun u s' => CE outer P w H s Q u s') X.xe s1 := by
    have eP : X.prog = P := by rw [← hX]; rfl
    have ew : X.w = w := by rw [← hX]; rfl
    have r0 := lam.run [] s1 (L2.start N vs) H (fun v H1 => ∃ f c', v = .ref f ∧ ExtN H H1 ∧ Tabs T H1 ∧ H f = none ∧ H1 f = some (CloO f (x ++ ".<locals>." ++ "<lambda>") params lbody lsc (cloFrom X.env.cells lsc.names []) c') ∧ H1 c' = some (CodeO c' (x ++ ".<locals>." ++ "<lambda>")))
      I ⟨hT, fun f c' H1 a1 a2 a3 a4 a5 => ⟨f, c', rfl, a1, a2, a3, a4, a5⟩⟩
    rw [eP, ew] at r0
    refine wpAny_mono r0 (fun u s' hq => ?_) fun _ _ z => z
    obtain ⟨v, H1, J, rv, f, c', rfl, b1, b2, b3, b4, b5⟩ := hq
    have es0 : X.s_0 = s := by rw [← hX]; rfl
    have eH0 : X.H_0 = H := by rw [← hX]; rfl
    have eN : X.N = N := by rw [← hX]; rfl
    have efs : X.fs = frs outer := by rw [← hX]; rfl
    have eex : X.ex = [] := by rw [← hX]; rfl
    have efn : ∀ y, X.fn y = true := fun y => by rw [← hX]; rfl
    -- the cells and what they hold
    have cellOf : ∀ (j : Nat) (y : Str) (v : V), ps[j]? = some y → vs[j]? = some v → ∃ a u, X.env.cells.lookup y = some a ∧ RelV v u ∧ s'.heap.IsCell a (some u) := fun j y v hy hv => by
      obtain ⟨m, _, hlook⟩ := J.loc
      have hy2 : X.N[j]? = some y := by
        rw [eN]
        have := S.pre
        have h3 : (N.take ps.length)[j]? = some y := by rw [this]; exact hy
        rw [List.getElem?_take_of_lt (by
          obtain ⟨q, _⟩ := List.getElem?_eq_some_iff.mp hy
          exact q)] at h3
        exact h3
      have hv2 : (L2.start N vs)[j]? = some (some v) := by
        unfold L2.start
        obtain ⟨q, _⟩ := List.getElem?_eq_some_iff.mp hv
        rw [List.getElem?_append_left (by simpa using q), List.getElem?_map, hv]
        rfl
      have vis : Vis X.env.scope y := by
        rw [eenv]
        exact .inr (.inl (hpar y (List.mem_of_getElem? hy)))
      obtain ⟨u, ru, lk2⟩ := hlook j y v hy2 hv2 vis
      rcases lk2 with ⟨k1, _⟩ | ⟨_, a, e1, e2⟩
      · have k2 : (defScope st).names.lookup y = some .local := by rw [eenv] at k1; exact k1
        rw [hpar y (List.mem_of_getElem? hy)] at k2
        cases k2
      · exact ⟨a, u, e1, ru, e2⟩
    let adr : Str → Addr := fun y => (X.env.cells.lookup y).getD 0
    let l : List (Addr × V) := (ps.zip vs).map fun p => (adr p.1, p.2)
    have inL : ∀ p ∈ l, ∃ (j : Nat) (y : Str), ps[j]? = some y ∧ vs[j]? = some p.2 ∧ X.env.cells.lookup y = some p.1 ∧ ∃ u, RelV p.2 u ∧ s'.heap.IsCell p.1 (some u) := fun p hp => by
      obtain ⟨⟨y, v⟩, hz, rfl⟩ := List.mem_map.mp hp
      obtain ⟨j, hj⟩ := List.mem_iff_getElem?.mp hz
      rw [List.getElem?_zip_eq_some] at hj
      obtain ⟨a, u, e1, e2, e3⟩ := cellOf j y v hj.1 hj.2
      have ea : adr y = a := by show (X.env.cells.lookup y).getD 0 = a; rw [e1]; rfl
      exact ⟨j, y, hj.1, hj.2, by rw [ea]; exact e1, u, e2, by rw [ea]; exact e3⟩
    have memL : ∀ (j : Nat) (y : Str) (v : V), ps[j]? = some y → vs[j]? = some v → (adr y, v) ∈ l := fun j y v hy hv =>
      List.mem_map.mpr ⟨(y, v), List.mem_of_getElem? (List.getElem?_zip_eq_some.mpr ⟨hy, hv⟩), rfl⟩
    have fst : l.map (·.1) = (ps.zip vs).map fun p => adr p.1 := by rw [List.map_map]; rfl
    have nd : (l.map (·.1)).Nodup := by
      rw [fst, show (ps.zip vs).map (fun p => adr p.1) = ps.map adr by
        rw [← List.map_fst_zip (l₁ := ps) (l₂ := vs) (by omega), List.map_map]
        rw [List.map_fst_zip (by omega)]
        rfl]
      refine nodup_map_on ?_ hnd
      intro y hy z hz e
      obtain ⟨i, hi⟩ := List.mem_iff_getElem?.mp hy
      obtain ⟨j, hj⟩ := List.mem_iff_getElem?.mp hz
      have hi2 : i < vs.length := by rw [hl]; exact (List.getElem?_eq_some_iff.mp hi).1
      have hj2 : j < vs.length := by rw [hl]; exact (List.getElem?_eq_some_iff.mp hj).1
      obtain ⟨a, _, e1, _⟩ := cellOf i y _ hi (List.getElem?_eq_getElem hi2)
      obtain ⟨b, _, e2, _⟩ := cellOf j z _ hj (List.getElem?_eq_getElem hj2)
      have ea : adr y = a := by show (X.env.cells.lookup y).getD 0 = a; rw [e1]; rfl
      have eb : adr z = b := by show (X.env.cells.lookup z).getD 0 = b; rw [e2]; rfl
      rw [ea, eb] at e
      subst e
      exact J.ok.inj y z a e1 e2
    have none1 : ∀ p ∈ l, H1 p.1 = none := fun p hp => by
      obtain ⟨j, y, _, _, e1, _⟩ := inL p hp
      exact J.freeC y p.1 e1
    have sm : Same H1 (tell H1 l) := tell_same none1
    refine ⟨.ref f, tell H1 l, by rw [J.os, es0], J.bare, ?_, ?_, rv, hQ f _ ?_ ?_ b3 ?_⟩
    · have U := J.base
      rw [efs, eex, eH0, es0] at U
      refine un_tell U fun p hp => ⟨none1 p hp, ?_⟩
      obtain ⟨j, y, _, _, e1, _⟩ := inL p hp
      have := J.ok.cab y p.1 (efn y) e1
      rw [es0] at this
      exact Heap.get?_none_of_le this
    · have hk := J.hok
      rw [eP, ew] at hk
      refine hok_tell hk fun p hp => ?_
      obtain ⟨j, y, _, _, e1, u, e2, e3⟩ := inL p hp
      exact ⟨none1 p hp, u, e2, e3⟩
    · exact b1.trans (ExtN.of sm)
    · exact b2.ext sm
    · have cm : ∀ {y a}, (cloFrom X.env.cells lsc.names []).lookup y = some a → X.env.cells.lookup y = some a := fun {y a} e => NdefX.clo_cm (hasC J.ok) e
      have atY : ∀ y a, X.env.cells.lookup y = some a → ∃ (j : Nat) (v : V), ps[j]? = some y ∧ vs[j]? = some v ∧ tell H1 l a = some (CellO a v) := fun y a e => by
        have hy : y ∈ ps := by
          have hmem := PySem.mem_of_lookup e
          rw [eenv] at hmem
          exact hcell (y, .cell) (cells_name hmem) rfl
        obtain ⟨j, hj⟩ := List.mem_iff_getElem?.mp hy
        have hj2 : j < vs.length := by rw [hl]; exact (List.getElem?_eq_some_iff.mp hj).1
        have m := memL j y _ hj (List.getElem?_eq_getElem hj2)
        have ea : adr y = a := by show (X.env.cells.lookup y).getD 0 = a; rw [e]; rfl
        rw [ea] at m
        exact ⟨j, _, hj, List.getElem?_eq_getElem hj2, tell_at nd _ m⟩
      refine ⟨c', _, sm _ _ b4, sm _ _ b5, fun x y a e1 e2 => J.ok.inj x y a (cm e1) (cm e2), fun y a e => ?_, fun i y e => ?_⟩
      · obtain ⟨j, v, _, _, h3⟩ := atY y a (cm e)
        exact ⟨v, h3⟩
      · obtain ⟨hf1, hf2⟩ := hfr y (List.mem_of_getElem? e)
        obtain ⟨a, ha⟩ := hasC J.ok _ hf1 rfl
        have hcl := NdefX.clo_has (hasC J.ok) hf1 ha
        obtain ⟨j, v, h1, h2, h3⟩ := atY y a ha
        exact ⟨a, v, hcl, by rw [hg vs i j y hl e h1, h2], h3⟩
  rw [hbody]
  have eB : A.deeper (envOfC x (defScope st) s.heap.objs.size (ga K x) (.ref c)) = X.A := eA.symm
  have eV : envOfC x (defScope st) s.heap.objs.size (ga K x) (.ref c) = X.env := eenv.symm
  show wpAny (model P w) (A.deeper (envOfC x (defScope st) s.heap.objs.size (ga K x) (.ref c))) (execs [.Return (some (.Lambda params lbody lsc lpos)) rpos] (envOfC x (defScope st) s.heap.objs.size (ga K x) (.ref c))) _ _ s1
  rw [eB, eV]
  refine wpAny_execs_cons (wpAny_Return_some (wpAny_mono key (fun u s' hq => hq) fun e s' z => ?_))
  rw [← hX] at z
  exact z
end
end K

set_option Elab.async false
set_option linter.all false
set_option maxRecDepth 100000
set_option maxHeartbeats 4000000
/-! KG: defs that are run where no repr is under way (they call repr, so they must know it). -/
namespace K
open PySem PySem.Spec PyProof.Rows L2 He
/-- the promise of a def that is called where no repr is under way -/
def RunG (P : Program) (w : World) (K : PySem.W.Frag) (mg : Str → Option Value) (base : Heap) (k : Nat) (f : Addr) (fd : FuncData) (ps : List Str) (sp : Sp) : Prop :=
  ∀ (A : Around) (outer : List Env) (s : Shared) (H : Hp) (args : Args) (us : List Value) (vs : List V) (Q : VK) (E : XK), A.guards = some [] → Room k A → Env0 P w K mg base A outer s H →
    BindsTo s fd args (ps.zip us) → Vals vs us → sp vs H Q E → codeAny (model P w) A (.call (.ref f) args) (CR CX0 outer P w H s Q E) s
structure OkG (P : Program) (w : World) (K : PySem.W.Frag) (mg : Str → Option Value) (base : Heap) (k : Nat) (x : Str) (ps : List Str) (sp : Sp) : Prop where
  len : ∀ vs H Q E, sp vs H Q E → vs.length = ps.length
  fn : ∃ fd, RunG P w K mg base k (ga K x) fd ps sp ∧ Binds K fd ps [] ∧ ∀ (s : Shared) (us : List Value), us.length = ps.length → BindsTo s fd ⟨us, []⟩ (ps.zip us)
  gl : mg x = some (.ref (ga K x))
  kp : PySem.W.keepIn K (.ref (ga K x)) = true
section
variable {P : Program} {w : World} {K : PySem.W.Frag} {mg : Str → Option Value} {base : Heap}
theorem Gf.mkG {x : Str} {st : Stmt} {N ps : List Str} {k : Nat} {sp : Sp} (G : Gf K mg x st) (S : FnScope N ps (defScope st)) (hb : BindOk x st ps) (len : ∀ vs H Q E, sp vs H Q E → vs.length = ps.length)
    (body : ∀ (cdv : Value) (A : Around) (outer : List Env) (s : Shared) (H : Hp) (vs : List V) (Q : VK) (E : XK), A.guards = some [] → Room k (A.deeper (envOfC x (defScope st) s.heap.objs.size (ga K x) cdv)) → sp vs H Q E →
      ∃ t, PSs (cxOf CX0 P w K mg base N x (defScope st) (ga K x) cdv A outer s H E).nox (defBody st) t ∧ t { nx := fun _ H' => Q .non H', rt := Q } (start N vs) H) : OkG P w K mg base (k + 1) x ps sp := by
  obtain ⟨gl, fd, F⟩ := G
  refine ⟨len, ⟨fd, ?_, F.bindsN hb, F.bindsA hb⟩, gl, F.kp⟩
  obtain ⟨oc, od, dV, kV, doc, pm, an, cdv, ct, osl, rfl, lk, hcd, _, _⟩ := F.ex
  intro A outer s H args us vs Q E hg hr e0 hbd r hs
  have inK : K.In s.heap := e0.mod.kin.keeps fun b o e => (e0.bs b o e).1
  have nolim : s.heap.NoLimit := e0.mod.nolimit.keeps fun b o e => (e0.bs b o e).1
  have kinds : ∀ y ∈ ps.zip us, (defScope st).names.lookup y.1 = some .local ∨ ((defScope st).names.lookup y.1 = some .cell ∧ ((cellsFrom (s.heap.objs.size + 1) (defScope st).names []).lookup y.1).isSome = true) := by
    rintro ⟨n, v⟩ hy
    rcases S.par n (List.of_mem_zip hy).1 with q | q
    · exact .inl q
    · exact .inr ⟨q, PySem.W.cellsFrom_some _ _ _ (.inl q)⟩
  refine codeAny_call_function hr.depth (inK _ _ lk) rfl S.co S.gen rfl (PySem.W.codeRec_of inK hcd) (hbd _ _ _ _ ?_)
  refine wpAny_newFunctionEnv_cells S.kind kinds fun env he s1 x1 => ?_
  subst he
  refine ⟨nolim.keeps x1.toInCall.keep, codeAny_func ?_⟩
  obtain ⟨t, ht, hq⟩ := body cdv A outer s H vs Q E hg (hr.deeper _) hs
  have I := inv_start (CX := CX0) (E := E) S hr.hd e0 (len _ _ _ _ hs) r x1
  refine wpAny_mono (ht.nox.run [] s1 (start N vs) H _ I hq) (fun fl s' hs' => ?_) fun e s' hs' => hs'
  cases fl with
  | ret u =>
    obtain ⟨v, σ', H', J, rv, q⟩ := hs'
    exact ⟨v, H', J.os, J.bare, J.base, J.hok, rv, q⟩
  | next =>
    obtain ⟨σ', H', J, q⟩ := hs'
    exact ⟨.non, H', J.os, J.bare, J.base, J.hok, rfl, q⟩
  | brk => exact False.elim (hs'.elim fun _ z => z.elim fun _ z => z.2)
  | cont => exact False.elim (hs'.elim fun _ z => z.elim fun _ z => z.2)
end
section
variable {X : Cx} {k : Nat} {x : Str} {ps : List Str} {sp : Sp} {p pos : Pos} {e : Expr} {es : List Expr} {t : TA}
theorem pe_gG (F : OkG X.prog X.w X.K X.mg X.base k x ps sp) (hgd : X.A.guards = some []) (hr : Room k X.A) (ha : PA X (e :: es) t) (hg : Gl X x := by rfl) (hdb : (x == ("__debug__" : Str)) = false := by decide)
    (he : starEach (e :: es) X.env = (false, eval e X.env) :: starEach es X.env := by rfl) (hpl : (backTo pos (starEach es X.env)).any (·.1) = false := by rfl) : PE X (.Call (.Name x p) (e :: es) [] pos) (tCall sp [] E0 t) := by
  obtain ⟨len, ⟨fd, h1, h2, _⟩, gl, kp⟩ := F
  refine ⟨fun pins s σ H Q I h => ?_⟩
  refine wpAny_Call_Name_kw (ld_glob I hg gl ?_ hdb)
  refine PySem.W.callWith_K (h₀ := X.base) I.ok.mod.kin kp (thn (ha.run pos pins s σ H _ I h) fun us s1 ⟨vs, H1, I1, r, q⟩ => ⟨I1.kIn, ?_⟩) he hpl
  have q2 : sp vs H1 Q E0 := by
    have q3 : sp (vs ++ []) H1 Q E0 := q
    rw [List.append_nil] at q3; exact q3
  have hl : (us ++ []).length = ps.length := by rw [List.append_nil, ← r.length]; exact len _ _ _ _ q2
  have b := h2 s1 us I1.kIn hl
  rw [List.append_nil] at b
  refine wpAny_call (codeAny_mono (h1 X.A X.stack s1 H1 ⟨us, []⟩ us vs Q E0 hgd hr I1.env0 b r q2) fun res s' hq => ?_)
  cases res with
  | error e => exact False.elim hq
  | ok fl =>
    cases fl with
    | ret u => exact I1.after hq
    | next => exact False.elim hq
    | brk => exact False.elim hq
    | cont => exact False.elim hq
theorem guards_deeper {A : Around} (h : A.guards = some []) (env : Env) : (A.deeper env).guards = some [] := h
end
end K

set_option Elab.async false
set_option linter.all false
set_option maxRecDepth 100000
set_option maxHeartbeats 4000000
/-! KM: match over a list of texts: sequences of captures and written texts, and the case that takes all. -/
namespace K
open PySem PySem.Spec PyProof.Rows L2 He
/-- a place of a sequence pattern: a name (its slot), a written text -/
inductive Pk where
  | cap (i : Nat)
  | lit (z : Str)
def pkEach : List Pk → List V → Option (List (Nat × V))
  | [], _ => some []
  | .cap i :: ps, v :: vs => (pkEach ps vs).map fun bs => (i, v) :: bs
  | .lit z :: ps, v :: vs => if v = .str z then pkEach ps vs else none
  | _ :: _, [] => none
def setAll (σ : L2.St) : List (Nat × V) → L2.St
  | [] => σ
  | p :: r => setAll (σ.set p.1 (some p.2)) r
inductive PkP (X : Cx) : Pattern → Pk → Prop
  | cap {i : Nat} {x : Str} {pos : Pos} (h : X.N[i]? = some x) (l : X.env.scope.names.lookup x = some .local) : PkP X (.MatchAs none (some x) pos) (.cap i)
  | lit {z : Str} {j : Nat} {cpos pos : Pos} : PkP X (.MatchValue (.Constant (.str z) j cpos) pos) (.lit z)
def BindR (X : Cx) (p : Nat × V) (q : Str × Value) : Prop := X.N[p.1]? = some q.1 ∧ X.env.scope.names.lookup q.1 = some .local ∧ RelV p.2 q.2
section
variable {X : Cx} {pins : List (Addr × Obj)} {E : Value → Shared → Prop}
theorem pk_one {p : Pattern} {k : Pk} (h : PkP X p k) : p.isStar = false := by cases h <;> rfl
/-- what the places of a pattern give over the values, told to a continuation -/
def EachOk (X : Cx) (pins : List (Addr × Obj)) (pats : List Pattern) (pks : List Pk) : Prop := ∀ (vs : List V) (us : List Value) (σ : L2.St) (H : Hp) (s : Shared) (Q : Option (List (Str × Value)) → Shared → Prop), Vals vs us → vs.length = pks.length → (∀ v ∈ vs, ∃ z, v = .str z) →
  Inv X pins σ H s → (∀ s', Inv X pins σ H s' → pkEach pks vs = none → Q none s') → (∀ s' bs bs', Inv X pins σ H s' → pkEach pks vs = some bs → Paired (BindR X) bs bs' → Q (some bs') s') → wpAny (model X.prog X.w) X.A (matchEach pats X.env us) Q X.xe s
theorem each_nil : EachOk X pins [] [] := by
  intro vs us σ H s Q r hl _ I h0 h1
  cases vs with
  | cons v vs => cases hl
  | nil =>
    cases r
    exact wpAny_matchEach_nil (h1 s [] [] I rfl .nil)
theorem each_cap {i : Nat} {x : Str} {pos : Pos} {pats : List Pattern} {pks : List Pk} (hi : X.N[i]? = some x) (hloc : X.env.scope.names.lookup x = some .local) (ih : EachOk X pins pats pks) : EachOk X pins (.MatchAs none (some x) pos :: pats) (.cap i :: pks) := by
  intro vs us σ H s Q r hl hv I h0 h1
  cases vs with
  | nil => cases hl
  | cons v vs =>
    cases r with
    | cons r1 r2 =>
    rename_i u us
    refine wpAny_matchEach_cons (wpAny_matchPattern_Capture ?_) rfl
    refine ih vs us σ H s _ r2 (by simpa using hl) (fun z hz => hv z (List.mem_cons_of_mem _ hz)) I (fun s' I' e => ?_) (fun s' bs bs' I' e hb => ?_)
    · exact h0 s' I' (by show (pkEach pks vs).map _ = none; rw [e]; rfl)
    · exact h1 s' ((i, v) :: bs) ((x, u) :: bs') I' (by show (pkEach pks vs).map _ = _; rw [e]; rfl) (.cons ⟨hi, hloc, r1⟩ hb)
theorem each_lit {z : Str} {j : Nat} {cpos pos : Pos} {pats : List Pattern} {pks : List Pk} (ih : EachOk X pins pats pks) : EachOk X pins (.MatchValue (.Constant (.str z) j cpos) pos :: pats) (.lit z :: pks) := by
  intro vs us σ H s Q r hl hv I h0 h1
  cases vs with
  | nil => cases hl
  | cons v vs =>
    cases r with
    | cons r1 r2 =>
    rename_i u us
    obtain ⟨y, ey⟩ := hv v List.mem_cons_self
    subst ey
    refine wpAny_matchEach_cons (wpAny_matchPattern_Value ?_) rfl
    refine thn (pe_str.run pins s σ H (fun w H1 => w = .str z ∧ H1 = H) I ⟨rfl, rfl⟩) fun u2 s2 ⟨w2, H2, I2, ru, e1, e2⟩ => ?_
    subst e1 e2
    refine thn (op_eq pins s2 σ H2 (.str y) (.str z) u u2 (fun w H1 => w = .bl (decide (V.str y = V.str z)) ∧ H1 = H2) I2 r1 ru ⟨rfl, rfl, rfl⟩) fun u3 s3 ⟨w3, H3, I3, r3, e3, e4⟩ => ?_
    subst e3 e4
    cases r3
    refine wpAny_truthy_bool ?_
    by_cases hz : V.str y = V.str z
    · rw [decide_eq_true hz]
      have ee : pkEach (.lit z :: pks) (.str y :: vs) = pkEach pks vs := if_pos hz
      refine (if_pos rfl).mpr ?_
      show wpAny _ _ (matchEach pats X.env us) _ _ _
      refine ih vs us σ H3 s3 _ r2 (by simpa using hl) (fun z hz => hv z (List.mem_cons_of_mem _ hz)) I3 (fun s' I' e => ?_) (fun s' bs bs' I' e hb => ?_)
      · exact h0 s' I' (ee.trans e)
      · exact h1 s' bs bs' I' (ee.trans e) hb
    · rw [decide_eq_false hz]
      refine (if_neg Bool.false_ne_true).mpr ?_
      exact h0 s3 I3 (if_neg hz)
theorem each_ok {pats : List Pattern} {pks : List Pk} (hp : Paired (PkP X) pats pks) : EachOk X pins pats pks := by
  induction hp with
  | nil => exact each_nil
  | cons h1 _ ih =>
    cases h1 with
    | cap hi hl => exact each_cap hi hl ih
    | lit => exact each_lit ih
theorem binds_ok (hN : X.N.Nodup) {bs : List (Nat × V)} {bs' : List (Str × Value)} (hb : Paired (BindR X) bs bs') : ∀ {σ : L2.St} {H : Hp} {s : Shared} {Q : Unit → Shared → Prop}, Inv X pins σ H s → (∀ s', Inv X pins (setAll σ bs) H s' → Q () s') →
    wpAny (model X.prog X.w) X.A (assignInOrder (bs'.map fun (n, _) => bindName X.env n) (bs'.map (·.2))) Q X.xe s := by
  induction hb with
  | nil =>
    intro σ H s Q I h
    exact wpAny_assignInOrder_none (h s I)
  | cons h1 _ ih =>
    intro σ H s Q I h
    obtain ⟨a, b, c⟩ := h1
    exact wpAny_assignInOrder_more (wpAny_bindName (store_ok I hN a (.inl b) c (fun s2 I2 => ih I2 h) (.inr b)))
/-- the cases of a match, over the subject's value -/
structure PM (X : Cx) (cases : List MatchCase) (t : V → TS) : Prop where
  run : ∀ (first : Bool) (pins : List (Addr × Obj)) (s : Shared) (σ : L2.St) (H : Hp) (v : V) (u : Value) (D : Ends), Inv X pins σ H s → RelV v u → t v D σ H → wpAny (model X.prog X.w) X.A (matchCases cases X.env u first) (SP X pins D) X.xe s
def tMSeq (K : PySem.W.Frag) (pks : List Pk) (t1 : TS) (rest : V → TS) : V → TS := fun v D σ H => ∃ a xs, v = .ref a ∧ SqL K H a xs ∧ (∀ x ∈ xs, ∃ z, x = .str z) ∧
  ((xs.length = pks.length ∧ ∃ bs, pkEach pks xs = some bs ∧ t1 D (setAll σ bs) H) ∨ (xs.length = pks.length ∧ pkEach pks xs = none ∧ rest v D σ H) ∨ (xs.length ≠ pks.length ∧ rest v D σ H))
theorem pm_nil : PM X [] (fun _ D σ H => D.nx σ H) := ⟨fun _ _ _ σ H _ _ _ I _ h => wpAny_matchCases_nil ⟨σ, H, I, h⟩⟩
theorem pm_any {body : List Stmt} {rest : List MatchCase} {pos : Pos} {t1 : TS} (hb : PSs X body t1) : PM X (⟨.MatchAs none none pos, none, body⟩ :: rest) (fun _ D σ H => t1 D σ H) := by
  refine ⟨fun first pins s σ H v u D I r h => ?_⟩
  refine wpAny_matchCases_cons (wpAny_matchPattern_Capture ?_)
  exact wpAny_assignInOrder_none (hb.run pins s σ H D I h)
theorem pm_seq {pats : List Pattern} {pks : List Pk} {body : List Stmt} {rest : List MatchCase} {pos : Pos} {t1 : TS} {tr : V → TS} (hc : X.calm = true) (hN : X.N.Nodup) (hp : Paired (PkP X) pats pks) (hb : PSs X body t1) (hr : PM X rest tr)
    (hstar : pats.findIdx? (·.isStar) = none := by rfl) (hwild : (pats.all fun p => p.isWildcard || (p.isStar && p.names.isEmpty)) = false := by rfl) : PM X (⟨.MatchSequence pats pos, none, body⟩ :: rest) (tMSeq X.K pks t1 tr) := by
  refine ⟨fun first pins s σ H v u D I r h => ?_⟩
  obtain ⟨a, xs, rfl, hs, hstr, h⟩ := h
  cases r
  obtain ⟨its, rv, pl, hz⟩ := I.list hs
  have hl : s.heap.IsList a its.toArray := by
    obtain ⟨o, m, e, c, d, q⟩ := pl
    exact ⟨o, e, c, m, q⟩
  have hfit : ((its.toArray.size : Nat) : Int) < 2 ^ 63 := by
    rw [List.size_toArray, ← rv.length]
    have := line63
    omega
  have lenP : pats.length = pks.length := hp.length
  refine wpAny_matchCases_cons ?_
  by_cases hn : xs.length = pks.length
  · refine matchSeq_list_hit hl hfit (by rw [List.size_toArray, ← rv.length, hn, lenP]) ?_ hstar hwild
    have I1 := I.tok (s.toks + 1 + 1)
    have e : pats.length = its.toArray.size := by rw [List.size_toArray, ← rv.length, hn, lenP]
    rw [e]
    refine PySem.W.kun_itemsOf (I.ok.hd hc) hl fun h' hx => ?_
    have I2 : Inv X pins σ H { s with heap := h', toks := s.toks + 1 + 1 } := I.kept (t' := s.toks + 1 + 1) fun b o e => hx b o (Nat.ne_of_lt (Heap.lt_size e)) e
    refine each_ok hp xs its.toArray.toList σ H _ _ (by simpa using rv) hn hstr I2 (fun s' I' e => ?_) (fun s' bs bs' I' e hb' => ?_)
    · rcases h with ⟨_, bs, e1, q⟩ | ⟨_, e1, q⟩ | ⟨z, _⟩
      · rw [e1] at e; cases e
      · exact hr.run false pins s' σ H (.ref a) _ D I' rfl q
      · exact absurd hn z
    · rcases h with ⟨_, bs2, e1, q⟩ | ⟨_, e1, q⟩ | ⟨z, _⟩
      · rw [e1] at e
        cases e
        show wpAny _ _ (assignInOrder _ _) _ _ _
        exact binds_ok hN hb' I' fun s2 I2 => hb.run pins s2 _ H D I2 q
      · rw [e1] at e; cases e
      · exact absurd hn z
  · refine matchSeq_list_miss hl hfit (by rw [List.size_toArray, ← rv.length, lenP]; exact hn) ?_ hstar hwild
    rcases h with ⟨z, _⟩ | ⟨z, _⟩ | ⟨_, q⟩
    · exact absurd z hn
    · exact absurd z hn
    · exact hr.run false pins _ σ H (.ref a) _ D (I.tok _) rfl q
theorem ps_match {e : Expr} {cases : List MatchCase} {pos : Pos} {te : TE} {t : V → TS} (he : PE X e te) (hm : PM X cases t) : PS X (.Match e cases pos) (fun D σ H => te σ H fun v H1 => t v D σ H1) := by
  refine ⟨fun pins s σ H D I h => ?_⟩
  exact wpAny_Match (thn (he.run pins s σ H _ I h) fun u s1 ⟨v, H1, I1, r, q⟩ => hm.run true pins s1 σ H1 v u D I1 r q)
end
end K

set_option Elab.async false
set_option linter.all false
set_option maxRecDepth 100000
set_option maxHeartbeats 4000000
/-! KS: C(*e), the class held by a local name. -/
namespace K
open PySem PySem.Spec PyProof.Rows L2 He
section
variable {X : Cx} {CX : CXT} {k i : Nat} {f C : Addr} {sp : Sp} {E : XK} {x : Str} {e : Expr} {te : TE} {p q pos : Pos}
def tMakeS (K : PySem.W.Frag) (C : Addr) (i : Nat) (sp : Sp) (E : XK) (te : TE) : TE := fun σ H Q => σ[i]? = some (some (.ref C)) ∧ te σ H fun y H1 => ∃ a xs, y = .ref a ∧ (SqT K H1 a xs ∨ SqL K H1 a xs) ∧
  ∀ z dx, H1 z = none → H1 dx = none → dx ≠ z → sp (.ref z :: xs) (upd (upd H1 dx (.own z)) z (.ins C dx [])) (fun v H2 => v = .non ∧ Q (.ref z) H2) E
theorem pe_makeS (M : Mk X.K C f) (F : FnR X.prog X.w X.K X.mg X.base CX k f sp) (hr : Room (k + 1) X.A) (hN : X.N[i]? = some x) (hv : Vis X.env.scope x) (hx : Passes CX X E) (he : PE X e te)
    (hd : (x == ("__debug__" : Str)) = false := by decide) (hcd : (x == ("__classdict__" : Str)) = false := by decide) : PE X (.Call (.Name x p) [.Starred e q] [] pos) (tMakeS X.K C i sp E te) := by
  refine ⟨fun pins s σ H Q I h => ?_⟩
  obtain ⟨h0, ht⟩ := h
  refine wpAny_Call_Name_kw (thn ((pe_var (pos := p) hN hv hd hcd).run pins s σ H (fun v H1 => v = .ref C ∧ H1 = H) I ⟨.ref C, h0, rfl, rfl⟩) fun u s1 ⟨v, H1, I1, r1, e1, e2⟩ => ?_)
  subst e1 e2
  cases r1
  refine PySem.W.callWith_S (h₀ := X.base) I1.ok.mod.kin M.kp (thn (he.run pins s1 σ _ _ I1 ht) fun v s2 ⟨y, H2, I2, ry, a, xs, ey, hxs, q2⟩ => ?_) (by rfl)
  subst ey
  cases ry
  exact StX.star_any I2 hxs fun us s3 I3 rv => ⟨I3.kIn, StX.run_makeR M F hr hx I3 rv q2⟩
end
end K

set_option Elab.async false
set_option linter.all false
set_option maxRecDepth 100000
set_option maxHeartbeats 4000000
/-! KF1: callflows.names. -/
namespace K
open PySem PySem.Spec PyProof.Rows L2 He TL
section
variable {P : Program} {w : World} {K : PySem.W.Frag} {mg : Str → Option Value} {base : Heap}
theorem tyx_tup {H : Hp} {a : Addr} {xs : List V} (h : SqT K H a xs) : TyX K H (.ref a) (.type "tuple") := by
  rcases h with (h | ⟨o, h⟩) | h
  · exact .base (.tup h)
  · exact .fTuple h
  · obtain ⟨o, its, n, e, c, _⟩ := h
    exact .kTuple e c
def spIsName : Sp := fun vs H Q _ => ∃ x : Str, vs = [.str x] ∧ x.length ≤ sizeLine ∧ ∀ H', Same H H' → Q (.bl (isName x)) H'
theorem ok_is_name (T : Tx K mg w) : Ok1 P w K mg base 1 "is_name" ["value"] spIsName := by
  obtain ⟨tL, eL⟩ := T.s_LETTERS
  obtain ⟨tD, eD⟩ := T.s_DIGITS
  obtain ⟨tM, eM⟩ := T.i_MOST_DIGITS
  refine T.d_is_name.mk sc_is_name bn_is_name (fun vs H Q E h => ?_) (fun cdv A outer s H vs Q E hr h => ?_)
  · obtain ⟨x, rfl, _⟩ := h
    rfl
  · obtain ⟨x, rfl, hx, q⟩ := h
    refine ⟨_, pss_cons (ps_if (PW.pt (pw_or (pt_not (pt_val (pe_callB call_isi (by rfl) T.z_isinstance bt_isinstance (pa_cons (pv 0) (pa_cons (pe_bltn (v := .ty "str") (by rfl) T.z_str bt_str rfl) pa_nil)))))
        (pw_or (pt_not (pt_chain op_lt op_le pe_int (pe_callB call_len (by rfl) T.z_len bt_len (pa_cons (pv 0) pa_nil)) (pe_op op_add pe_int (pe_glob (v := .int 3) (by rfl) eM ⟨_, rfl⟩))))
        (pw_or1 (pt_cmpR op_notIn_sign (pe_ix ix_str (pv 0) pe_int (fun _ _ => rfl)) (pe_glob (v := .str "abcdefghijklmnopqrstuvwyz") (by rfl) eL ⟨_, rfl⟩) rfl)))))
        (pss_one (ps_ret pe_bl)) pss_nil)
      (pss_one (ps_ret (pe_callB (cr_all rfl) (by rfl) T.z_all bt_all (pa_cons
        (pe_lc (own := [("sign", 1)]) (g := gName 1) (tt := tYes) rfl sc_is_name.nd (pi_str (pe_slice sl_str (pv 0) (po_some pe_int) po_none)) (blkOk_by (N := ["value", "sign"]) (sc := defScope s_is_name) (by decide +kernel))
          (fun _ _ _ _ _ => pg_name (i := 1) sc_is_name.nd rfl (Or.inl rfl)) (fun _ _ _ _ _ => pts_nil)
          (fun _ _ _ _ _ => pe_cmpR op_in_sign (pv 1) (pe_glob (v := .str "0123456789") (by rfl) eD ⟨_, rfl⟩) rfl)) pa_nil)))), ?_⟩
    refine ⟨.str x, rfl, .str x, .ty "str", .type "str", .type "str", true, rfl, .ty _, .base (.str x), kit_ty (by decide +kernel), true, rfl, ?_⟩
    refine iteF ⟨.str x, rfl, .str x, x.length, rfl, ⟨hx, rfl⟩, 0, (x.length : Int), rfl, rfl, ?_⟩
    have hl : x.length = (tl x).length := len_tl x
    refine ⟨_, rfl, ?_⟩
    cases hx0 : tl x with
    | nil =>
      have e : decide ((0 : Int) < (x.length : Int)) = false := by
        rw [hl, hx0]; rfl
      rw [e]
      refine iteF ⟨_, rfl, ?_⟩
      refine iteT ?_
      refine iteT ?_
      have e2 : isName x = false := by unfold isName; rw [hx0]; rfl
      have := q H (Same.refl H)
      rw [e2] at this
      exact this
    | cons c ds =>
      have e : decide ((0 : Int) < (x.length : Int)) = true := by
        rw [hl, hx0]; simp
      rw [e]
      refine iteT ⟨1, 3, rfl, rfl, (x.length : Int), 4, rfl, rfl, _, rfl, ?_⟩
      have eL : (x.length : Int) = ds.length + 1 := by rw [hl, hx0]; simp
      by_cases h3 : ds.length ≤ 3
      · rw [show decide ((x.length : Int) ≤ 4) = true from decide_eq_true (by omega)]
        refine iteF ?_
        refine ⟨.str x, rfl, x, 0, c, rfl, rfl, hx, ?_, c, _, rfl, rfl, _, rfl, ?_⟩
        · exact atI_nat (j := 0) (by show (tl x)[0]? = some c; rw [hx0]; rfl)
        · by_cases hc : c ∈ lettersL
          · rw [show decide (c ∈ (Str.ofString "abcdefghijklmnopqrstuvwyz").cps.toList) = true from decide_eq_true hc]
            refine iteF ?_
            refine ⟨.str x, rfl, 1, rfl, x, rfl, hx, cutS x (some 1) none, rfl, fun D nD => ?_⟩
            have ecut : tl (cutS x (some 1) none) = ds := by
              have h1 : HT.sIx x.length 0 (some 1) = 1 := by
                rw [show ((1 : Int)) = ((1 : Nat) : Int) from rfl, HT.sIx_nat]; omega
              show ((tl x).drop (HT.sIx x.length 0 (some 1))).take (HT.sIx x.length x.length none - HT.sIx x.length 0 (some 1)) = ds
              rw [h1, HT.sIx_none, hx0]
              show ds.take (x.length - 1) = ds
              exact List.take_of_length_le (by omega)
            have esz : (cutS x (some 1) none).cps.size = ds.length := by
              have := congrArg List.length ecut
              rw [← this]; simp
            refine lc_pure (walk_str (z := cutS x (some 1) none)) (ds.map fun d => V.bl (decide (d ∈ digitsL))) (by rw [List.length_map, esz]) (by rw [esz]; exact small1000 (by omega)) nD (fun _ _ => trivial) (fun i v H1 H2 R N hi sm hy hR => ?_) (fun H1 sm e1 => ?_)
            · obtain ⟨rfl, d, hd, rfl⟩ := hy
              refine ⟨rfl, ?_⟩
              refine yes_if ?_
              refine ⟨_, rfl, d, Str.ofString "0123456789", rfl, rfl, hR _ _ ?_ (Same.refl _)⟩
              have hd2 : ds[i]? = some d := by
                rw [← ecut]
                show (cutS x (some 1) none).cps.toList[i]? = some d
                rw [Array.getElem?_toList]; exact hd
              rw [List.getElem?_map, hd2]; rfl
            · refine ⟨D, ds.map (fun d => decide (d ∈ digitsL)), rfl, SqL.of ?_, ?_⟩
              · rw [e1, List.map_map]; rfl
              · have := q H1 sm
                rw [show isName x = (ds.map (fun d => decide (d ∈ digitsL))).all id by
                  unfold isName
                  rw [hx0]
                  show (decide (ds.length ≤ 3) && (decide (c ∈ lettersL) && _)) = _
                  rw [decide_eq_true h3, decide_eq_true hc, List.all_map]
                  rfl] at this
                exact this
          · rw [show decide (c ∈ (Str.ofString "abcdefghijklmnopqrstuvwyz").cps.toList) = false from decide_eq_false hc]
            refine iteT ?_
            have e2 : isName x = false := by
              unfold isName; rw [hx0]; show (decide (ds.length ≤ 3) && (decide (c ∈ lettersL) && _)) = false; rw [decide_eq_false hc]; simp
            have := q H (Same.refl H)
            rw [e2] at this
            exact this
      · rw [show decide ((x.length : Int) ≤ 4) = false from decide_eq_false (by omega)]
        refine iteT ?_
        refine iteT ?_
        have e2 : isName x = false := by
          unfold isName; rw [hx0]; show (decide (ds.length ≤ 3) && _) = false; rw [decide_eq_false h3]; rfl
        have := q H (Same.refl H)
        rw [e2] at this
        exact this
/-- texts of no great length -/
def small (xs : List Str) : Prop := ∀ x ∈ xs, x.length ≤ 1000
theorem small_line {n : Nat} (h : n ≤ 1000) : n ≤ sizeLine := Nat.le_of_lt (small1000 h)
def spAreNames (K : PySem.W.Frag) : Sp := fun vs H Q _ => ∃ (a : Addr) (xs : List Str) (lo hi : Nat), vs = [.ref a, .int lo, .int hi] ∧ SqT K H a (xs.map V.str) ∧ small xs ∧ xs.length ≤ 1000 ∧ ∀ H', Same H H' → Q (.bl (areNames xs lo hi)) H'
theorem ok_are_names (T : Tx K mg w) : Ok1 P w K mg base 2 "are_names" ["value", "least", "most"] (spAreNames K) := by
  refine T.d_are_names.mk sc_are_names bn_are_names (fun vs H Q E h => ?_) (fun cdv A outer s H vs Q E hr h => ?_)
  · obtain ⟨a, xs, lo, hi, rfl, _⟩ := h
    rfl
  · obtain ⟨a, xs, lo, hi, rfl, hS, hz, hn, q⟩ := h
    refine ⟨_, pss_cons (ps_if (PW.pt (pw_or (pt_not (pt_val (pe_callB call_isi (by rfl) T.z_isinstance bt_isinstance (pa_cons (pv 0) (pa_cons (pe_bltn (v := .ty "tuple") (by rfl) T.z_tuple bt_tuple rfl) pa_nil)))))
        (pw_or1 (pt_not (pt_chain op_le op_le (pv 1) (pe_callB call_len (by rfl) T.z_len bt_len (pa_cons (pv 0) pa_nil)) (pv 2))))))
        (pss_one (ps_ret pe_bl)) pss_nil)
      (pss_one (ps_ret (pe_callB (cr_all rfl) (by rfl) T.z_all bt_all (pa_cons
        (pe_lc (own := [("name", 3)]) (g := gName 3) (tt := tYes) rfl sc_are_names.nd (pi_tup (pv 0)) (blkOk_by (N := ["value", "least", "most", "name"]) (sc := defScope s_are_names) (by decide +kernel))
          (fun _ _ _ _ _ => pg_name (i := 3) sc_are_names.nd rfl (Or.inl rfl)) (fun _ _ _ _ _ => pts_nil)
          (fun _ _ _ _ _ => pe_g (ok_is_name T) hr (pa_cons (pv 3) pa_nil))) pa_nil)))), ?_⟩
    refine ⟨.ref a, rfl, .ref a, .ty "tuple", .type "tuple", .type "tuple", true, rfl, .ty _, tyx_tup hS, kit_ty (by decide +kernel), true, rfl, ?_⟩
    refine iteF ⟨.int lo, rfl, .ref a, rfl, .ref a, xs.length, rfl, .inr ⟨_, hS, by rw [List.length_map]⟩, (lo : Int), (xs.length : Int), rfl, rfl, _, rfl, ?_⟩
    by_cases h1 : lo ≤ xs.length
    · rw [show decide ((lo : Int) ≤ (xs.length : Int)) = true from decide_eq_true (by omega)]
      refine iteT ⟨.int hi, rfl, (xs.length : Int), (hi : Int), rfl, rfl, _, rfl, ?_⟩
      by_cases h2 : xs.length ≤ hi
      · rw [show decide ((xs.length : Int) ≤ (hi : Int)) = true from decide_eq_true (by omega)]
        refine iteF ?_
        refine ⟨.ref a, rfl, a, rfl, ⟨_, hS⟩, fun D nD => ?_⟩
        refine lc_pure (walk_tup (xs := xs.map V.str)) (xs.map fun x => V.bl (isName x)) (by simp) (by rw [List.length_map]; exact small1000 hn) nD (fun H1 sm => same_seqT sm hS) (fun i v H1 H2 R N hi2 sm hy hR => ?_) (fun H1 sm e1 => ?_)
        · obtain ⟨rfl, hv⟩ := hy
          rw [List.getElem?_map] at hv
          cases hx : xs[i]? with
          | none => rw [hx] at hv; cases hv
          | some x =>
            rw [hx] at hv
            cases hv
            refine ⟨rfl, ?_⟩
            refine yes_if ?_
            refine ⟨_, rfl, x, rfl, small_line (hz x (List.mem_of_getElem? hx)), fun H3 sm3 => hR _ _ ?_ sm3⟩
            rw [List.getElem?_map, hx]; rfl
        · refine ⟨D, xs.map isName, rfl, SqL.of ?_, ?_⟩
          · rw [e1, List.map_map]; rfl
          · have := q H1 sm
            rw [show areNames xs lo hi = (xs.map isName).all id by
              unfold areNames
              rw [decide_eq_true h1, decide_eq_true h2, List.all_map]
              rfl] at this
            exact this
      · rw [show decide ((xs.length : Int) ≤ (hi : Int)) = false from decide_eq_false (by omega)]
        refine iteT ?_
        have := q H (Same.refl H)
        rw [show areNames xs lo hi = false by unfold areNames; rw [decide_eq_false h2]; simp] at this
        exact this
    · rw [show decide ((lo : Int) ≤ (xs.length : Int)) = false from decide_eq_false (by omega)]
      refine iteF ⟨_, rfl, ?_⟩
      refine iteT ?_
      have := q H (Same.refl H)
      rw [show areNames xs lo hi = false by unfold areNames; rw [decide_eq_false h1]; rfl] at this
      exact this
def spNames3 (K : PySem.W.Frag) (lo hi : Nat) : Sp := fun vs H Q _ => ∃ (a : Addr) (xs : List Str), vs = [.ref a] ∧ SqT K H a (xs.map V.str) ∧ small xs ∧ xs.length ≤ 1000 ∧ ∀ H', Same H H' → Q (.bl (areNames xs lo hi)) H'
theorem ok_is_word (T : Tx K mg w) : Ok1 P w K mg base 3 "is_word" ["value"] (spNames3 K 0 3) := by
  obtain ⟨t, eM⟩ := T.i_MOST_NAMES
  refine T.d_is_word.mk sc_is_word bn_is_word (fun vs H Q E h => ?_) (fun cdv A outer s H vs Q E hr h => ?_)
  · obtain ⟨a, xs, rfl, _⟩ := h
    rfl
  · obtain ⟨a, xs, rfl, hS, hz, hn, q⟩ := h
    refine ⟨_, pss_one (ps_ret (pe_g (ok_are_names T) hr (pa_cons (pv 0) (pa_cons pe_int (pa_cons (pe_glob (v := .int 3) (by rfl) eM ⟨_, rfl⟩) pa_nil))))), ?_⟩
    exact ⟨_, rfl, a, xs, 0, 3, rfl, hS, hz, hn, q⟩
theorem ok_is_test (T : Tx K mg w) : Ok1 P w K mg base 3 "is_test" ["value"] (spNames3 K 1 4) := by
  obtain ⟨t, eM⟩ := T.i_MOST_NAMES
  refine T.d_is_test.mk sc_is_test bn_is_test (fun vs H Q E h => ?_) (fun cdv A outer s H vs Q E hr h => ?_)
  · obtain ⟨a, xs, rfl, _⟩ := h
    rfl
  · obtain ⟨a, xs, rfl, hS, hz, hn, q⟩ := h
    refine ⟨_, pss_one (ps_ret (pe_g (ok_are_names T) hr (pa_cons (pv 0) (pa_cons pe_int (pa_cons (pe_op op_add pe_int (pe_glob (v := .int 3) (by rfl) eM ⟨_, rfl⟩)) pa_nil))))), ?_⟩
    exact ⟨_, rfl, _, _, rfl, rfl, a, xs, 1, 4, rfl, hS, hz, hn, q⟩
/-- an int is an int -/
def spIsInteger : Sp := fun vs H Q _ => ∃ i : Int, vs = [.int i] ∧ Q (.bl true) H
theorem ok_is_integer (T : Tx K mg w) : Ok1 P w K mg base 1 "is_integer" ["value"] spIsInteger := by
  refine T.d_is_integer.mk sc_is_integer bn_is_integer (fun vs H Q E h => ?_) (fun cdv A outer s H vs Q E hr h => ?_)
  · obtain ⟨i, rfl, _⟩ := h
    rfl
  · obtain ⟨i, rfl, q⟩ := h
    refine ⟨_, pss_one (ps_ret (pe_and (pe_callB call_isi (by rfl) T.z_isinstance bt_isinstance (pa_cons (pv 0) (pa_cons (pe_bltn (v := .ty "int") (by rfl) T.z_int bt_int rfl) pa_nil)))
      (pe_one (pe_not (pe_callB call_isi (by rfl) T.z_isinstance bt_isinstance (pa_cons (pv 0) (pa_cons (pe_bltn (v := .ty "bool") (by rfl) T.z_bool bt_bool rfl) pa_nil))))))), ?_⟩
    refine ⟨.int i, rfl, .int i, .ty "int", .type "int", .type "int", true, rfl, .ty _, .base (.int i), kit_ty (by decide +kernel), true, rfl, ?_⟩
    refine iteT ⟨.int i, rfl, .int i, .ty "bool", .type "int", .type "bool", false, rfl, .ty _, .base (.int i), kit_ty (by decide +kernel), false, rfl, ?_⟩
    exact q
end
end K

set_option Elab.async false
set_option linter.all false
set_option maxRecDepth 100000
set_option maxHeartbeats 4000000
/-! KF2: names_in; callflows.stages. -/
namespace K
open PySem PySem.Spec PyProof.Rows L2 He TL
/-- valid names, as lists of signs -/
def NamesL (ns : List (List Nat)) : Prop := ∀ n ∈ ns, isNameL n = true
theorem isNameL_len {n : List Nat} (h : isNameL n = true) : n.length ≤ 4 ∧ n ≠ [] := by
  cases n with
  | nil => cases h
  | cons c ds =>
    unfold isNameL at h
    simp only [Bool.and_eq_true, decide_eq_true_eq] at h
    exact ⟨by rw [List.length_cons]; omega, by simp⟩
theorem isNameL_signs {n : List Nat} (h : isNameL n = true) : ∀ c ∈ n, c ∈ lettersL ∨ c ∈ digitsL := by
  cases n with
  | nil => cases h
  | cons c ds =>
    unfold isNameL at h
    simp only [Bool.and_eq_true, decide_eq_true_eq, List.all_eq_true] at h
    intro d hd
    rcases List.mem_cons.mp hd with e | hd
    · rw [e]; exact .inl h.2.1
    · exact .inr (h.2.2 d hd)
theorem lettersL_eq : lettersL = [97, 98, 99, 100, 101, 102, 103, 104, 105, 106, 107, 108, 109, 110, 111, 112, 113, 114, 115, 116, 117, 118, 119, 121, 122] := by decide +kernel
theorem digitsL_eq : digitsL = [48, 49, 50, 51, 52, 53, 54, 55, 56, 57] := by decide +kernel
/-- a sign of a name is a letter (no x) or a digit -/
theorem name_sign {n : List Nat} (h : isNameL n = true) {c : Nat} (hc : c ∈ n) : (97 ≤ c ∧ c ≤ 122 ∧ c ≠ 120) ∨ (48 ≤ c ∧ c ≤ 57) := by
  rcases isNameL_signs h c hc with z | z
  · rw [lettersL_eq] at z
    simp only [List.mem_cons, List.not_mem_nil, or_false] at z
    omega
  · rw [digitsL_eq] at z
    simp only [List.mem_cons, List.not_mem_nil, or_false] at z
    omega
theorem name_free {n : List Nat} (h : isNameL n = true) {c : Nat} (hc : c < 48 ∨ (57 < c ∧ c < 97) ∨ 122 < c ∨ c = 120) : c ∉ n := fun z => by
  rcases name_sign h z with q | q <;> omega
theorem opens_len : ∀ {ns : List (List Nat)}, NamesL ns → (opens ns).length ≤ 5 * ns.length
  | [], _ => by simp [opens]
  | n :: ns, h => by
    have ih := opens_len (ns := ns) fun m hm => h m (List.mem_cons_of_mem _ hm)
    have := (isNameL_len (h n List.mem_cons_self)).1
    have e : opens (n :: ns) = n ++ 40 :: opens ns := by simp [opens]
    rw [e, List.length_append, List.length_cons, List.length_cons]
    omega
theorem appl_len {ns : List (List Nat)} (h : NamesL ns) (x : List Nat) : (appl ns x).length ≤ 6 * ns.length + x.length := by
  have := opens_len h
  rw [appl_eq]
  simp only [List.length_append, List.length_replicate]
  omega
theorem strs_mk (ns : List (List Nat)) : (ns.map fun n => V.str (mk n)) = (ns.map mk).map V.str := by rw [List.map_map]; rfl
theorem areNames_mk {ns : List (List Nat)} {lo hi : Nat} (h : NamesL ns) (h1 : lo ≤ ns.length) (h2 : ns.length ≤ hi) : areNames (ns.map mk) lo hi = true := by
  unfold areNames
  rw [List.length_map, decide_eq_true h1, decide_eq_true h2, List.all_map]
  simp only [Bool.true_and, List.all_eq_true]
  exact fun n hn => h n hn
theorem small_mk {ns : List (List Nat)} (h : NamesL ns) : small (ns.map mk) := fun x hx => by
  obtain ⟨n, hn, rfl⟩ := List.mem_map.mp hx
  rw [len_mk]
  have := (isNameL_len (h n hn)).1
  omega
theorem split_appl {ns : List (List Nat)} {rest : List Nat} (h : NamesL ns) (hr : 40 ∉ rest) : Txt.split (mk (opens ns ++ rest)) "(" = ns.map mk ++ [mk rest] := by
  refine map_tl_inj ?_
  have e : tl ("(" : Str) = [40] := by decide +kernel
  rw [split_spl _ _ (by rw [e]; simp) (kind_ok (by decide +kernel)), e, tl_mk', spl_opens ns rest (fun n hn => name_free (h n hn) (by omega)) hr, List.map_append, List.map_map]
  simp [Function.comp_def, tl_mk']
section
variable {P : Program} {w : World} {K : PySem.W.Frag} {mg : Str → Option Value} {base : Heap}
def spNamesIn (K : PySem.W.Frag) : Sp := fun vs H Q _ => ∃ ns : List (List Nat), vs = [.str (mk (appl ns [120]))] ∧ NamesL ns ∧ ns.length ≤ 4 ∧ ∀ H' a, Same H H' → SqT K H' a (ns.map fun n => V.str (mk n)) → Q (.ref a) H'
theorem ok_names_in (T : Tx K mg w) : Ok1 P w K mg base 3 "names_in" ["text"] (spNamesIn K) := by
  obtain ⟨t, eM⟩ := T.i_MOST_NAMES
  refine T.d_names_in.mk sc_names_in bn_names_in (fun vs H Q E h => ?_) (fun cdv A outer s H vs Q E hr h => ?_)
  · obtain ⟨ns, rfl, _⟩ := h
    rfl
  · obtain ⟨ns, rfl, hn, h4, q⟩ := h
    refine ⟨_, pss_cons (ps_set (i := 1) sc_names_in.nd rfl (.inl rfl) (pe_split (pv 0) pe_str))
      (pss_cons (ps_set (i := 2) sc_names_in.nd rfl (.inl rfl) (pe_op op_sub (pe_callB call_len (by rfl) T.z_len bt_len (pa_cons (pv 1) pa_nil)) pe_int))
      (pss_cons (ps_set (i := 3) sc_names_in.nd rfl (.inl rfl) (pe_callTy call_tuple_of (by rfl) T.z_tuple bt_tuple (pa_cons (pe_slice sl_list (pv 1) po_none (po_some (pv 2))) pa_nil)))
      (pss_cons (ps_if (PW.pt (pw_or (pt_cmpR op_ne (pe_ix ix_list (pv 1) (pv 2) (fun _ _ => rfl)) (pe_op op_add_str pe_str (pe_op op_repS pe_str (pv 2))) (nomark _))
          (pw_or1 (pt_not (pt_val (pe_g (ok_are_names T) hr (pa_cons (pv 3) (pa_cons pe_int (pa_cons (pe_op op_add pe_int (pe_glob (v := .int 3) (by rfl) eM ⟨_, rfl⟩)) pa_nil)))))))))
          (pss_one (ps_ret pe_non)) pss_nil)
      (pss_one (ps_ret (pv 3)))))), ?_⟩
    have ln := appl_len hn [120]
    refine ⟨.str _, rfl, ⟨_, rfl⟩, _, _, rfl, rfl, by decide +kernel, ?_, fun p np => ?_⟩
    · have : (mk (appl ns [120])).length ≤ 25 := by rw [len_mk]; simp at ln; omega
      exact Nat.le_trans (Nat.add_le_add_right this 2) (by decide)
    have esp : Txt.split (mk (appl ns [120])) "(" = ns.map mk ++ [mk (120 :: List.replicate ns.length 41)] := by
      rw [appl_eq, split_appl hn (by simp [List.mem_replicate])]
      rfl
    rw [esp]
    generalize hL : (ns.map mk ++ [mk (120 :: List.replicate ns.length 41)]).map V.str = L
    have lL : L.length = ns.length + 1 := by rw [← hL]; simp
    refine ⟨.ref p, rfl, .ref p, L.length, rfl, .inl ⟨L, SqL.of upd_same, rfl⟩, (L.length : Int), 1, rfl, rfl, ?_⟩
    have eI : ((L.length : Int) - 1) = ((ns.length : Nat) : Int) := by rw [lL]; omega
    refine ⟨.ref p, rfl, .int ((L.length : Int) - 1), rfl, (L.length : Int) - 1, rfl, p, L, rfl, SqL.of upd_same, fun p2 np2 => ?_⟩
    have ecut : cutV L none (some ((L.length : Int) - 1)) = ns.map fun n => V.str (mk n) := by
      unfold cutV
      rw [eI, HT.sIx_nat, HT.sIx_none, lL, ← hL, Nat.min_eq_left (by omega)]
      show ((List.map V.str (ns.map mk ++ _)).drop 0).take (ns.length - 0) = _
      rw [List.drop_zero, Nat.sub_zero, List.map_append, List.take_append_of_le_length (by simp), List.take_of_length_le (by simp), List.map_map]
      rfl
    rw [ecut]
    refine ⟨p2, _, rfl, .inl ⟨SqL.of upd_same, fun p3 np3 => ?_⟩⟩
    have n12 : p ≠ p2 := fun z => by rw [z, upd_same] at np2; cases np2
    have n13 : p ≠ p3 := fun z => by rw [← z, upd_ne n12, upd_same] at np3; cases np3
    have sm : Same H (upd (upd (upd H p (.lst L)) p2 (.lst (ns.map fun n => V.str (mk n)))) p3 (.tup (ns.map fun n => V.str (mk n)))) :=
      ((same_new np).trans (same_new np2)).trans (same_new np3)
    have hLp : (upd (upd (upd H p (.lst L)) p2 (.lst (ns.map fun n => V.str (mk n)))) p3 (.tup (ns.map fun n => V.str (mk n)))) p = some (.lst L) := by
      rw [upd_ne n13, upd_ne n12, upd_same]
    refine ⟨.ref p, rfl, .int ((L.length : Int) - 1), rfl, p, L, _, .str (mk (120 :: List.replicate ns.length 41)), rfl, rfl, SqL.of hLp, at_of (j := ns.length) eI ?_, ?_⟩
    · rw [← hL, List.map_append, List.getElem?_append_right (by simp)]
      simp
    refine ⟨.int ((L.length : Int) - 1), rfl, 41, ns.length, rfl, by rw [eI], by omega, ?_⟩
    refine ⟨_, _, rfl, rfl, ?_, ?_⟩
    · show (Str.ofString "x").length + (repS 41 ns.length).length ≤ sizeLine
      have : (repS 41 ns.length).length = ns.length := by unfold repS; rw [len_tl]; simp
      rw [this]
      have : (Str.ofString "x").length = 1 := by decide +kernel
      rw [this]
      exact Nat.le_trans (show 1 + ns.length ≤ 5 by omega) (by decide)
    refine ⟨rfl, _, rfl, ?_⟩
    have ex : Str.ofString "x" ++ repS 41 ns.length = mk (120 :: List.replicate ns.length 41) := by
      refine ext_tl ?_
      rw [tl_append]
      rfl
    rw [ex, decide_eq_true rfl]
    refine iteF ?_
    refine ⟨.ref p3, rfl, 1, 3, rfl, rfl, p3, ns.map mk, 0, 4, rfl, ?_, small_mk hn, by rw [List.length_map]; omega, fun H' sm' => ?_⟩
    · rw [← strs_mk]; exact SqT.of upd_same
    rw [areNames_mk hn (Nat.zero_le _) h4]
    refine ⟨true, rfl, ?_⟩
    refine iteF ?_
    exact ⟨.ref p3, rfl, q H' p3 (sm.trans sm') (SqT.of (sm' _ _ upd_same))⟩
end
end K

set_option Elab.async false
set_option linter.all false
set_option maxRecDepth 100000
set_option maxHeartbeats 4000000
/-! KF3: callflows.stages. -/
namespace K
open PySem PySem.Spec PyProof.Rows L2 He TL
theorem ifF {c : Bool} {A B : Prop} (h : c = false) (hB : B) : if c = true then A else B := by
  rw [h, if_neg Bool.false_ne_true]; exact hB
theorem ifT {c : Bool} {A B : Prop} (h : c = true) (hA : A) : if c = true then A else B := by
  rw [h, if_pos rfl]; exact hA
abbrev SgL := Sg (List Nat)
def kindS : SgL → Str
  | .each _ _ => "each"
  | .ask .keep _ _ => "keep"
  | .ask .drop _ _ => "drop"
  | .ask .whl _ _ => "while"
  | .ask .frm _ _ => "from"
  | .first _ _ => "first"
  | .skip _ _ => "skip"
  | .every _ _ _ => "every"
  | .last _ => "last"
  | .but _ => "but last"
  | .turned => "turned"
/-- the detail as a value -/
def DetAt (K : PySem.W.Frag) (H : Hp) : SgL → V → Prop
  | .each w _, v => ∃ a, v = .ref a ∧ SqT K H a (w.map fun n => V.str (mk n))
  | .ask _ t _, v => ∃ a, v = .ref a ∧ SqT K H a (t.map fun n => V.str (mk n))
  | .first n _, v => v = .int n
  | .skip n _, v => v = .int n
  | .every k r _, v => ∃ a, v = .ref a ∧ SqT K H a [.int k, .int r]
  | .last n, v => v = .int n
  | .but n, v => v = .int n
  | .turned, v => v = .non
def SgOk : SgL → Prop
  | .each w _ => NamesL w ∧ w.length ≤ 3
  | .ask _ t _ => NamesL t ∧ 1 ≤ t.length ∧ t.length ≤ 4
  | .first n _ => n ≤ 9
  | .skip n _ => n ≤ 9
  | .every k r _ => 1 ≤ k ∧ k ≤ 9 ∧ r ≤ 9
  | .last n => 1 ≤ n ∧ n ≤ 9
  | .but n => 1 ≤ n ∧ n ≤ 9
  | .turned => True
theorem DetAt.same {K : PySem.W.Frag} {H H' : Hp} {v : V} (e : Same H H') : ∀ {sg : SgL}, DetAt K H sg v → DetAt K H' sg v
  | .each _ _, ⟨a, h1, h2⟩ => ⟨a, h1, same_seqT e h2⟩
  | .ask _ _ _, ⟨a, h1, h2⟩ => ⟨a, h1, same_seqT e h2⟩
  | .every _ _ _, ⟨a, h1, h2⟩ => ⟨a, h1, same_seqT e h2⟩
  | .first _ _, h => h
  | .skip _ _, h => h
  | .last _, h => h
  | .but _, h => h
  | .turned, h => h
section
variable {P : Program} {w : World} {K : PySem.W.Frag} {mg : Str → Option Value} {base : Heap}
def spIsCount : Sp := fun vs H Q _ => ∃ i lo : Int, vs = [.int i, .int lo] ∧ lo ≤ i ∧ i ≤ 9 ∧ Q (.bl true) H
theorem ok_is_count (T : Tx K mg w) : Ok1 P w K mg base 2 "is_count" ["value", "least"] spIsCount := by
  obtain ⟨t, eM⟩ := T.i_MOST
  refine T.d_is_count.mk sc_is_count bn_is_count (fun vs H Q E h => ?_) (fun cdv A outer s H vs Q E hr h => ?_)
  · obtain ⟨i, lo, rfl, _⟩ := h
    rfl
  · obtain ⟨i, lo, rfl, h1, h2, q⟩ := h
    refine ⟨_, pss_one (ps_ret (pe_and (pe_g (ok_is_integer T) hr (pa_cons (pv 0) pa_nil)) (pe_one (pe_chain op_le op_le (pv 1) (pv 0) (pe_glob (v := .int 9) (by rfl) eM ⟨_, rfl⟩))))), ?_⟩
    refine ⟨_, rfl, i, rfl, true, rfl, ?_⟩
    refine iteT ⟨_, rfl, _, rfl, lo, i, rfl, rfl, _, rfl, ?_⟩
    refine ifT (decide_eq_true h1) ⟨i, 9, rfl, rfl, ?_⟩
    have e : decide (i ≤ 9) = true := decide_eq_true h2
    show Q (.bl (decide (i ≤ 9))) H
    rw [e]
    exact q
def spIsDetail (K : PySem.W.Frag) : Sp := fun vs H Q _ => ∃ (sg : SgL) (v : V) (kd : Str), vs = [.str kd, v] ∧ kd = kindS sg ∧ DetAt K H sg v ∧ SgOk sg ∧ ∀ H', Same H H' → Q (.bl true) H'
theorem ok_is_detail (T : Tx K mg w) : Ok1 P w K mg base 4 "is_detail" ["kind", "detail"] (spIsDetail K) := by
  refine T.d_is_detail.mk sc_is_detail bn_is_detail (fun vs H Q E h => ?_) (fun cdv A outer s H vs Q E hr h => ?_)
  · obtain ⟨sg, v, kd, rfl, _⟩ := h
    rfl
  · obtain ⟨sg, v, kd, rfl, hk, hd, ho, q⟩ := h
    refine ⟨_, pss_cons (ps_if (pt_cmpR op_eq (pv 0) pe_str (nomark _)) (pss_one (ps_ret (pe_g (ok_is_word T) hr (pa_cons (pv 1) pa_nil)))) pss_nil)
      (pss_cons (ps_if (pt_cmpR op_in_seq (pv 0) (pe_glob (v := .ref _) (by rfl) T.g_TESTED rfl) (by rfl)) (pss_one (ps_ret (pe_g (ok_is_test T) hr (pa_cons (pv 1) pa_nil)))) pss_nil)
      (pss_cons (ps_if (pt_cmpR op_eq (pv 0) pe_str (nomark _)) (pss_one (ps_ret (pe_cmpR op_isN (pv 1) pe_non (nomark _)))) pss_nil)
      (pss_cons (ps_if (pt_cmpR op_eq (pv 0) pe_str (nomark _)) (pss_one (ps_ret (pe_and (pe_callB call_isi (by rfl) T.z_isinstance bt_isinstance (pa_cons (pv 1) (pa_cons (pe_bltn (v := .ty "tuple") (by rfl) T.z_tuple bt_tuple rfl) pa_nil)))
          (pe_and (pe_cmpR op_eq (pe_callB call_len (by rfl) T.z_len bt_len (pa_cons (pv 1) pa_nil)) pe_int (nomark _))
          (pe_and (pe_g (ok_is_count T) (hr.mono (by decide)) (pa_cons (pe_ix ix_tup (pv 1) pe_int (fun _ _ => rfl)) (pa_cons pe_int pa_nil)))
          (pe_one (pe_g (ok_is_count T) (hr.mono (by decide)) (pa_cons (pe_ix ix_tup (pv 1) pe_int (fun _ _ => rfl)) (pa_cons pe_int pa_nil))))))))) pss_nil)
      (pss_one (ps_ret (pe_g (ok_is_count T) (hr.mono (by decide)) (pa_cons (pv 1) (pa_cons
        (pe_ifExp (pt_cmpR op_in_seq (pv 0) (pe_tup (pa_cons pe_str (pa_cons pe_str pa_nil))) (by rfl)) pe_int pe_int) pa_nil)))))))), ?_⟩
    have hT := T.t_TESTED
    have two : (2 : Nat) ≤ sizeLine := by decide
    cases sg with
    | each wd now =>
      obtain rfl : kd = ("each" : Str) := hk
      obtain ⟨a, rfl, hS⟩ := hd
      refine ⟨_, rfl, rfl, _, rfl, ?_⟩
      refine ifT (by decide +kernel) ?_
      refine ⟨_, rfl, a, wd.map mk, rfl, by rw [← strs_mk]; exact hS, small_mk ho.1, by rw [List.length_map]; have := ho.2; omega, fun H' sm => ?_⟩
      rw [areNames_mk ho.1 (Nat.zero_le _) ho.2]
      exact q H' sm
    | ask kk t now =>
      obtain ⟨a, rfl, hS⟩ := hd
      have hin : (decide (V.str kd = V.str "each")) = false ∧ inV (.str kd) ((["keep", "drop", "while", "from"] : List Str).map V.str) = true := by
        cases kk with
        | keep => obtain rfl : kd = ("keep" : Str) := hk; exact ⟨by decide +kernel, by decide +kernel⟩
        | drop => obtain rfl : kd = ("drop" : Str) := hk; exact ⟨by decide +kernel, by decide +kernel⟩
        | whl => obtain rfl : kd = ("while" : Str) := hk; exact ⟨by decide +kernel, by decide +kernel⟩
        | frm => obtain rfl : kd = ("from" : Str) := hk; exact ⟨by decide +kernel, by decide +kernel⟩
      refine ⟨_, rfl, rfl, _, rfl, ?_⟩
      refine ifF hin.1 ?_
      refine ⟨_, rfl, _, _, rfl, .inr (hT H), rfl, by decide +kernel, _, rfl, ?_⟩
      refine ifT hin.2 ?_
      refine ⟨_, rfl, a, t.map mk, rfl, by rw [← strs_mk]; exact hS, small_mk ho.1, by rw [List.length_map]; have := ho.2.2; omega, fun H' sm => ?_⟩
      rw [areNames_mk ho.1 ho.2.1 ho.2.2]
      exact q H' sm
    | turned =>
      obtain rfl : kd = ("turned" : Str) := hk
      cases hd
      refine ⟨_, rfl, rfl, _, rfl, ?_⟩
      refine ifF (by decide +kernel) ?_
      refine ⟨_, rfl, _, _, rfl, .inr (hT H), rfl, by decide +kernel, _, rfl, ?_⟩
      refine ifF (by decide +kernel) ?_
      refine ⟨_, rfl, rfl, _, rfl, ?_⟩
      refine ifT (by decide +kernel) ?_
      exact ⟨_, rfl, rfl, q H (Same.refl H)⟩
    | every k r now =>
      obtain rfl : kd = ("every" : Str) := hk
      obtain ⟨a, rfl, hS⟩ := hd
      obtain ⟨h1, h2, h3⟩ := ho
      refine ⟨_, rfl, rfl, _, rfl, ?_⟩
      refine ifF (by decide +kernel) ?_
      refine ⟨_, rfl, _, _, rfl, .inr (hT H), rfl, by decide +kernel, _, rfl, ?_⟩
      refine ifF (by decide +kernel) ?_
      refine ⟨_, rfl, rfl, _, rfl, ?_⟩
      refine ifF (by decide +kernel) ?_
      refine ⟨_, rfl, rfl, _, rfl, ?_⟩
      refine ifT (by decide +kernel) ?_
      refine ⟨_, rfl, .ref a, .ty "tuple", .type "tuple", .type "tuple", true, rfl, .ty _, tyx_tup hS, kit_ty (by decide +kernel), true, rfl, ?_⟩
      refine iteT ⟨_, rfl, .ref a, 2, rfl, .inr ⟨_, hS, rfl⟩, rfl, _, rfl, ?_⟩
      refine ifT (by decide +kernel) ⟨_, rfl, a, _, 0, _, rfl, rfl, hS, atI_nat (j := 0) rfl, (k : Int), 1, rfl, by omega, by omega, true, rfl, ?_⟩
      refine iteT ⟨_, rfl, a, _, 1, _, rfl, rfl, hS, atI_nat (j := 1) rfl, (r : Int), 0, rfl, by omega, by omega, ?_⟩
      exact q H (Same.refl H)
    | first n now =>
      obtain rfl : kd = ("first" : Str) := hk
      cases hd
      refine ⟨_, rfl, rfl, _, rfl, ?_⟩
      refine ifF (by decide +kernel) ?_
      refine ⟨_, rfl, _, _, rfl, .inr (hT H), rfl, by decide +kernel, _, rfl, ?_⟩
      refine ifF (by decide +kernel) ?_
      refine ⟨_, rfl, rfl, _, rfl, ?_⟩
      refine ifF (by decide +kernel) ?_
      refine ⟨_, rfl, rfl, _, rfl, ?_⟩
      refine ifF (by decide +kernel) ?_
      refine ⟨_, rfl, _, rfl, two, fun p np => ⟨p, _, rfl, .inr (SqT.of upd_same), rfl, by decide +kernel, _, rfl, ?_⟩⟩
      refine ifT (by decide +kernel) ?_
      refine ⟨(n : Int), 0, rfl, by omega, ?_, q _ (same_new np)⟩
      have : n ≤ 9 := ho
      omega
    | skip n now =>
      obtain rfl : kd = ("skip" : Str) := hk
      cases hd
      refine ⟨_, rfl, rfl, _, rfl, ?_⟩
      refine ifF (by decide +kernel) ?_
      refine ⟨_, rfl, _, _, rfl, .inr (hT H), rfl, by decide +kernel, _, rfl, ?_⟩
      refine ifF (by decide +kernel) ?_
      refine ⟨_, rfl, rfl, _, rfl, ?_⟩
      refine ifF (by decide +kernel) ?_
      refine ⟨_, rfl, rfl, _, rfl, ?_⟩
      refine ifF (by decide +kernel) ?_
      refine ⟨_, rfl, _, rfl, two, fun p np => ⟨p, _, rfl, .inr (SqT.of upd_same), rfl, by decide +kernel, _, rfl, ?_⟩⟩
      refine ifT (by decide +kernel) ?_
      refine ⟨(n : Int), 0, rfl, by omega, ?_, q _ (same_new np)⟩
      have : n ≤ 9 := ho
      omega
    | last n =>
      obtain rfl : kd = ("last" : Str) := hk
      cases hd
      refine ⟨_, rfl, rfl, _, rfl, ?_⟩
      refine ifF (by decide +kernel) ?_
      refine ⟨_, rfl, _, _, rfl, .inr (hT H), rfl, by decide +kernel, _, rfl, ?_⟩
      refine ifF (by decide +kernel) ?_
      refine ⟨_, rfl, rfl, _, rfl, ?_⟩
      refine ifF (by decide +kernel) ?_
      refine ⟨_, rfl, rfl, _, rfl, ?_⟩
      refine ifF (by decide +kernel) ?_
      refine ⟨_, rfl, _, rfl, two, fun p np => ⟨p, _, rfl, .inr (SqT.of upd_same), rfl, by decide +kernel, _, rfl, ?_⟩⟩
      refine ifF (by decide +kernel) ?_
      exact ⟨(n : Int), 1, rfl, by have := ho.1; omega, by have := ho.2; omega, q _ (same_new np)⟩
    | but n =>
      obtain rfl : kd = ("but last" : Str) := hk
      cases hd
      refine ⟨_, rfl, rfl, _, rfl, ?_⟩
      refine ifF (by decide +kernel) ?_
      refine ⟨_, rfl, _, _, rfl, .inr (hT H), rfl, by decide +kernel, _, rfl, ?_⟩
      refine ifF (by decide +kernel) ?_
      refine ⟨_, rfl, rfl, _, rfl, ?_⟩
      refine ifF (by decide +kernel) ?_
      refine ⟨_, rfl, rfl, _, rfl, ?_⟩
      refine ifF (by decide +kernel) ?_
      refine ⟨_, rfl, _, rfl, two, fun p np => ⟨p, _, rfl, .inr (SqT.of upd_same), rfl, by decide +kernel, _, rfl, ?_⟩⟩
      refine ifF (by decide +kernel) ?_
      exact ⟨(n : Int), 1, rfl, by have := ho.1; omega, by have := ho.2; omega, q _ (same_new np)⟩
end
/-! ### the kinds in the module's tables -/
/-- the eleven kinds, each a written text -/
def kindsAll : List Str := ["each", "keep", "drop", "while", "from", "first", "skip", "every", "last", "but last", "turned"]
theorem kind_cases (p : SgL → Str → Prop) (h1 : ∀ w b, p (.each w b) "each") (h2 : ∀ t b, p (.ask .keep t b) "keep") (h3 : ∀ t b, p (.ask .drop t b) "drop") (h4 : ∀ t b, p (.ask .whl t b) "while") (h5 : ∀ t b, p (.ask .frm t b) "from")
    (h6 : ∀ n b, p (.first n b) "first") (h7 : ∀ n b, p (.skip n b) "skip") (h8 : ∀ k r b, p (.every k r b) "every") (h9 : ∀ n, p (.last n) "last") (h10 : ∀ n, p (.but n) "but last") (h11 : p .turned "turned") (sg : SgL) : p sg (kindS sg) := by
  cases sg with
  | each w b => exact h1 w b
  | ask k t b => cases k with
    | keep => exact h2 t b
    | drop => exact h3 t b
    | whl => exact h4 t b
    | frm => exact h5 t b
  | first n b => exact h6 n b
  | skip n b => exact h7 n b
  | every k r b => exact h8 k r b
  | last n => exact h9 n
  | but n => exact h10 n
  | turned => exact h11
def Sg.asks : SgL → Bool
  | .ask _ _ _ => true
  | _ => false
def Sg.counts : SgL → Bool
  | .first _ _ => true
  | .skip _ _ => true
  | .every _ _ _ => true
  | _ => false
theorem in_KINDS (sg : SgL) : inV (.str (kindS sg)) (kindsAll.map V.str) = true := by
  refine kind_cases (fun _ x => inV (.str x) (kindsAll.map V.str) = true) ?_ ?_ ?_ ?_ ?_ ?_ ?_ ?_ ?_ ?_ ?_ sg <;> intros <;> decide +kernel
theorem in_LIST (sg : SgL) : inV (.str (kindS sg)) ((["last", "but last", "turned"] : List Str).map V.str) = sg.isList := by
  refine kind_cases (fun sg x => inV (.str x) ((["last", "but last", "turned"] : List Str).map V.str) = sg.isList) ?_ ?_ ?_ ?_ ?_ ?_ ?_ ?_ ?_ ?_ ?_ sg
  all_goals (intros; first | (show _ = false; decide +kernel) | (show _ = true; decide +kernel))
theorem in_TESTED (sg : SgL) : inV (.str (kindS sg)) ((["keep", "drop", "while", "from"] : List Str).map V.str) = sg.asks := by
  refine kind_cases (fun sg x => inV (.str x) ((["keep", "drop", "while", "from"] : List Str).map V.str) = sg.asks) ?_ ?_ ?_ ?_ ?_ ?_ ?_ ?_ ?_ ?_ ?_ sg
  all_goals (intros; first | (show _ = false; decide +kernel) | (show _ = true; decide +kernel))
theorem in_COUNTED (sg : SgL) : inV (.str (kindS sg)) ((["first", "skip", "every"] : List Str).map V.str) = sg.counts := by
  refine kind_cases (fun sg x => inV (.str x) ((["first", "skip", "every"] : List Str).map V.str) = sg.counts) ?_ ?_ ?_ ?_ ?_ ?_ ?_ ?_ ?_ ?_ ?_ sg
  all_goals (intros; first | (show _ = false; decide +kernel) | (show _ = true; decide +kernel))
section
variable {P : Program} {w : World} {K : PySem.W.Frag} {mg : Str → Option Value} {base : Heap}
/-! ### Stage -/
abbrev cS (K : PySem.W.Frag) : Addr := ga K "Stage"
/-- a stage stands at x, v its detail -/
def StageV (K : PySem.W.Frag) (H : Hp) (x : Addr) (sg : SgL) (v : V) : Prop := ∃ dx t, H x = some (.ins (cS K) dx [("fields", .ref t)]) ∧ SqT K H t [.str (kindS sg), v, .bl sg.now] ∧ DetAt K H sg v
theorem StageV.same {H H' : Hp} {x : Addr} {sg : SgL} {v : V} (e : Same H H') (h : StageV K H x sg v) : StageV K H' x sg v := by
  obtain ⟨dx, t, h1, h2, h3⟩ := h
  exact ⟨dx, t, e _ _ h1, same_seqT e h2, h3.same e⟩
def spStageInit (K : PySem.W.Frag) : Sp := fun vs H Q _ => ∃ (x dx : Addr) (sg : SgL) (v : V) (b : Bool), vs = [.ref x, .str (kindS sg), v, .bl b] ∧ H x = some (.ins (cS K) dx []) ∧ DetAt K H sg v ∧ SgOk sg ∧ sg.now = (b || sg.isList) ∧
  ∀ H' t, Kp (· = x) H H' → H' x = some (.ins (cS K) dx [("fields", .ref t)]) → SqT K H' t [.str (kindS sg), v, .bl sg.now] → Q .non H'
theorem ok_stage_init (T : Tx K mg w) : ∃ fd, FunD K "__init__" "Stage.__init__" (defArgs s_Stage_init) (defBody s_Stage_init) (defScope s_Stage_init) [.non] [("now", .bl false)] (ma K (ga K "Stage") "__init__") fd ∧
    FnOk P w K mg base CX0 5 (ma K (ga K "Stage") "__init__") fd ["self", "kind", "detail", "now"] (spStageInit K) := by
  refine T.d_Stage_init.mk sc_Stage_init (fun vs H Q E h => ?_) (fun cdv A outer s H vs Q E hr h => ?_)
  · obtain ⟨x, dx, sg, v, b, rfl, _⟩ := h
    rfl
  · obtain ⟨x, dx, sg, v, b, rfl, hx, hd, ho, hnow, q⟩ := h
    refine ⟨_, pss_cons (ps_if (PW.pt (pw_or (pt_not (pt_val (pe_callB call_isi (by rfl) T.z_isinstance bt_isinstance (pa_cons (pv 1) (pa_cons (pe_bltn (v := .ty "str") (by rfl) T.z_str bt_str rfl) pa_nil)))))
        (pw_or1 (pt_cmpR op_notIn_seq (pv 1) (pe_glob (v := .ref _) (by rfl) T.g_KINDS rfl) (by rfl))))) pss_never pss_nil)
      (pss_cons (ps_if (pt_not (pt_val (pe_g (ok_is_detail T) hr (pa_cons (pv 1) (pa_cons (pv 2) pa_nil))))) pss_never pss_nil)
      (pss_cons (ps_if (pt_not (pt_val (pe_callB call_isi (by rfl) T.z_isinstance bt_isinstance (pa_cons (pv 3) (pa_cons (pe_bltn (v := .ty "bool") (by rfl) T.z_bool bt_bool rfl) pa_nil))))) pss_never pss_nil)
      (pss_one (ps_fld (pv 0) (pe_tup (pa_cons (pv 1) (pa_cons (pv 2) (pa_cons (pe_or (pv 3) (pe_one (pe_cmpR op_in_seq (pv 1) (pe_glob (v := .ref _) (by rfl) T.g_LIST_KINDS rfl) (by rfl)))) pa_nil)))) rfl)))), ?_⟩
    generalize hk : kindS sg = kd
    have e1 : inV (.str kd) (kindsAll.map V.str) = true := hk ▸ in_KINDS sg
    have e2 : inV (.str kd) ((["last", "but last", "turned"] : List Str).map V.str) = sg.isList := hk ▸ in_LIST sg
    refine ⟨_, rfl, .str kd, .ty "str", .type "str", .type "str", true, rfl, .ty _, .base (.str _), kit_ty (by decide +kernel), true, rfl, ?_⟩
    refine iteF ⟨_, rfl, _, _, rfl, .inr (T.t_KINDS H), rfl, by decide +kernel, _, rfl, ?_⟩
    refine ifF (by show (if true = true then !inV (.str kd) (kindsAll.map V.str) else inV (.str kd) (kindsAll.map V.str)) = false; rw [if_pos rfl, e1]; rfl) ?_
    refine ⟨_, rfl, _, rfl, sg, v, kd, rfl, hk.symm, hd, ho, fun H1 sm => ⟨true, rfl, ?_⟩⟩
    refine iteF ?_
    refine ⟨_, rfl, .bl b, .ty "bool", .type "bool", .type "bool", true, rfl, .ty _, .base (.bl b), kit_ty (by decide +kernel), true, rfl, ?_⟩
    refine iteF ?_
    have fin : ∀ c : Bool, c = sg.now → tTup (fun _ H Q => Q [.str kd, v, .bl c] H) (L2.start ["self", "kind", "detail", "now"] [.ref x, .str kd, v, .bl b]) H1 (fun y H2 => tVar 0 (L2.start ["self", "kind", "detail", "now"] [.ref x, .str kd, v, .bl b]) H2 fun z H3 =>
        ∃ a C dx fs, z = .ref a ∧ H3 a = some (.ins C dx fs) ∧ Cls K C ∧ NoAttr K C "fields" ∧ fs.length < 1000 ∧ Q .non (upd H3 a (.ins C dx (putF "fields" y fs)))) := fun c hc => by
      refine ⟨by show 3 ≤ sizeLine; decide, fun p np => ?_⟩
      have hx2 : (upd H1 p (.tup [.str kd, v, .bl c])) x = some (.ins (cS K) dx []) := same_new np _ _ (sm _ _ hx)
      refine ⟨.ref x, rfl, x, cS K, dx, [], rfl, hx2, T.cl_Stage, T.n_Stage_fields, by decide, ?_⟩
      have npx : p ≠ x := fun z => by rw [z, sm _ _ hx] at np; cases np
      refine q _ p ?_ upd_same (SqT.of ?_)
      · exact ((Same.kp sm).trans (Same.kp (same_new np))).trans (kp_set rfl hx2 ns_ins)
      · rw [upd_ne npx, upd_same, hc, hk]
    refine ⟨_, rfl, _, rfl, .bl b, rfl, b, rfl, ?_⟩
    cases b with
    | true =>
      refine iteT ?_
      exact fin true (by rw [hnow]; rfl)
    | false =>
      refine iteF ⟨_, rfl, _, _, rfl, .inr (T.t_LIST_KINDS H1), rfl, by decide +kernel, ?_⟩
      exact fin _ (by rw [hnow]; exact e2)
end
end K

set_option Elab.async false
set_option linter.all false
set_option maxRecDepth 100000
set_option maxHeartbeats 4000000
/-! KF4: a stage's properties, its making. -/
namespace K
open PySem PySem.Spec PyProof.Rows L2 He TL
theorem PE.weaken {X : Cx} {e : Expr} {t t' : TE} (h : PE X e t) (i : ∀ σ H Q, t' σ H Q → t σ H Q) : PE X e t' := ⟨fun pins s σ H Q I q => h.run pins s σ H Q I (i σ H Q q)⟩
theorem same_made {H H' : Hp} {x dx : Addr} {o u : HO} (hx : H x = none) (hd : H dx = none) (k : Kp (· = x) (upd (upd H dx u) x o) H') : Same H H' := fun b y e => by
  refine k b y ?_ (.inl (ne_of_none e hx))
  rw [upd_ne (ne_of_none e hx), upd_ne (ne_of_none e hd)]; exact e
section
variable {P : Program} {w : World} {K : PySem.W.Frag} {mg : Str → Option Value} {base : Heap}
theorem stage_binds3 (T : Tx K mg w) {fd : FuncData} (F : FunD K "__init__" "Stage.__init__" (defArgs s_Stage_init) (defBody s_Stage_init) (defScope s_Stage_init) [.non] [("now", .bl false)] (ma K (ga K "Stage") "__init__") fd) :
    ∃ its mv : List Value, KBn K fd ["self", "kind", "detail", "now"] 3 [Str.ofString "now"] (fun us ws => us ++ ws) (fun vs zs => vs ++ zs) := by
  exact FunD.kbinds F 3 ["now"] [] (fun us its mv ws => us ++ ws) (by simp) (by simp) (fun q h => by cases h) (fun a b c d => a.append d)
    (fun T D doc pm an cdv ct us its mv ws h1 h2 h3 h4 => match us, its, mv, ws, h1, h2, h3, h4 with
      | [_, _, _], [_], [], [_], _, _, _, _ => ⟨_, rfl, rfl⟩)
theorem stage_binds2 (T : Tx K mg w) {fd : FuncData} (F : FunD K "__init__" "Stage.__init__" (defArgs s_Stage_init) (defBody s_Stage_init) (defScope s_Stage_init) [.non] [("now", .bl false)] (ma K (ga K "Stage") "__init__") fd) :
    ∃ ds, Vals [.bl false] ds ∧ Binds K fd ["self", "kind", "detail", "now"] ds := by
  exact FunD.binds F 3 1 (by simp) rfl
    (fun T D doc pm an cdv ct us its ks h1 h2 h3 => match us, its, ks, h1, h2, h3 with
      | [_, _, _], [_], [_], _, _, _ => ⟨_, rfl, ⟨_, _, _, _, _, _, rfl, rfl, rfl⟩⟩) (by simp)
theorem stage_binds1 (T : Tx K mg w) {fd : FuncData} (F : FunD K "__init__" "Stage.__init__" (defArgs s_Stage_init) (defBody s_Stage_init) (defScope s_Stage_init) [.non] [("now", .bl false)] (ma K (ga K "Stage") "__init__") fd) :
    ∃ ds, Vals [.non, .bl false] ds ∧ Binds K fd ["self", "kind", "detail", "now"] ds := by
  exact FunD.binds F 2 0 (by simp) rfl
    (fun T D doc pm an cdv ct us its ks h1 h2 h3 => match us, its, ks, h1, h2, h3 with
      | [_, _], [_], [_], _, _, _ => ⟨_, rfl, ⟨_, _, _, _, _, _, rfl, rfl, rfl⟩⟩) (by simp)
end
section
variable {X : Cx} {e1 e2 e3 : Expr} {t1 t2 t3 : TE} {p q pos : Pos}
/-- what the making of a stage asks -/
def StMk (K : PySem.W.Frag) (k d : V) (b : Bool) (H : Hp) (Q : VK) : Prop := ∃ sg : SgL, k = .str (kindS sg) ∧ DetAt K H sg d ∧ SgOk sg ∧ sg.now = (b || sg.isList) ∧ ∀ H' x, Same H H' → StageV K H' x sg d → Q (.ref x) H'
theorem StMk.mk' {K : PySem.W.Frag} {k d : V} {b : Bool} {H : Hp} {Q : VK} (h : StMk K k d b H Q) : ∀ x dx, H x = none → H dx = none → dx ≠ x →
    spStageInit K [.ref x, k, d, .bl b] (upd (upd H dx (.own x)) x (.ins (cS K) dx [])) (fun v H2 => v = .non ∧ Q (.ref x) H2) E0 := by
  obtain ⟨sg, rfl, hd, ho, hn, q⟩ := h
  intro x dx hx hdx ne
  have sm0 : Same H (upd (upd H dx (.own x)) x (.ins (cS K) dx [])) := fun b y e => by
    rw [upd_ne (ne_of_none e hx), upd_ne (ne_of_none e hdx)]; exact e
  refine ⟨x, dx, sg, d, b, rfl, upd_same, hd.same sm0, ho, hn, fun H' t kp hi ht => ⟨rfl, ?_⟩⟩
  have sm := same_made hx hdx kp
  exact q H' x sm ⟨dx, t, hi, ht, hd.same sm⟩
/-- Stage(k, d, now=n) -/
theorem pe_stK {es : List Expr} {kws : List Keyword} {e : Expr} {t tk : TA} {Kf : PySem.W.Frag} (T : Tx Kf X.mg X.w) (hr : Room 6 X.A) (ha : PA X (e :: es) t) (hkw : PK X kws tk) (hg : Gl X "Stage" := by rfl)
    (hall : (backToKw pos (keywordEach kws X.env)).all (·.1.isSome) = true := by rfl) (hks : (backToKw pos (keywordEach kws X.env)).filterMap (·.1) = [Str.ofString "now"] := by rfl)
    (he : starEach (e :: es) X.env = (false, eval e X.env) :: starEach es X.env := by rfl) (hpl : ((backTo pos (starEach (e :: es) X.env)).any (·.1) || (backToKw pos (keywordEach kws X.env)).any (·.1.isNone)) = false := by rfl) (hK : X.K = Kf := by rfl) :
    PE X (.Call (.Name "Stage" p) (e :: es) kws pos) (tMakeK (cS Kf) 2 1 (spStageInit Kf) (fun vs zs => vs ++ zs) E0 t tk) := by
  subst hK
  obtain ⟨fd, F, G⟩ := ok_stage_init (P := X.prog) (base := X.base) T
  obtain ⟨_, _, kb⟩ := stage_binds3 T F
  exact pe_makeK T.mk_Stage G hr hg T.g_Stage kb pass0 ha hkw hall hks (by decide) he hpl
/-- Stage(k, d) -/
theorem pe_st2 {es : List Expr} {e : Expr} {t : TA} {Kf : PySem.W.Frag} (T : Tx Kf X.mg X.w) (hr : Room 6 X.A) (ha : PA X (e :: es) t) (hg : Gl X "Stage" := by rfl)
    (he : starEach (e :: es) X.env = (false, eval e X.env) :: starEach es X.env := by rfl) (hpl : (backTo pos (starEach es X.env)).any (·.1) = false := by rfl) (hK : X.K = Kf := by rfl) :
    PE X (.Call (.Name "Stage" p) (e :: es) [] pos) (tMake (cS Kf) (spStageInit Kf) [.bl false] E0 t) := by
  subst hK
  obtain ⟨fd, F, G⟩ := ok_stage_init (P := X.prog) (base := X.base) T
  obtain ⟨ds, hd, b⟩ := stage_binds2 T F
  exact pe_make T.mk_Stage G hr hg T.g_Stage b hd pass0 ha (by decide) he hpl
/-- Stage(k) -/
theorem pe_st1 {es : List Expr} {e : Expr} {t : TA} {Kf : PySem.W.Frag} (T : Tx Kf X.mg X.w) (hr : Room 6 X.A) (ha : PA X (e :: es) t) (hg : Gl X "Stage" := by rfl)
    (he : starEach (e :: es) X.env = (false, eval e X.env) :: starEach es X.env := by rfl) (hpl : (backTo pos (starEach es X.env)).any (·.1) = false := by rfl) (hK : X.K = Kf := by rfl) :
    PE X (.Call (.Name "Stage" p) (e :: es) [] pos) (tMake (cS Kf) (spStageInit Kf) [.non, .bl false] E0 t) := by
  subst hK
  obtain ⟨fd, F, G⟩ := ok_stage_init (P := X.prog) (base := X.base) T
  obtain ⟨ds, hd, b⟩ := stage_binds1 T F
  exact pe_make T.mk_Stage G hr hg T.g_Stage b hd pass0 ha (by decide) he hpl
end
/-! ### properties -/
section
variable {P : Program} {w : World} {K : PySem.W.Frag} {mg : Str → Option Value} {base : Heap}
def spStGet (K : PySem.W.Frag) (f : SgL → V → V) : Sp := fun vs H Q _ => ∃ x sg v, vs = [.ref x] ∧ StageV K H x sg v ∧ Q (f sg v) H
theorem ok_stage_kind (T : Tx K mg w) : ∃ fd, FunD K "kind" "Stage.kind" (defArgs s_Stage_kind) (defBody s_Stage_kind) (defScope s_Stage_kind) [] [] (pgA K "property" (cS K) "kind") fd ∧
    FnOk P w K mg base CX0 1 (pgA K "property" (cS K) "kind") fd ["self"] (spStGet K fun sg _ => .str (kindS sg)) := by
  refine T.d_Stage_kind.mk sc_Stage_kind (fun vs H Q E h => ?_) (fun cdv A outer s H vs Q E hr h => ?_)
  · obtain ⟨x, sg, v, rfl, _⟩ := h
    rfl
  · obtain ⟨x, sg, v, rfl, ⟨dx, t, h1, h2, h3⟩, q⟩ := h
    refine ⟨_, pss_one (ps_ret (pe_ix ix_tup (pe_fld (pv 0) rfl) pe_int (fun _ _ => rfl))), ?_⟩
    exact ⟨_, rfl, x, _, dx, _, _, rfl, h1, T.cl_Stage, T.n_Stage_fields, rfl, t, _, 0, _, rfl, rfl, h2, atI_nat (j := 0) rfl, q⟩
theorem ok_stage_detail (T : Tx K mg w) : ∃ fd, FunD K "detail" "Stage.detail" (defArgs s_Stage_detail) (defBody s_Stage_detail) (defScope s_Stage_detail) [] [] (pgA K "property" (cS K) "detail") fd ∧
    FnOk P w K mg base CX0 1 (pgA K "property" (cS K) "detail") fd ["self"] (spStGet K fun _ v => v) := by
  refine T.d_Stage_detail.mk sc_Stage_detail (fun vs H Q E h => ?_) (fun cdv A outer s H vs Q E hr h => ?_)
  · obtain ⟨x, sg, v, rfl, _⟩ := h
    rfl
  · obtain ⟨x, sg, v, rfl, ⟨dx, t, h1, h2, h3⟩, q⟩ := h
    refine ⟨_, pss_one (ps_ret (pe_ix ix_tup (pe_fld (pv 0) rfl) pe_int (fun _ _ => rfl))), ?_⟩
    exact ⟨_, rfl, x, _, dx, _, _, rfl, h1, T.cl_Stage, T.n_Stage_fields, rfl, t, _, 1, _, rfl, rfl, h2, atI_nat (j := 1) rfl, q⟩
theorem ok_stage_now (T : Tx K mg w) : ∃ fd, FunD K "now" "Stage.now" (defArgs s_Stage_now) (defBody s_Stage_now) (defScope s_Stage_now) [] [] (pgA K "property" (cS K) "now") fd ∧
    FnOk P w K mg base CX0 1 (pgA K "property" (cS K) "now") fd ["self"] (spStGet K fun sg _ => .bl sg.now) := by
  refine T.d_Stage_now.mk sc_Stage_now (fun vs H Q E h => ?_) (fun cdv A outer s H vs Q E hr h => ?_)
  · obtain ⟨x, sg, v, rfl, _⟩ := h
    rfl
  · obtain ⟨x, sg, v, rfl, ⟨dx, t, h1, h2, h3⟩, q⟩ := h
    refine ⟨_, pss_one (ps_ret (pe_ix ix_tup (pe_fld (pv 0) rfl) pe_int (fun _ _ => rfl))), ?_⟩
    exact ⟨_, rfl, x, _, dx, _, _, rfl, h1, T.cl_Stage, T.n_Stage_fields, rfl, t, _, 2, _, rfl, rfl, h2, atI_nat (j := 2) rfl, q⟩
end
section
variable {X : Cx} {e : Expr} {te : TE} {pos : Pos}
/-- what e.kind, e.detail, e.now asks -/
def tStGet (K : PySem.W.Frag) (f : SgL → V → V) (te : TE) : TE := tProp (cS K) (spStGet K f) [] E0 te
theorem fnd_binds1 {K : PySem.W.Frag} {n q : Str} {st : Stmt} {f : Addr} {fd : FuncData} (F : FunD K n q (defArgs st) (defBody st) (defScope st) [] [] f fd) (ps : List Str)
    (hb : ∀ (kV doc pm : Value) (an : Option Addr) (cdv ct : Value) (us : List Value), us.length = ps.length → bindArgs (PySem.W.fnOf n q (defArgs st) (defBody st) (defScope st) .none kV doc pm an cdv ct) ⟨us, []⟩ = pure (ps.zip us)) : Binds K fd ps [] := F.bindsN hb
theorem pe_kind {Kf : PySem.W.Frag} (T : Tx Kf X.mg X.w) (hr : Room 2 X.A) (he : PE X e te) (hab : attributeBase e "kind" X.env (eval e X.env) = eval e X.env := by rfl) (hK : X.K = Kf := by rfl) : PE X (.Attribute e "kind" pos) (tStGet Kf (fun sg _ => .str (kindS sg)) te) := by
  subst hK
  obtain ⟨fd, F, G⟩ := ok_stage_kind (P := X.prog) (base := X.base) T
  exact pe_prop he T.cl_Stage T.m_Stage_kind G hr (fnd_binds1 F ["self"] fun _ _ _ _ _ _ us hl => match us, hl with | [_], _ => rfl) .nil pass0 hab
theorem pe_detail {Kf : PySem.W.Frag} (T : Tx Kf X.mg X.w) (hr : Room 2 X.A) (he : PE X e te) (hab : attributeBase e "detail" X.env (eval e X.env) = eval e X.env := by rfl) (hK : X.K = Kf := by rfl) : PE X (.Attribute e "detail" pos) (tStGet Kf (fun _ v => v) te) := by
  subst hK
  obtain ⟨fd, F, G⟩ := ok_stage_detail (P := X.prog) (base := X.base) T
  exact pe_prop he T.cl_Stage T.m_Stage_detail G hr (fnd_binds1 F ["self"] fun _ _ _ _ _ _ us hl => match us, hl with | [_], _ => rfl) .nil pass0 hab
theorem pe_now {Kf : PySem.W.Frag} (T : Tx Kf X.mg X.w) (hr : Room 2 X.A) (he : PE X e te) (hab : attributeBase e "now" X.env (eval e X.env) = eval e X.env := by rfl) (hK : X.K = Kf := by rfl) : PE X (.Attribute e "now" pos) (tStGet Kf (fun sg _ => .bl sg.now) te) := by
  subst hK
  obtain ⟨fd, F, G⟩ := ok_stage_now (P := X.prog) (base := X.base) T
  exact pe_prop he T.cl_Stage T.m_Stage_now G hr (fnd_binds1 F ["self"] fun _ _ _ _ _ _ us hl => match us, hl with | [_], _ => rfl) .nil pass0 hab
/-- its reading -/
theorem stGet {K : PySem.W.Frag} {f : SgL → V → V} {x : Addr} {sg : SgL} {v : V} {H : Hp} {Q : VK} (h : StageV K H x sg v) (q : Q (f sg v) H) : ∃ a dx fs, V.ref x = .ref a ∧ H a = some (.ins (cS K) dx fs) ∧ spStGet K f (.ref a :: []) H Q E0 := by
  obtain ⟨dx, t, h1, h2, h3⟩ := h
  exact ⟨x, dx, _, rfl, h1, x, sg, v, rfl, ⟨dx, t, h1, h2, h3⟩, q⟩
end
end K

set_option Elab.async false
set_option linter.all false
set_option maxRecDepth 100000
set_option maxHeartbeats 4000000
/-! KT3: the forms of a text's lines. -/
namespace K
open PySem PySem.Spec PyProof.Rows L2 He TL
abbrev Nm := List Nat
def L (s : String) : List Nat := s.toList.map Char.toNat
theorem lit_mk (s : String) : Str.ofString s = mk (L s) := eq_mk (tl_ofString s)
theorem tl_lit (s : String) : tl (Str.ofString s) = L s := tl_ofString s
/-- not or nothing -/
def neg (b : Bool) : List Nat := if b = true then L "not " else []
def condL (c : Bool × List Nm) : List Nat := neg c.1 ++ appl c.2 [120]
def condsL (cs : List (Bool × List Nm)) : List Nat := (cs.map fun c => L " if " ++ condL c).flatten
def compL (w : List Nm) (cs : List (Bool × List Nm)) : List Nat := appl w [120] ++ (L " for x in rows" ++ condsL cs)
inductive Wy where
  | map | filter | takewhile | dropwhile
def wyL : Wy → List Nat
  | .map => L "map"
  | .filter => L "filter"
  | .takewhile => L "takewhile"
  | .dropwhile => L "dropwhile"
def dig (n : Nat) : List Nat := [48 + n]
inductive Cl where
  | call (k : Wy) (f : Nm)
  | lam (wh : Bool) (t : List Nm)
  | first (n : Nat)
  | skip (n : Nat)
  | every (k r : Nat)
inductive Ln where
  | comp (w : List Nm) (cs : List (Bool × List Nm)) (now : Bool)
  | cl (c : Cl) (now : Bool)
  | all
  | last (n : Nat)
  | but (n : Nat)
  | turned
/-- what stands in islice(rows, ..) -/
def sliceL : Cl → List Nat
  | .first n => dig n
  | .skip n => dig n ++ L ", None"
  | .every k r => dig r ++ (L ", None, " ++ dig k)
  | _ => []
def clL : Cl → List Nat
  | .call k f => wyL k ++ (40 :: (f ++ L ", rows)"))
  | .lam wh t => wyL (if wh = true then .takewhile else .dropwhile) ++ (40 :: ((L "lambda x: " ++ appl t [120]) ++ L ", rows)"))
  | .first n => L "islice(rows, " ++ (sliceL (.first n) ++ [41])
  | .skip n => L "islice(rows, " ++ (sliceL (.skip n) ++ [41])
  | .every k r => L "islice(rows, " ++ (sliceL (.every k r) ++ [41])
def tailL : Ln → List Nat
  | .last n => L "[-" ++ (dig n ++ L ":]")
  | .but n => L "[:-" ++ (dig n ++ L "]")
  | .turned => L "[::-1]"
  | _ => []
/-- behind «rows = » -/
def bodyL : Ln → List Nat
  | .comp w cs true => [91] ++ (compL w cs ++ [93])
  | .comp w cs false => [40] ++ (compL w cs ++ [41])
  | .cl c true => L "list(" ++ (clL c ++ [41])
  | .cl c false => clL c
  | l => L "list(rows)" ++ tailL l
def lnL (l : Ln) : List Nat := L "rows = " ++ bodyL l
/-- the conditions and the word, as stages -/
def compSg (w : List Nm) (cs : List (Bool × List Nm)) : List (Bool → SgL) :=
  (cs.map fun c => fun b => Sg.ask (if c.1 = true then Kd.drop else Kd.keep) c.2 b) ++ (if w = [] ∧ cs ≠ [] then [] else [fun b => Sg.each w b])
/-- the last one bears now -/
def bear (now : Bool) : List (Bool → SgL) → List SgL
  | [] => []
  | [f] => [f now]
  | f :: g :: r => f false :: bear now (g :: r)
def clSg (b : Bool) : Cl → SgL
  | .call .map f => .each [f] b
  | .call .filter f => .ask .keep [f] b
  | .call .takewhile f => .ask .whl [f] b
  | .call .dropwhile f => .ask .frm [f] b
  | .lam true t => .ask .whl t b
  | .lam false t => .ask .frm t b
  | .first n => .first n b
  | .skip n => .skip n b
  | .every k r => .every k r b
def lnSg : Ln → List SgL
  | .comp w cs now => bear now (compSg w cs)
  | .cl c now => [clSg now c]
  | .all => [.each [] true]
  | .last n => [.last n]
  | .but n => [.but n]
  | .turned => [.turned]
def TestOk (t : List Nm) : Prop := NamesL t ∧ 1 ≤ t.length ∧ t.length ≤ 4
def ClOk : Cl → Prop
  | .call _ f => isNameL f = true
  | .lam _ t => TestOk t
  | .first n => n ≤ 9
  | .skip n => n ≤ 9
  | .every k r => 1 ≤ k ∧ k ≤ 9 ∧ r ≤ 9
def LnOk : Ln → Prop
  | .comp w cs _ => NamesL w ∧ w.length ≤ 3 ∧ cs.length ≤ 3 ∧ ∀ c ∈ cs, TestOk c.2
  | .cl c _ => ClOk c
  | .last n => 1 ≤ n ∧ n ≤ 9
  | .but n => 1 ≤ n ∧ n ≤ 9
  | _ => True
/-! ### texts -/
theorem pre_false {S l : List Nat} (h : l.take S.length ≠ S) : pre S l = false := by
  unfold pre
  exact beq_eq_false_iff_ne.mpr h
theorem appl_signs {t : List Nm} (h : NamesL t) {c : Nat} (hc : c ∈ appl t [120]) : (97 ≤ c ∧ c ≤ 122) ∨ (48 ≤ c ∧ c ≤ 57) ∨ c = 40 ∨ c = 41 := by
  induction t with
  | nil =>
    simp only [appl, List.mem_singleton] at hc
    omega
  | cons n ns ih =>
    simp only [appl, List.mem_append, List.mem_cons, List.mem_singleton, List.not_mem_nil, or_false] at hc
    rcases hc with hc | hc | hc | hc
    · rcases name_sign (h n List.mem_cons_self) hc with q | q
      · exact .inl ⟨q.1, q.2.1⟩
      · exact .inr (.inl q)
    · exact .inr (.inr (.inl hc))
    · exact ih (fun m hm => h m (List.mem_cons_of_mem _ hm)) hc
    · exact .inr (.inr (.inr hc))
theorem appl_free {t : List Nm} (h : NamesL t) {c : Nat} (hc : c < 40 ∨ (41 < c ∧ c < 48) ∨ (57 < c ∧ c < 97) ∨ 122 < c) : c ∉ appl t [120] := fun z => by
  rcases appl_signs h z with q | q | q | q <;> omega
theorem appl_ne {t : List Nm} : appl t [120] ≠ [] := by
  cases t with
  | nil => simp [appl]
  | cons n ns => simp [appl]
/-- the first two signs of a test's text: a name's start, then no letter -/
theorem appl_head2 {t : List Nm} (h : NamesL t) (hn : t ≠ []) : ∃ c d r, appl t [120] = c :: d :: r ∧ c ≠ 32 ∧ d ≠ 102 := by
  cases t with
  | nil => exact absurd rfl hn
  | cons n ns =>
    have hn1 := h n List.mem_cons_self
    cases n with
    | nil => cases hn1
    | cons c ds =>
      have hc : c ≠ 32 := fun z => by
        rcases name_sign hn1 List.mem_cons_self with q | q <;> omega
      cases ds with
      | nil => exact ⟨c, 40, _, rfl, hc, by decide⟩
      | cons d ds =>
        refine ⟨c, d, _, rfl, hc, fun z => ?_⟩
        unfold isNameL at hn1
        simp only [Bool.and_eq_true, decide_eq_true_eq, List.all_eq_true] at hn1
        have := hn1.2.2 d List.mem_cons_self
        rw [digitsL_eq] at this
        simp only [List.mem_cons, List.not_mem_nil, or_false] at this
        omega
theorem cons_append' (c : Nat) (a b : List Nat) : c :: (a ++ b) = (c :: a) ++ b := rfl
/-- « if » begins nowhere in a condition -/
theorem cond_free {c : Bool × List Nm} (h : TestOk c.2) (q : List Nat) : ∀ i, i < (condL c).length → pre (L " if ") ((condL c ++ q).drop i) = false := by
  obtain ⟨b, t⟩ := c
  have hL : L " if " = [32, 105, 102, 32] := by decide +kernel
  have hf : (32 : Nat) ∉ appl t [120] := appl_free h.1 (by omega)
  intro i hi
  rw [hL]
  cases b with
  | false => exact free_of (s := 32) (S := [105, 102, 32]) (p := appl t [120]) hf i hi
  | true =>
    obtain ⟨x, y, r, e, hx, hy⟩ := appl_head2 h.1 (by intro z; have := h.2.1; rw [z] at this; simp at this)
    have en : condL (true, t) = [110, 111, 116, 32] ++ appl t [120] := rfl
    rw [en] at hi ⊢
    match i, hi with
    | 0, _ => rfl
    | 1, _ => rfl
    | 2, _ => rfl
    | 3, _ =>
      rw [e]
      show pre [32, 105, 102, 32] (32 :: x :: y :: (r ++ q)) = false
      refine pre_false fun z => ?_
      simp only [List.length_cons, List.length_nil, List.take_succ_cons] at z
      injection z with _ z
      injection z with _ z
      injection z with z _
      exact hy z
    | i + 4, hi =>
      show pre [32, 105, 102, 32] ((appl t [120] ++ q).drop i) = false
      exact free_of (s := 32) (S := [105, 102, 32]) hf i (by simp at hi ⊢; omega)
/-- « if » begins nowhere in p, whatever follows -/
def FreeIf (p : List Nat) : Prop := ∀ q i, i < p.length → pre (L " if ") ((p ++ q).drop i) = false
theorem freeIf_cond {c : Bool × List Nm} (h : TestOk c.2) : FreeIf (condL c) := fun q => cond_free h q
theorem freeIf_nil : FreeIf [] := fun _ _ h => absurd h (Nat.not_lt_zero _)
theorem freeIf_head {w : List Nm} (h : NamesL w) : FreeIf (appl w [120] ++ L " for x in rows") := fun q i hi => by
  have hL : L " if " = [32, 105, 102, 32] := by decide +kernel
  have hF : L " for x in rows" = [32, 102, 111, 114, 32, 120, 32, 105, 110, 32, 114, 111, 119, 115] := by decide +kernel
  have hf : (32 : Nat) ∉ appl w [120] := appl_free h (by omega)
  rw [hL]
  rw [hF] at hi ⊢
  by_cases hlt : i < (appl w [120]).length
  · rw [List.append_assoc]
    exact free_of (s := 32) (S := [105, 102, 32]) hf i hlt
  · rw [List.append_assoc, List.drop_append, List.drop_of_length_le (by omega), List.nil_append]
    have h2 : i - (appl w [120]).length < 14 := by
      rw [List.length_append] at hi
      simp only [List.length_cons, List.length_nil] at hi
      omega
    generalize i - (appl w [120]).length = j at h2
    match j, h2 with
    | 0, _ => rfl
    | 1, _ => rfl
    | 2, _ => rfl
    | 3, _ => rfl
    | 4, _ => rfl
    | 5, _ => rfl
    | 6, _ => rfl
    | 7, _ => rfl
    | 8, _ => rfl
    | 9, _ => rfl
    | 10, _ => rfl
    | 11, _ => rfl
    | 12, _ => rfl
    | 13, _ => rfl
theorem split_conds : ∀ {cs : List (Bool × List Nm)} {p : List Nat}, FreeIf p → (∀ c ∈ cs, TestOk c.2) → spl (L " if ") 0 [] (p ++ condsL cs) = p :: cs.map condL := by
  intro cs
  induction cs with
  | nil =>
    intro p hp _
    show spl _ 0 [] (p ++ []) = [p]
    rw [List.append_nil, spl_last fun i hi => ?_]
    · rfl
    · have := hp [] i hi
      rw [List.append_nil] at this
      exact this
  | cons c cs ih =>
    intro p hp hc
    have e : condsL (c :: cs) = L " if " ++ (condL c ++ condsL cs) := by simp [condsL]
    rw [e, spl_part (by decide +kernel) fun i hi => hp _ i hi, ih (freeIf_cond (hc c List.mem_cons_self)) fun d hd => hc d (List.mem_cons_of_mem _ hd)]
    rfl
theorem map_mk_tl : ∀ (l : List (List Nat)), (l.map mk).map tl = l
  | [] => rfl
  | x :: l => by rw [List.map_cons, List.map_cons, map_mk_tl l]; rfl
theorem split_mk {t sep : List Nat} {ps : List (List Nat)} (hs : sep ≠ []) (hk : sep.all (· < 256) = true) (h : spl sep 0 [] t = ps) : Txt.split (mk t) (mk sep) = ps.map mk := by
  refine map_tl_inj ?_
  rw [split_spl (mk t) (mk sep) hs (kind_ok (by rw [← Array.all_toList]; exact hk)), map_mk_tl, tl_mk', tl_mk', h]
theorem partition_mk {s : Nat} {S a b : List Nat} (h : s ∉ a) : Txt.partition (mk (a ++ (s :: S ++ b))) (mk (s :: S)) = (mk a, mk (s :: S), mk b) := by
  have := partition_app (y := mk (s :: S)) (s := s) (S := S) rfl (a := mk a) (b := mk b) h
  rw [mk_app, mk_app, List.append_assoc] at this
  exact this
/-- what inside answers, as a value -/
def optV : Option (List Nat) → V
  | none => .non
  | some m => .str (mk m)
theorem ins_some {t a b m : List Nat} (h : t = a ++ (m ++ b)) : insideL t a b = some m := by rw [h]; exact insideL_some
theorem ins_front {t a m : List Nat} (h : t = a ++ m) : insideL t a [] = some m := ins_some (by rw [List.append_nil]; exact h)
theorem take_ne {t a : List Nat} {i : Nat} (h : i < a.length) (hne : t[i]? ≠ a[i]?) : t.take a.length ≠ a := fun z => hne (by
  have := congrArg (·[i]?) z
  have e : (t.take a.length)[i]? = t[i]? := by rw [List.getElem?_take, if_pos h]
  exact e ▸ this)
/-- another sign at a place -/
theorem ins_none {t a b : List Nat} (i : Nat) (h : i < a.length) (hne : t[i]? ≠ a[i]?) : insideL t a b = none := insideL_start (take_ne h hne)
theorem ins_none_mem {t a b : List Nat} {c : Nat} (h : c ∈ a) (hne : c ∉ t) : insideL t a b = none := insideL_start fun z => hne (by
  have : c ∈ t.take a.length := by rw [z]; exact h
  exact List.mem_of_mem_take this)
end K

set_option Elab.async false
set_option linter.all false
set_option maxRecDepth 100000
set_option maxHeartbeats 4000000
/-! KF5: callflows.reading, the small ones. -/
namespace K
open PySem PySem.Spec PyProof.Rows L2 He TL
section
variable {P : Program} {w : World} {K : PySem.W.Frag} {mg : Str → Option Value} {base : Heap}
def spInside : Sp := fun vs H Q _ => ∃ (x a b : Str) (r : Option (List Nat)), vs = [.str x, .str a, .str b] ∧ x.length ≤ 1000 ∧ a.length ≤ 1000 ∧ b.length ≤ 1000 ∧ insideL (tl x) (tl a) (tl b) = r ∧ Q (optV r) H
theorem ok_inside (T : Tx K mg w) : Ok1 P w K mg base 1 "inside" ["text", "start", "end"] spInside := by
  refine T.d_inside.mk sc_inside bn_inside (fun vs H Q E h => ?_) (fun cdv A outer s H vs Q E hr h => ?_)
  · obtain ⟨x, a, b, r, rfl, _⟩ := h
    rfl
  · obtain ⟨x, a, b, r, rfl, hx, ha, hb, hr2, q⟩ := h
    refine ⟨_, pss_cons (ps_if (PW.pt (pw_or (pt_cmpR op_lt (pe_callB call_len (by rfl) T.z_len bt_len (pa_cons (pv 0) pa_nil)) (pe_op op_add (pe_callB call_len (by rfl) T.z_len bt_len (pa_cons (pv 1) pa_nil)) (pe_callB call_len (by rfl) T.z_len bt_len (pa_cons (pv 2) pa_nil))) (nomark _))
        (pw_or (pt_not (pt_val (pe_m1 F.slot_str_startswith F.type_str_startswith mt_startswith (pv 0) (pv 1))))
        (pw_or1 (pt_not (pt_val (pe_m1 F.slot_str_endswith F.type_str_endswith mt_endswith (pv 0) (pv 2))))))))
        (pss_one (ps_ret pe_non)) pss_nil)
      (pss_one (ps_ret (pe_slice sl_str (pv 0) (po_some (pe_callB call_len (by rfl) T.z_len bt_len (pa_cons (pv 1) pa_nil)))
        (po_some (pe_op op_sub (pe_callB call_len (by rfl) T.z_len bt_len (pa_cons (pv 0) pa_nil)) (pe_callB call_len (by rfl) T.z_len bt_len (pa_cons (pv 2) pa_nil))))))), ?_⟩
    have lx := small_line hx
    have la := small_line ha
    have lb := small_line hb
    have ex := len_tl x
    have ea := len_tl a
    have eb := len_tl b
    refine ⟨.str x, rfl, .str x, x.length, rfl, ⟨lx, rfl⟩, .str a, rfl, .str a, a.length, rfl, ⟨la, rfl⟩, .str b, rfl, .str b, b.length, rfl, ⟨lb, rfl⟩, _, _, rfl, rfl, _, _, rfl, rfl, _, rfl, ?_⟩
    by_cases h1 : a.length + b.length ≤ x.length
    · refine ifF (decide_eq_false (by omega)) ?_
      refine ⟨_, rfl, ⟨_, rfl⟩, _, rfl, x, a, rfl, rfl, _, rfl, ?_⟩
      rw [startswith_eq]
      by_cases h2 : (tl x).take (tl a).length = tl a
      · rw [h2, beq_self_eq_true]
        refine ifF rfl ?_
        refine ⟨_, rfl, ⟨_, rfl⟩, _, rfl, x, b, rfl, rfl, _, rfl, ?_⟩
        rw [endswith_eq, decide_eq_true (show (tl b).length ≤ (tl x).length by omega), Bool.true_and]
        by_cases h3 : (tl x).drop ((tl x).length - (tl b).length) = tl b
        · rw [h3, beq_self_eq_true]
          refine iteF ?_
          refine ⟨.str x, rfl, .str a, rfl, .str a, a.length, rfl, ⟨la, rfl⟩, _, rfl, .str x, rfl, .str x, x.length, rfl, ⟨lx, rfl⟩, .str b, rfl, .str b, b.length, rfl, ⟨lb, rfl⟩, _, _, rfl, rfl, _, rfl, x, rfl, lx, ?_⟩
          have e : insideL (tl x) (tl a) (tl b) = some (((tl x).drop (tl a).length).take ((tl x).length - (tl b).length - (tl a).length)) := if_pos ⟨by omega, h2, h3⟩
          rw [e] at hr2
          subst hr2
          have e2 : cutS x (some (a.length : Int)) (some ((x.length : Int) - (b.length : Int))) = mk (((tl x).drop (tl a).length).take ((tl x).length - (tl b).length - (tl a).length)) := by
            refine ext_tl ?_
            show ((tl x).drop (HT.sIx x.length 0 (some (a.length : Int)))).take (HT.sIx x.length x.length (some ((x.length : Int) - (b.length : Int))) - HT.sIx x.length 0 (some (a.length : Int))) = _
            rw [show (x.length : Int) - (b.length : Int) = ((x.length - b.length : Nat) : Int) by omega, HT.sIx_nat, HT.sIx_nat, Nat.min_eq_left (by omega), Nat.min_eq_left (by omega), ex, ea, eb]
            rfl
          show Q (.str (cutS x (some (a.length : Int)) (some ((x.length : Int) - (b.length : Int))))) H
          rw [e2]
          exact q
        · rw [beq_eq_false_iff_ne.mpr h3]
          refine iteT ?_
          have e : insideL (tl x) (tl a) (tl b) = none := insideL_end h3
          rw [e] at hr2
          subst hr2
          exact q
      · rw [beq_eq_false_iff_ne.mpr h2]
        refine ifT rfl ?_
        refine iteT ?_
        have e : insideL (tl x) (tl a) (tl b) = none := insideL_start h2
        rw [e] at hr2
        subst hr2
        exact q
    · refine ifT (decide_eq_true (by omega)) ?_
      refine iteT ?_
      have e : insideL (tl x) (tl a) (tl b) = none := if_neg fun z => h1 (by omega)
      rw [e] at hr2
      subst hr2
      exact q
def spDigitIn : Sp := fun vs H Q _ => ∃ (x : Str) (n : Nat) (lo : Int), vs = [.str x, .int lo] ∧ x = mk (dig n) ∧ n ≤ 9 ∧ lo ≤ n ∧ Q (.int n) H
theorem int_dig {n : Nat} (h : n ≤ 9) : PySem.intText? (mk (dig n)) = some (n : Int) := by
  match n, h with
  | 0, _ => decide +kernel
  | 1, _ => decide +kernel
  | 2, _ => decide +kernel
  | 3, _ => decide +kernel
  | 4, _ => decide +kernel
  | 5, _ => decide +kernel
  | 6, _ => decide +kernel
  | 7, _ => decide +kernel
  | 8, _ => decide +kernel
  | 9, _ => decide +kernel
theorem dig_mem {n : Nat} (h : n ≤ 9) : decide (48 + n ∈ (Str.ofString "0123456789").cps.toList) = true := by
  match n, h with
  | 0, _ => decide +kernel
  | 1, _ => decide +kernel
  | 2, _ => decide +kernel
  | 3, _ => decide +kernel
  | 4, _ => decide +kernel
  | 5, _ => decide +kernel
  | 6, _ => decide +kernel
  | 7, _ => decide +kernel
  | 8, _ => decide +kernel
  | 9, _ => decide +kernel
theorem ok_digit_in (T : Tx K mg w) : Ok1 P w K mg base 1 "digit_in" ["text", "least"] spDigitIn := by
  obtain ⟨tD, eD⟩ := T.s_DIGITS
  refine T.d_digit_in.mk sc_digit_in bn_digit_in (fun vs H Q E h => ?_) (fun cdv A outer s H vs Q E hr h => ?_)
  · obtain ⟨x, n, lo, rfl, _⟩ := h
    rfl
  · obtain ⟨x, n, lo, rfl, ex, hn, hlo, q⟩ := h
    refine ⟨_, pss_cons (ps_if (PW.pt (pw_or (pt_cmpR op_ne (pe_callB call_len (by rfl) T.z_len bt_len (pa_cons (pv 0) pa_nil)) pe_int (nomark _))
        (pw_or (pt_cmpR op_notIn_sign (pv 0) (pe_glob (v := .str "0123456789") (by rfl) eD ⟨_, rfl⟩) rfl)
        (pw_or1 (pt_cmpR op_lt (pe_callTy call_int_str (by rfl) T.z_int bt_int (pa_cons (pv 0) pa_nil)) (pv 1) (nomark _))))))
        (pss_one (ps_ret pe_non)) pss_nil)
      (pss_one (ps_ret (pe_callTy call_int_str (by rfl) T.z_int bt_int (pa_cons (pv 0) pa_nil)))), ?_⟩
    subst ex
    refine ⟨_, rfl, .str (mk (dig n)), 1, rfl, ⟨(by show 1 ≤ sizeLine; decide), rfl⟩, rfl, _, rfl, ?_⟩
    refine ifF (by decide +kernel) ?_
    refine ⟨_, rfl, 48 + n, _, rfl, rfl, _, rfl, ?_⟩
    refine ifF (by show (!decide (48 + n ∈ (Str.ofString "0123456789").cps.toList)) = false; rw [dig_mem hn]; rfl) ?_
    refine ⟨_, rfl, mk (dig n), n, rfl, int_dig hn, (by show 1 ≤ 640; decide), _, rfl, _, _, rfl, rfl, _, rfl, ?_⟩
    refine ifF (decide_eq_false (by omega)) ?_
    exact ⟨_, rfl, mk (dig n), n, rfl, int_dig hn, (by show 1 ≤ 640; decide), q⟩
def kdB (b : Bool) : Kd := if b = true then .drop else .keep
def spCond (K : PySem.W.Frag) : Sp := fun vs H Q _ => ∃ (c : Bool × List Nm), vs = [.str (mk (condL c))] ∧ TestOk c.2 ∧ ∀ H' p a, Same H H' → SqT K H' p [.str (if c.1 = true then "drop" else "keep"), .ref a] → SqT K H' a (c.2.map fun n => V.str (mk n)) → Q (.ref p) H'
theorem condL_len {c : Bool × List Nm} (h : TestOk c.2) : (condL c).length ≤ 40 := by
  have h1 := appl_len h.1 [120]
  have h2 := h.2.2
  have h3 : (neg c.1).length ≤ 4 := by
    unfold neg
    split <;> decide +kernel
  unfold condL
  rw [List.length_append]
  simp only [List.length_cons, List.length_nil] at h1
  omega
theorem not_inside {c : Bool × List Nm} (h : TestOk c.2) : insideL (condL c) (L "not ") [] = if c.1 = true then some (appl c.2 [120]) else none := by
  obtain ⟨b, t⟩ := c
  cases b with
  | true => exact ins_front rfl
  | false => exact ins_none_mem (c := 32) (by decide +kernel) (appl_free h.1 (by omega))
theorem ok_condition_in (T : Tx K mg w) : Ok1 P w K mg base 4 "condition_in" ["text"] (spCond K) := by
  refine T.d_condition_in.mk sc_condition_in bn_condition_in (fun vs H Q E h => ?_) (fun cdv A outer s H vs Q E hr h => ?_)
  · obtain ⟨c, rfl, _⟩ := h
    rfl
  · obtain ⟨c, rfl, ht, q⟩ := h
    refine ⟨_, pss_cons (ps_set (i := 1) sc_condition_in.nd rfl (.inl rfl) (pe_g (ok_inside T) (hr.mono (by decide)) (pa_cons (pv 0) (pa_cons pe_str (pa_cons pe_str pa_nil)))))
      (pss_cons (ps_set (i := 2) sc_condition_in.nd rfl (.inl rfl) (pe_g (ok_names_in T) hr (pa_cons (pe_ifExp (pt_cmpR op_isN (pv 1) pe_non (nomark _)) (pv 0) (pv 1)) pa_nil)))
      (pss_cons (ps_if (PW.pt (pw_or (pt_cmpR op_isN (pv 2) pe_non (nomark _)) (pw_or1 (pt_not (pt_val (pe_g (ok_is_test T) hr (pa_cons (pv 2) pa_nil))))))) (pss_one (ps_ret pe_non)) pss_nil)
      (pss_one (ps_ret (pe_tup (pa_cons (pe_ifExp (pt_cmpR op_isN (pv 1) pe_non (nomark _)) pe_str pe_str) (pa_cons (pv 2) pa_nil))))))), ?_⟩
    have mid : ∀ H1 (a : Addr), Same H H1 → SqT K H1 a (c.2.map fun n => V.str (mk n)) → ∃ (a' : Addr) (xs : List Str), [V.ref a] = [.ref a'] ∧ SqT K H1 a' (xs.map V.str) ∧ small xs ∧ xs.length ≤ 1000 ∧ areNames xs 1 4 = true ∧ xs = c.2.map mk := fun H1 a _ hS =>
      ⟨a, c.2.map mk, rfl, by rw [← strs_mk]; exact hS, small_mk ht.1, by rw [List.length_map]; have := ht.2.2; omega, areNames_mk ht.1 ht.2.1 ht.2.2, rfl⟩
    have hz : (mk (condL c)).length ≤ 1000 := by rw [len_mk]; have := condL_len ht; omega
    have hi := not_inside ht
    cases hc : c.1 with
    | true =>
      rw [hc] at hi
      refine ⟨_, rfl, mk (condL c), "not ", "", some (appl c.2 [120]), rfl, hz, by decide +kernel, by decide +kernel, hi, ?_⟩
      refine ⟨_, rfl, rfl, _, rfl, ?_⟩
      refine ifF rfl ⟨_, rfl, c.2, rfl, ht.1, ht.2.2, fun H1 a sm hS => ?_⟩
      refine ⟨_, rfl, rfl, _, rfl, ?_⟩
      refine ifF rfl ?_
      obtain ⟨a', xs, e0, m1, m2, m3, m4, _⟩ := mid H1 a sm hS
      refine ⟨_, rfl, a', xs, e0, m1, m2, m3, fun H2 sm2 => ?_⟩
      rw [m4]
      refine ⟨_, rfl, ?_⟩
      refine iteF ?_
      refine ⟨_, rfl, rfl, _, rfl, ?_⟩
      refine ifF rfl ⟨_, rfl, (by show 2 ≤ sizeLine; decide), fun p np => ?_⟩
      refine q _ p a ((sm.trans sm2).trans (same_new np)) (SqT.of ?_) (same_seqT (sm2.trans (same_new np)) hS)
      rw [upd_same, hc]; rfl
    | false =>
      rw [hc] at hi
      refine ⟨_, rfl, mk (condL c), "not ", "", none, rfl, hz, by decide +kernel, by decide +kernel, hi, ?_⟩
      refine ⟨_, rfl, rfl, _, rfl, ?_⟩
      refine ifT rfl ⟨_, rfl, c.2, by unfold condL; rw [hc]; rfl, ht.1, ht.2.2, fun H1 a sm hS => ?_⟩
      refine ⟨_, rfl, rfl, _, rfl, ?_⟩
      refine ifF rfl ?_
      obtain ⟨a', xs, e0, m1, m2, m3, m4, _⟩ := mid H1 a sm hS
      refine ⟨_, rfl, a', xs, e0, m1, m2, m3, fun H2 sm2 => ?_⟩
      rw [m4]
      refine ⟨_, rfl, ?_⟩
      refine iteF ?_
      refine ⟨_, rfl, rfl, _, rfl, ?_⟩
      refine ifT rfl ⟨_, rfl, (by show 2 ≤ sizeLine; decide), fun p np => ?_⟩
      refine q _ p a ((sm.trans sm2).trans (same_new np)) (SqT.of ?_) (same_seqT (sm2.trans (same_new np)) hS)
      rw [upd_same, hc]; rfl
end
end K

set_option Elab.async false
set_option linter.all false
set_option maxRecDepth 100000
set_option maxHeartbeats 4000000
/-! KH2: all but lists stays; comprehensions whose turns make things. -/
namespace K
open PySem PySem.Spec PyProof.Rows L2 He TL
/-- all but what is a list stays -/
def SmL (H H' : Hp) : Prop := ∀ b o, H b = some o → (∀ xs, o ≠ .lst xs) → H' b = some o
theorem SmL.refl (H : Hp) : SmL H H := fun _ _ e _ => e
theorem SmL.trans {H H1 H2 : Hp} (a : SmL H H1) (b : SmL H1 H2) : SmL H H2 := fun c o e n => b c o (a c o e n) n
theorem SmL.of {H H1 : Hp} (a : Same H H1) : SmL H H1 := fun c o e _ => a c o e
theorem SmL.put {H : Hp} {D : Addr} {xs ys : List V} (e : H D = some (.lst xs)) : SmL H (upd H D (.lst ys)) := fun b o eb n => by
  have nb : b ≠ D := fun z => by rw [z, e] at eb; exact n _ (Option.some.inj eb).symm
  rw [upd_ne nb]; exact eb
theorem SmL.seqT {K : PySem.W.Frag} {H H' : Hp} {a : Addr} {xs : List V} (e : SmL H H') (h : SqT K H a xs) : SqT K H' a xs := by
  rcases h with (h | ⟨o, h⟩) | h
  · exact .inl (.inl (e _ _ h (fun _ z => by cases z)))
  · exact .inl (.inr ⟨o, e _ _ h (fun _ z => by cases z)⟩)
  · exact .inr h
theorem SmL.det {K : PySem.W.Frag} {H H' : Hp} {v : V} (e : SmL H H') : ∀ {sg : SgL}, DetAt K H sg v → DetAt K H' sg v
  | .each _ _, ⟨a, h1, h2⟩ => ⟨a, h1, e.seqT h2⟩
  | .ask _ _ _, ⟨a, h1, h2⟩ => ⟨a, h1, e.seqT h2⟩
  | .every _ _ _, ⟨a, h1, h2⟩ => ⟨a, h1, e.seqT h2⟩
  | .first _ _, h => h
  | .skip _ _, h => h
  | .last _, h => h
  | .but _, h => h
  | .turned, h => h
theorem SmL.stage {K : PySem.W.Frag} {H H' : Hp} {x : Addr} {sg : SgL} {v : V} (e : SmL H H') (h : StageV K H x sg v) : StageV K H' x sg v := by
  obtain ⟨dx, t, h1, h2, h3⟩ := h
  exact ⟨dx, t, e _ _ h1 (fun _ z => by cases z), e.seqT h2, e.det h3⟩
/-- the items of a list, one by one -/
def Ats (Rl : Nat → Hp → V → Prop) (H : Hp) (ys : List V) : Prop := ∀ i y, ys[i]? = some y → Rl i H y
theorem lc_same {J : It} {n : Nat} {G : Hp → Prop} {Y : Nat → Hp → V → Hp → Prop} (w : Walk J n G Y) {g : TG} {tt : TT} {te : TE} {vs : List Nat} {σ : L2.St} {H1 : Hp} {D : Addr} {Qd : Hp → Prop} (Rl : Nat → Hp → V → Prop)
    (mono : ∀ i H H' y, SmL H H' → Rl i H y → Rl i H' y) (hz : n < sizeLine) (nD : H1 D = none)
    (hG : ∀ H, Same H1 H → G H)
    (hs : ∀ i x H H' (R : V → Hp → Prop) (N : Hp → Prop), i < n → Same H1 H → Y i H x H' → (∀ y H4, Same H H4 → Rl i H4 y → R y H4) →
      g x (wipe σ vs) H' fun σ2 H2 => wipe σ2 vs = wipe σ vs ∧ tt σ2 H2 fun b H3 => if b = true then te σ2 H3 R else N H3)
    (hd : ∀ H ys, Same H1 H → H D = some (.lst ys) → ys.length = n → Ats Rl H ys → Qd H) :
    ∃ W : Nat → Nat → Hp → Prop, (∃ m, W 0 m (upd H1 D (.lst []))) ∧ ∀ i m H, W i m H →
      (J.stop i H ∧ Qd H) ∨ (J.go i H ∧ ∃ Nx : Hp → Prop, (∀ H', Nx H' → ∃ m', m' < m ∧ W (i + 1) m' H') ∧ ∀ x H', J.yld i H x H' → g x (wipe σ vs) H' fun σ2 H2 => wipe σ2 vs = wipe σ vs ∧ tt σ2 H2 fun b H3 =>
        if b = true then te σ2 H3 fun y H4 => ∃ acc, H4 D = some (.lst acc) ∧ acc.length < sizeLine ∧ Nx (upd H4 D (.lst (acc ++ [y]))) else Nx H3) := by
  refine lc_it w (fun i H => Same H1 H ∧ ∃ acc, H D = some (.lst acc) ∧ acc.length = i ∧ Ats Rl H acc) ⟨same_new nD, [], upd_same, rfl, fun i y h => by simp at h⟩ (fun i H _ p => hG H p.1) (fun i x H H' hi p y => ?_) (fun H p => ?_)
  · obtain ⟨p1, acc, p2, p3, p4⟩ := p
    refine hs i x H H' _ _ hi p1 y fun v H4 sm ey => ?_
    have hD4 := sm _ _ p2
    refine ⟨acc, hD4, by omega, fun b o e => ?_, acc ++ [v], upd_same, by simp [p3], fun j z hj => ?_⟩
    · rw [upd_ne (ne_of_none e nD)]
      exact sm _ _ (p1 _ _ e)
    · have sl : SmL H4 (upd H4 D (.lst (acc ++ [v]))) := SmL.put hD4
      by_cases hlt : j < acc.length
      · rw [List.getElem?_append_left hlt] at hj
        exact mono _ _ _ _ ((SmL.of sm).trans sl) (p4 j z hj)
      · rw [List.getElem?_append_right (by omega)] at hj
        have e0 : j - acc.length = 0 := by
          cases hjj : j - acc.length with
          | zero => rfl
          | succ k => rw [hjj] at hj; simp at hj
        rw [e0] at hj
        cases hj
        have : j = i := by omega
        subst this
        exact mono _ _ _ _ sl ey
  · obtain ⟨p1, acc, p2, p3, p4⟩ := p
    exact hd H acc p1 p2 p3 p4
/-- a stage to come and its pair -/
def PairV (K : PySem.W.Frag) (H : Hp) (y : V) (f : Bool → SgL) : Prop := ∃ p v, y = .ref p ∧ SqT K H p [.str (kindS (f false)), v] ∧ DetAt K H (f false) v
theorem PairV.sml {K : PySem.W.Frag} {H H' : Hp} {y : V} {f : Bool → SgL} (e : SmL H H') : PairV K H y f → PairV K H' y f := fun ⟨p, v, h1, h2, h3⟩ => ⟨p, v, h1, e.seqT h2, e.det h3⟩
/-- a list of stages stands in a list of values -/
def Sts (K : PySem.W.Frag) (H : Hp) (xs : List V) (sgs : List SgL) : Prop := xs.length = sgs.length ∧ ∀ (i : Nat) (y : V) (sg : SgL), xs[i]? = some y → sgs[i]? = some sg → ∃ x v, y = .ref x ∧ StageV K H x sg v
theorem Sts.sml {K : PySem.W.Frag} {H H' : Hp} {xs : List V} {sgs : List SgL} (e : SmL H H') (h : Sts K H xs sgs) : Sts K H' xs sgs :=
  ⟨h.1, fun i y sg h1 h2 => let ⟨x, v, a, b⟩ := h.2 i y sg h1 h2; ⟨x, v, a, e.stage b⟩⟩
theorem Sts.one {K : PySem.W.Frag} {H : Hp} {x : Addr} {sg : SgL} {v : V} (h : StageV K H x sg v) : Sts K H [.ref x] [sg] := ⟨rfl, fun i y s h1 h2 => by
  match i with
  | 0 => cases h1; cases h2; exact ⟨x, v, rfl, h⟩
  | i + 1 => simp at h1⟩
theorem Sts.append {K : PySem.W.Frag} {H : Hp} {xs ys : List V} {a b : List SgL} (h1 : Sts K H xs a) (h2 : Sts K H ys b) : Sts K H (xs ++ ys) (a ++ b) := by
  refine ⟨by simp [h1.1, h2.1], fun i y sg e1 e2 => ?_⟩
  have hl := h1.1
  by_cases hi : i < xs.length
  · rw [List.getElem?_append_left hi] at e1
    rw [List.getElem?_append_left (by omega)] at e2
    exact h1.2 i y sg e1 e2
  · rw [List.getElem?_append_right (by omega)] at e1
    rw [List.getElem?_append_right (by omega), ← hl] at e2
    exact h2.2 _ y sg e1 e2
theorem bear_at (now : Bool) : ∀ (fs : List (Bool → SgL)) (i : Nat), (bear now fs)[i]? = fs[i]?.map fun f => f (now && decide (i + 1 = fs.length))
  | [], i => by simp [bear]
  | [f], i => by
    cases i with
    | zero => simp [bear]
    | succ i => simp [bear]
  | f :: g :: r, i => by
    cases i with
    | zero => simp [bear]
    | succ i =>
      have ih := bear_at now (g :: r) i
      rw [show bear now (f :: g :: r) = f false :: bear now (g :: r) from rfl, List.getElem?_cons_succ, List.getElem?_cons_succ, ih]
      simp
theorem bear_len (now : Bool) : ∀ fs : List (Bool → SgL), (bear now fs).length = fs.length
  | [] => rfl
  | [f] => rfl
  | f :: g :: r => by
    rw [show bear now (f :: g :: r) = f false :: bear now (g :: r) from rfl, List.length_cons, bear_len now (g :: r)]; rfl
/-- a stage to come that is a condition or a word -/
structure FOk (f : Bool → SgL) : Prop where
  kd : ∀ b, kindS (f b) = kindS (f false)
  det : ∀ b K H v, DetAt K H (f false) v → DetAt K H (f b) v
  ok : ∀ b, SgOk (f b)
  now : ∀ b, (f b).now = b
  lst : ∀ b, (f b).isList = false
theorem fok_cond {c : Bool × List Nm} (h : TestOk c.2) : FOk fun b => Sg.ask (if c.1 = true then Kd.drop else Kd.keep) c.2 b := by
  obtain ⟨x, t⟩ := c
  cases x <;> exact ⟨fun _ => rfl, fun _ _ _ _ z => z, fun _ => h, fun _ => rfl, fun _ => rfl⟩
theorem fok_word {w : List Nm} (h : NamesL w) (h3 : w.length ≤ 3) : FOk fun b => Sg.each w b := ⟨fun _ => rfl, fun _ _ _ _ z => z, fun _ => ⟨h, h3⟩, fun _ => rfl, fun _ => rfl⟩
theorem compSg_ok {w : List Nm} {cs : List (Bool × List Nm)} (h : NamesL w) (h3 : w.length ≤ 3) (hc : ∀ c ∈ cs, TestOk c.2) : ∀ f ∈ compSg w cs, FOk f := fun f hf => by
  unfold compSg at hf
  rcases List.mem_append.mp hf with q | q
  · obtain ⟨c, hc2, rfl⟩ := List.mem_map.mp q
    exact fok_cond (hc c hc2)
  · split at q
    · simp at q
    · rw [List.mem_singleton.mp q]
      exact fok_word h h3
end K

set_option Elab.async false
set_option linter.all false
set_option maxRecDepth 100000
set_option maxHeartbeats 4000000
/-! KF6: callflows.reading: comprehension_in. -/
namespace K
open PySem PySem.Spec PyProof.Rows L2 He TL
theorem Room.u65 {k : Nat} {A : Around} (r : Room k A) : A.units + 65 < cLine := by have := r.un; omega
/-! ### data -/
def nmD (ns : List Nm) : PyData := .tuple (ns.map fun n => .str (mk n))
def cdD (f : Bool → SgL) : PyData := match f false with
  | .each w _ => .tuple [.str "each", nmD w]
  | .ask _ t _ => .tuple [.str (kindS (f false)), nmD t]
  | _ => .none
theorem nm_strOk {n : Nm} (h : isNameL n = true) : PyData.strOk (mk n) = true := by
  show (mk n).cps.all (· < 0x110000) = true
  rw [← Array.all_toList, List.all_eq_true]
  intro c hc
  rcases name_sign h hc with q | q <;> exact decide_eq_true (by omega)
theorem nmD_lay {ns : List Nm} (h : NamesL ns) : (nmD ns).canLay0 = true ∧ (nmD ns).depth ≤ 1 := by
  have a : ∀ l : List Nm, (∀ n ∈ l, isNameL n = true) → PyData.canLayAll0 (l.map fun n => .str (mk n)) = true ∧ PyData.depthAll (l.map fun n => .str (mk n)) = 0 := by
    intro l
    induction l with
    | nil => intro _; exact ⟨rfl, rfl⟩
    | cons n l ih =>
      intro hl
      obtain ⟨i1, i2⟩ := ih fun m hm => hl m (List.mem_cons_of_mem _ hm)
      refine ⟨?_, ?_⟩
      · show ((PyData.str (mk n)).canLay0 && PyData.canLayAll0 (l.map fun n => .str (mk n))) = true
        rw [i1, Bool.and_true]
        exact nm_strOk (hl n List.mem_cons_self)
      · show max (PyData.str (mk n)).depth (PyData.depthAll (l.map fun n => .str (mk n))) = 0
        rw [i2]; rfl
  obtain ⟨i1, i2⟩ := a ns h
  exact ⟨i1, by show PyData.depthAll _ + 1 ≤ 1; rw [i2]; exact Nat.le_refl _⟩
theorem DpAll_strs {K : PySem.W.Frag} {H : Hp} : ∀ xs : List Str, DpAll K H (xs.map V.str) (xs.map PyData.str)
  | [] => .nil
  | x :: xs => .cons (.str x) (DpAll_strs xs)
theorem Dp_names {K : PySem.W.Frag} {H : Hp} {a : Addr} {ns : List Nm} (h : SqT K H a (ns.map fun n => V.str (mk n))) : Dp K H (.ref a) (nmD ns) := by
  refine .tup h ?_
  have := DpAll_strs (K := K) (H := H) (ns.map mk)
  rw [List.map_map, List.map_map] at this
  exact this
/-- a condition or a word, as data -/
def cwD (k : Str) (ns : List Nm) : PyData := .tuple [.str k, nmD ns]
theorem cwD_lay {k : Str} {ns : List Nm} (hk : PyData.strOk k = true) (h : NamesL ns) : (cwD k ns).canLay0 = true ∧ (cwD k ns).depth ≤ 2 := by
  obtain ⟨h1, h2⟩ := nmD_lay h
  refine ⟨?_, ?_⟩
  · show (PyData.strOk k && ((nmD ns).canLay0 && true)) = true
    rw [hk, h1]; rfl
  · show max 0 (max (nmD ns).depth 0) + 1 ≤ 2
    omega
def kdC (c : Bool × List Nm) : Str := if c.1 = true then "drop" else "keep"
theorem kdC_ok (c : Bool × List Nm) : PyData.strOk (kdC c) = true := by
  obtain ⟨b, t⟩ := c
  cases b
  · exact (by decide +kernel : PyData.strOk (Str.ofString "keep") = true)
  · exact (by decide +kernel : PyData.strOk (Str.ofString "drop") = true)
theorem cds_lay : ∀ {cs : List (Bool × List Nm)}, (∀ c ∈ cs, TestOk c.2) → PyData.canLayAll0 (cs.map fun c => cwD (kdC c) c.2) = true ∧ PyData.depthAll (cs.map fun c => cwD (kdC c) c.2) ≤ 2 := by
  intro cs
  induction cs with
  | nil => intro _; exact ⟨rfl, Nat.zero_le _⟩
  | cons c cs ih =>
    intro h
    obtain ⟨i1, i2⟩ := ih fun d hd => h d (List.mem_cons_of_mem _ hd)
    obtain ⟨j1, j2⟩ := cwD_lay (kdC_ok c) (h c List.mem_cons_self).1
    refine ⟨?_, ?_⟩
    · show ((cwD (kdC c) c.2).canLay0 && PyData.canLayAll0 (cs.map fun c => cwD (kdC c) c.2)) = true
      rw [i1, j1]; rfl
    · show max (cwD (kdC c) c.2).depth (PyData.depthAll (cs.map fun c => cwD (kdC c) c.2)) ≤ 2
      omega
theorem shaped_of {d : PyData} (h1 : d.canLay0 = true) (h2 : d.depth ≤ 64) : SeqAt.shaped d = true := by
  unfold SeqAt.shaped
  rw [h1, decide_eq_true h2]; rfl
theorem none_cds (cs : List (Bool × List Nm)) : ((cs.map fun c => cwD (kdC c) c.2).any fun z => PyData.eqv z .none) = false := by
  rw [List.any_map]
  simp only [List.any_eq_false]
  intro c _
  exact Bool.false_ne_true
/-- the conditions that were read -/
def CondV (K : PySem.W.Frag) (H : Hp) (y : V) (c : Bool × List Nm) : Prop := ∃ p a, y = .ref p ∧ SqT K H p [.str (kdC c), .ref a] ∧ SqT K H a (c.2.map fun n => V.str (mk n))
theorem CondV.sml {K : PySem.W.Frag} {H H' : Hp} {y : V} {c : Bool × List Nm} (e : SmL H H') : CondV K H y c → CondV K H' y c := fun ⟨p, a, h1, h2, h3⟩ => ⟨p, a, h1, e.seqT h2, e.seqT h3⟩
theorem CondV.dp {K : PySem.W.Frag} {H : Hp} {y : V} {c : Bool × List Nm} : CondV K H y c → Dp K H y (cwD (kdC c) c.2) := fun ⟨p, a, h1, h2, h3⟩ => by
  subst h1
  exact .tup h2 (.cons (.str _) (.cons (Dp_names h3) .nil))
theorem DpAll_conds {K : PySem.W.Frag} {H : Hp} : ∀ {ys : List V} {cs : List (Bool × List Nm)}, ys.length = cs.length → (∀ (i : Nat) (y : V) (c : Bool × List Nm), ys[i]? = some y → cs[i]? = some c → CondV K H y c) → DpAll K H ys (cs.map fun c => cwD (kdC c) c.2)
  | [], [], _, _ => .nil
  | y :: ys, c :: cs, hl, h => .cons (h 0 y c rfl rfl).dp (DpAll_conds (by simpa using hl) fun i y c h1 h2 => h (i + 1) y c h1 h2)
  | [], _ :: _, hl, _ => by simp at hl
  | _ :: _, [], hl, _ => by simp at hl
theorem CondV.pair {K : PySem.W.Frag} {H : Hp} {y : V} {c : Bool × List Nm} : CondV K H y c → PairV K H y fun b => Sg.ask (if c.1 = true then Kd.drop else Kd.keep) c.2 b := fun ⟨p, a, h1, h2, h3⟩ => by
  obtain ⟨b, t⟩ := c
  cases b
  · exact ⟨p, .ref a, h1, h2, a, rfl, h3⟩
  · exact ⟨p, .ref a, h1, h2, a, rfl, h3⟩
theorem condsL_len : ∀ {cs : List (Bool × List Nm)}, (∀ c ∈ cs, TestOk c.2) → (condsL cs).length ≤ 44 * cs.length
  | [], _ => Nat.le_refl _
  | c :: cs, h => by
    have ih := condsL_len (cs := cs) fun d hd => h d (List.mem_cons_of_mem _ hd)
    have h1 := condL_len (h c List.mem_cons_self)
    have e : condsL (c :: cs) = L " if " ++ (condL c ++ condsL cs) := by simp [condsL]
    have e4 : (L " if ").length = 4 := by decide +kernel
    rw [e, List.length_append, List.length_append, List.length_cons, e4]
    omega
theorem compL_len {w : List Nm} {cs : List (Bool × List Nm)} (h : NamesL w) (h3 : w.length ≤ 3) (h4 : cs.length ≤ 3) (hc : ∀ c ∈ cs, TestOk c.2) : (compL w cs).length ≤ 200 := by
  have h1 := appl_len h [120]
  have h2 := condsL_len hc
  have e4 : (L " for x in rows").length = 14 := by decide +kernel
  unfold compL
  rw [List.length_append, List.length_append, e4]
  simp only [List.length_cons, List.length_nil] at h1
  omega
section
variable {P : Program} {w : World} {K : PySem.W.Frag} {mg : Str → Option Value} {base : Heap}
def spStages (K : PySem.W.Frag) (H : Hp) (Q : VK) (sgs : List SgL) : Prop := ∀ H' p xs, Same H H' → SqT K H' p xs → Sts K H' xs sgs → Q (.ref p) H'
def spComp (K : PySem.W.Frag) : Sp := fun vs H Q _ => ∃ (wd : List Nm) (cs : List (Bool × List Nm)) (now : Bool), vs = [.str (mk (compL wd cs)), .bl now] ∧ LnOk (.comp wd cs now) ∧ spStages K H Q (bear now (compSg wd cs))
theorem ok_comprehension_in (T : Tx K mg w) : Ok1 P w K mg base 7 "comprehension_in" ["text", "now"] (spComp K) := by
  obtain ⟨tL, eL⟩ := T.s_LOOP
  obtain ⟨tM, eM⟩ := T.i_MOST_CONDITIONS
  have nd := sc_comprehension_in.nd
  refine T.d_comprehension_in.mk sc_comprehension_in bn_comprehension_in (fun vs H Q E h => ?_) (fun cdv A outer s H vs Q E hr h => ?_)
  · obtain ⟨wd, cs, now, rfl, _⟩ := h
    rfl
  · obtain ⟨wd, cs, now, rfl, ⟨hw, hw3, hc3, hc⟩, q⟩ := h
    have lay := nmD_lay hw
    have hS2 := compSg_ok hw hw3 hc
    have hln : (compSg wd cs).length ≤ 4 := by
      unfold compSg
      rw [List.length_append, List.length_map]
      split
      · simp; omega
      · simp; omega
    have hlp : 1 ≤ (compSg wd cs).length := by
      unfold compSg
      rw [List.length_append, List.length_map]
      split
      · rename_i z
        have := List.length_pos_iff.mpr z.2
        simp; omega
      · simp
    obtain ⟨t2, hT, hq⟩ : ∃ t2, PSs (cxOf CX0 P w K mg base ["text", "now", "head", "loop", "tail", "word", "pieces", "found", "last", "piece", "index", "kind", "detail"] "comprehension_in" (defScope s_comprehension_in) (ga K "comprehension_in") cdv A outer s H E).nox ((defBody s_comprehension_in).drop 7) t2 ∧
        ∀ (v0 v2 v3 v4 v5 v6 : V) (D : Addr) (L7 : List V) (H4 : Hp), Same H H4 → H4 D = some (.lst L7) → L7.length = (compSg wd cs).length → (∀ (i : Nat) (y : V) (f : Bool → SgL), L7[i]? = some y → (compSg wd cs)[i]? = some f → PairV K H4 y f) →
          t2 { nx := fun _ H' => Q .non H', rt := Q } [some v0, some (.bl now), some v2, some v3, some v4, some v5, some v6, some (.ref D), none, none, none, none, none] H4 := by
      refine ⟨_, (pss_cons (ps_set (i := 8) nd rfl (.inr rfl) (pe_op op_sub (pe_callB call_len (by rfl) T.z_len bt_len (pa_cons (pv 7) pa_nil)) pe_int))
      (pss_one (ps_ret (pe_callTy call_tuple_of (by rfl) T.z_tuple bt_tuple (pa_cons
        (pe_lc (own := [("index", 10), ("kind", 11), ("detail", 12)]) (g := gTup K 2 (gCons (gName 10) (gCons (gTup K 2 (gCons (gName 11) (gCons (gName 12) gNil))) gNil))) (tt := tYes) rfl nd (pi_enum (by rfl) T.z_enumerate (pa_cons (pv 7) pa_nil)) (blkOk_by (N := ["text", "now", "head", "loop", "tail", "word", "pieces", "found", "last", "piece", "index", "kind", "detail"]) (sc := defScope s_comprehension_in) (by decide +kernel))
          (fun _ _ _ _ _ => pg_tup (by rfl) (pgs_cons (pg_name (i := 10) nd rfl (Or.inl rfl)) (pgs_cons (pg_tup (by rfl) (pgs_cons (pg_name (i := 11) nd rfl (Or.inl rfl)) (pgs_cons (pg_name (i := 12) nd rfl (Or.inl rfl)) pgs_nil))) pgs_nil)))
          (fun _ _ _ _ _ => pts_nil)
          (fun _ _ _ _ _ => pe_stK T hr (pa_cons (pv 11) (pa_cons (pv 12) pa_nil)) (pk_cons (pe_and (pv 1) (pe_one (pe_cmpR op_eq (pv 10) (pv 8) (nomark _)))) pk_nil))) pa_nil))))), fun v0 v2 v3 v4 v5 v6 D L7 H4 sm hD hl hp => ?_⟩
      refine ⟨_, rfl, .ref D, L7.length, rfl, .inl ⟨L7, SqL.of hD, rfl⟩, _, _, rfl, rfl, ?_⟩
      refine ⟨_, rfl, D, L7, rfl, SqL.of hD, fun D2 nD2 => ?_⟩
      refine lc_same (walk_enum (xs := L7)) (fun i H y => ∃ x f v, y = .ref x ∧ (compSg wd cs)[i]? = some f ∧ StageV K H x (f (now && decide (i + 1 = (compSg wd cs).length))) v) (fun i H H' y e ⟨x, f, v, h1, h2, h3⟩ => ⟨x, f, v, h1, h2, e.stage h3⟩) (small1000 (by omega)) nD2 (fun H5 s5 => SqL.of (s5 _ _ hD)) (fun i x H5 H6 R N hi s5 hy hR => ?_) (fun H5 ys s5 hD2 hly hat => ?_)
      · obtain ⟨Tp, iv, y, rfl, nT, rfl, e1, e2⟩ := hy
        cases e1
        obtain ⟨f, hf⟩ : ∃ f, (compSg wd cs)[i]? = some f := ⟨_, List.getElem?_eq_getElem (by omega)⟩
        obtain ⟨p, v, rfl, h2, h3⟩ := hp i y f e2 hf
        have F := hS2 f (List.mem_of_getElem? hf)
        have sT := same_new (o := .tup [.int (i : Nat), .ref p]) nT
        refine ⟨Tp, _, rfl, SqT.of upd_same, rfl, _, _, rfl, _, _, rfl, ?_⟩
        refine ⟨p, _, rfl, same_seqT (s5.trans sT) h2, rfl, _, _, rfl, _, _, rfl, rfl, rfl, rfl, ?_⟩
        refine yes_if ?_
        have go : ∀ b', b' = (now && decide (i + 1 = (compSg wd cs).length)) → StMk K (.str (kindS (f false))) v b' (upd H5 Tp (.tup [.int (i : Nat), .ref p])) R := fun b' hb => by
          refine ⟨f b', by rw [F.kd b'], F.det _ _ _ _ (h3.same (s5.trans sT)), F.ok _, by rw [F.now, F.lst, Bool.or_false], fun H' x sx sv => ?_⟩
          refine hR _ _ (sT.trans sx) ⟨x, f, v, rfl, hf, ?_⟩
          rw [← hb]; exact sv
        refine ⟨_, rfl, _, rfl, .bl now, rfl, now, rfl, ?_⟩
        cases now with
        | true =>
          refine iteT ⟨_, rfl, _, rfl, rfl, ?_⟩
          refine ⟨rfl, rfl, StMk.mk' (go _ ?_)⟩
          rw [Bool.true_and]
          refine decide_eq_decide.mpr ⟨fun z => ?_, fun z => ?_⟩
          · injection z with z
            omega
          · show V.int (i : Nat) = V.int ((L7.length : Int) - 1)
            congr 1
            omega
        | false =>
          refine iteF ⟨rfl, rfl, StMk.mk' (go _ ?_)⟩
          rfl
      · refine ⟨D2, ys, rfl, .inl ⟨SqL.of hD2, fun p np => ?_⟩⟩
        refine q _ p ys ((sm.trans s5).trans (same_new np)) (SqT.of upd_same) (Sts.sml (SmL.of (same_new np)) ⟨by rw [hly, bear_len]; omega, fun i y sg e1 e2 => ?_⟩)
        obtain ⟨x, f, v, rfl, hf, sv⟩ := hat i y e1
        rw [bear_at, hf] at e2
        cases e2
        exact ⟨x, v, rfl, sv⟩
    refine ⟨_, pss_cons (ps_asg (pe_partition (pv 0) (pe_glob (v := .str " for x in rows") (by rfl) eL ⟨_, rfl⟩)) (pg_tup (by rfl) (pgs_cons (pg_name (i := 2) nd rfl (.inl rfl)) (pgs_cons (pg_name (i := 3) nd rfl (.inl rfl)) (pgs_cons (pg_name (i := 4) nd rfl (.inl rfl)) pgs_nil)))))
      (pss_cons (ps_set (i := 5) nd rfl (.inl rfl) (pe_g (ok_names_in T) (hr.mono (by decide)) (pa_cons (pv 2) pa_nil)))
      (pss_cons (ps_set (i := 6) nd rfl (.inl rfl) (pe_split (pv 4) pe_str))
      (pss_cons (ps_if (PW.pt (pw_or (pt_cmpR op_eq (pv 3) pe_str (nomark _)) (pw_or (pt_cmpR op_isN (pv 5) pe_non (nomark _)) (pw_or (pt_not (pt_val (pe_g (ok_is_word T) (hr.mono (by decide)) (pa_cons (pv 5) pa_nil))))
          (pw_or (pt_cmpR op_ne (pe_ix ix_list (pv 6) pe_int (fun _ _ => rfl)) pe_str (nomark _)) (pw_or1 (pt_cmpR op_gt (pe_callB call_len (by rfl) T.z_len bt_len (pa_cons (pv 6) pa_nil)) (pe_op op_add pe_int (pe_glob (v := .int 3) (by rfl) eM ⟨_, rfl⟩)) (nomark _))))))))
          pss_never pss_nil)
      (pss_cons (ps_setLc (i := 7) (own := [("piece", 9)]) (g := gName 9) (tt := tYes) rfl nd rfl rfl (sw_true rfl rfl rfl (by decide +kernel)) (pi_list (pe_slice sl_list (pv 6) (po_some pe_int) po_none)) (blkOk_by (N := ["text", "now", "head", "loop", "tail", "word", "pieces", "found", "last", "piece", "index", "kind", "detail"]) (sc := defScope s_comprehension_in) (by decide +kernel))
          (fun _ _ _ _ _ => pg_name (i := 9) nd rfl (Or.inl rfl)) (fun _ _ _ _ _ => pts_nil) (fun _ _ _ _ _ => pe_g (ok_condition_in T) (hr.mono (by decide)) (pa_cons (pv 9) pa_nil)))
      (pss_cons (ps_if (pt_cmpR (op_inD (Room.u65 hr)) pe_non (pv 7) (by rfl)) pss_never pss_nil)
      (pss_cons (ps_if (PW.pt (pw_or (pt_cmpR (op_neD hr.units) (pv 5) (pe_tup pa_nil) (nomark _)) (pw_or1 (pt_cmpR (op_eqD hr.units) (pv 7) (pe_lst pa_nil) (nomark _)))))
          (pss_one (ps_expr (pe_bm PySem.F.plainAttrs_list PySem.F.slot_list_append PySem.F.type_list_append mt_append (pv 7) (pa_cons (pe_tup (pa_cons pe_str (pa_cons (pv 5) pa_nil))) pa_nil)))) pss_nil)
      hT)))))), ?_⟩
    have hlen := compL_len hw hw3 hc3 hc
    have eL14 : Str.ofString " for x in rows" = mk (L " for x in rows") := lit_mk _
    have ep : Txt.partition (mk (compL wd cs)) (Str.ofString " for x in rows") = (mk (appl wd [120]), Str.ofString " for x in rows", mk (condsL cs)) := by
      rw [eL14]
      exact partition_mk (s := 32) (S := (L " for x in rows").tail) (appl_free hw (by omega))
    refine ⟨_, rfl, ⟨_, rfl⟩, mk (compL wd cs), _, rfl, rfl, by decide +kernel, by rw [len_mk]; exact small_line (by omega), fun p np => ?_⟩
    rw [ep]
    refine ⟨p, _, rfl, SqT.of upd_same, rfl, _, _, rfl, _, _, rfl, _, _, rfl, rfl, ?_⟩
    refine ⟨_, rfl, wd, rfl, hw, by omega, fun H1 a sm1 hS => ?_⟩
    have cl := condsL_len hc
    have esp : Txt.split (mk (condsL cs)) (Str.ofString " if ") = ([] :: cs.map condL).map mk := by
      rw [lit_mk]
      exact split_mk (by decide +kernel) (by decide +kernel) (by have := split_conds (p := []) freeIf_nil hc; exact this)
    refine ⟨_, rfl, ⟨_, rfl⟩, mk (condsL cs), _, rfl, rfl, by decide +kernel, by rw [len_mk]; exact Nat.le_trans (show _ ≤ 200 by omega) (by decide), fun p2 np2 => ?_⟩
    rw [esp]
    generalize hP : (([] :: cs.map condL).map mk).map V.str = LP
    have lP : LP.length = cs.length + 1 := by rw [← hP]; simp
    have hP2 : (upd H1 p2 (.lst LP)) p2 = some (.lst LP) := upd_same
    have s2 := same_new (o := .lst LP) np2
    have s02 := ((same_new np).trans sm1).trans s2
    have hSn := same_seqT s2 hS
    refine ⟨_, rfl, rfl, _, rfl, ?_⟩
    refine ifF (by show decide (V.str (Str.ofString " for x in rows") = V.str (Str.ofString "")) = false; decide +kernel) ?_
    refine ⟨_, rfl, rfl, _, rfl, ?_⟩
    refine ifF rfl ?_
    refine ⟨_, rfl, a, wd.map mk, rfl, by rw [← strs_mk]; exact hSn, small_mk hw, by rw [List.length_map]; omega, fun H3 s3 => ?_⟩
    rw [areNames_mk hw (Nat.zero_le _) hw3]
    refine ⟨_, rfl, ?_⟩
    refine iteF ?_
    have hP3 := s3 _ _ hP2
    refine ⟨_, rfl, p2, LP, 0, .str (mk []), rfl, rfl, SqL.of hP3, atI_nat (j := 0) (by rw [← hP]; rfl), rfl, _, rfl, ?_⟩
    refine ifF (by decide +kernel) ?_
    refine ⟨_, rfl, .ref p2, LP.length, rfl, .inl ⟨LP, SqL.of hP3, rfl⟩, 1, 3, rfl, rfl, _, _, rfl, rfl, _, rfl, ?_⟩
    refine ifF (decide_eq_false (by omega)) ?_
    refine ⟨_, rfl, 1, rfl, p2, LP, rfl, SqL.of hP3, fun p3 np3 => ?_⟩
    have ecut : cutV LP (some 1) none = cs.map fun c => V.str (mk (condL c)) := by
      unfold cutV
      rw [show (1 : Int) = ((1 : Nat) : Int) from rfl, HT.sIx_nat, HT.sIx_none, lP, ← hP, Nat.min_eq_left (by omega)]
      show ((List.map V.str (List.map mk (cs.map condL)))).take _ = _
      rw [List.take_of_length_le (by simp), List.map_map, List.map_map]
      rfl
    rw [ecut]
    refine ⟨p3, rfl, ⟨_, SqL.of upd_same⟩, fun D nD => ?_⟩
    have s03 := (s02.trans s3).trans (same_new (o := .lst (cs.map fun c => V.str (mk (condL c)))) np3)
    refine lc_same (walk_list (xs := cs.map fun c => V.str (mk (condL c)))) (fun i H y => ∃ c, cs[i]? = some c ∧ CondV K H y c) (fun i H H' y e ⟨c, h1, h2⟩ => ⟨c, h1, h2.sml e⟩) (by rw [List.length_map]; exact small1000 (by omega)) nD (fun H4 s4 => SqL.of (s4 _ _ upd_same)) (fun i x H5 H6 R N hi s5 hy hR => ?_) (fun H5 ys s5 hD hly hat => ?_)
    · obtain ⟨rfl, hx⟩ := hy
      rw [List.getElem?_map] at hx
      cases hci : cs[i]? with
      | none => rw [hci] at hx; cases hx
      | some c =>
        rw [hci] at hx
        cases hx
        refine ⟨rfl, ?_⟩
        refine yes_if ?_
        exact ⟨_, rfl, c, rfl, hc c (List.mem_of_getElem? hci), fun H7 p a s7 h1 h2 => hR _ _ s7 ⟨c, hci, p, a, rfl, h1, h2⟩⟩
    · rw [List.length_map] at hly
      have hcv : ∀ (i : Nat) (y : V) (c : Bool × List Nm), ys[i]? = some y → cs[i]? = some c → CondV K H5 y c := fun i y c e1 e2 => by
        obtain ⟨c', e3, h3⟩ := hat i y e1
        rw [e2] at e3
        cases e3
        exact h3
      have s05 := s03.trans s5
      obtain ⟨cl1, cl2⟩ := cds_lay hc
      have hdl : Dp K H5 (.ref D) (.list (cs.map fun c => cwD (kdC c) c.2)) := .lst (SqL.of hD) (DpAll_conds hly hcv)
      have sh : SeqAt.shaped (.list (cs.map fun c => cwD (kdC c) c.2)) = true := shaped_of cl1 (by show PyData.depthAll _ + 1 ≤ 64; omega)
      have hS5 := same_seqT (s3.trans ((same_new np3).trans s5)) hSn
      have shw : SeqAt.shaped (nmD wd) = true := shaped_of lay.1 (by omega)
      refine ⟨_, rfl, .none, _, .non, hdl, rfl, sh, _, rfl, ?_⟩
      refine ifF (none_cds cs) ?_
      have app : ∀ H6, Same H5 H6 → ¬ (wd = [] ∧ cs ≠ []) → ∀ (v : V), (∃ pw, v = .ref pw ∧ SqT K H6 pw [.str "each", .ref a]) → Same H (upd H6 D (.lst (ys ++ [v]))) ∧ (ys ++ [v]).length = (compSg wd cs).length ∧ ∀ (i : Nat) (y : V) (f : Bool → SgL), (ys ++ [v])[i]? = some y → (compSg wd cs)[i]? = some f → PairV K (upd H6 D (.lst (ys ++ [v]))) y f := fun H6 s6 hne v hv => by
        obtain ⟨pw, rfl, hv2⟩ := hv
        have hD6 := s6 _ _ hD
        have sl : SmL H5 (upd H6 D (.lst (ys ++ [.ref pw]))) := (SmL.of s6).trans (SmL.put hD6)
        have ecomp : compSg wd cs = (cs.map fun c => fun b => Sg.ask (if c.1 = true then Kd.drop else Kd.keep) c.2 b) ++ [fun b => Sg.each wd b] := by
          unfold compSg
          rw [if_neg hne]
        refine ⟨fun b o e => ?_, by rw [ecomp]; simp [hly], fun i y f e1 e2 => ?_⟩
        · rw [upd_ne (ne_of_none (s03 _ _ e) nD)]
          exact s6 _ _ (s05 _ _ e)
        · rw [ecomp] at e2
          by_cases hi : i < cs.length
          · rw [List.getElem?_append_left (by omega)] at e1
            rw [List.getElem?_append_left (by simpa using hi), List.getElem?_map] at e2
            cases hci : cs[i]? with
            | none => rw [hci] at e2; cases e2
            | some c =>
              rw [hci] at e2
              cases e2
              exact ((hcv i y c e1 hci).sml sl).pair
          · rw [List.getElem?_append_right (by omega)] at e1
            rw [List.getElem?_append_right (by simpa using hi), List.length_map] at e2
            have e0 : i - ys.length = 0 := by
              cases hjj : i - ys.length with
              | zero => rfl
              | succ k => rw [hjj] at e1; simp at e1
            rw [e0] at e1
            rw [show i - cs.length = 0 by omega] at e2
            cases e1
            cases e2
            exact ⟨pw, .ref a, rfl, (SmL.put hD6).seqT hv2, a, rfl, sl.seqT hS5⟩
      refine ⟨_, rfl, by decide, fun p4 np4 => ⟨nmD wd, .tuple [], Dp_names (same_seqT (same_new np4) hS5), .tup (SqT.of upd_same) .nil, shw, rfl, _, rfl, ?_⟩⟩
      have s54 := same_new (o := .tup []) np4
      have fapp : ∀ H6, Same H5 H6 → ¬ (wd = [] ∧ cs ≠ []) → ∀ (v2 v3 v4 v6 v0 : V), 2 ≤ sizeLine ∧ ∀ pw, H6 pw = none → ∃ (l : Addr) (xs : List V) (y : V), V.ref D = .ref l ∧ [V.ref pw] = [y] ∧ (upd H6 pw (.tup [.str "each", .ref a])) l = some (.lst xs) ∧ xs.length < sizeLine ∧
          t2 { nx := fun _ H' => Q .non H', rt := Q } [some v0, some (.bl now), some v2, some v3, some v4, some (.ref a), some v6, some (.ref D), none, none, none, none, none] (upd (upd H6 pw (.tup [.str "each", .ref a])) l (.lst (xs ++ [y]))) := fun H6 s6 hne v2 v3 v4 v6 v0 => by
        refine ⟨by decide, fun pw npw => ⟨D, ys, .ref pw, rfl, rfl, ?_, small1000 (by omega), ?_⟩⟩
        · exact same_new npw _ _ (s6 _ _ hD)
        · obtain ⟨a1, a2, a3⟩ := app (upd H6 pw (.tup [.str "each", .ref a])) (s6.trans (same_new npw)) hne (.ref pw) ⟨pw, rfl, SqT.of upd_same⟩
          exact hq _ _ _ _ _ _ _ _ _ a1 upd_same a2 a3
      cases hwd : wd with
      | nil =>
        refine ifF rfl ?_
        refine ⟨_, rfl, by decide, fun p5 np5 => ⟨_, .list [], .lst (SqL.of (same_new np5 _ _ (s54 _ _ hD))) (DpAll_conds hly fun i y c e1 e2 => (hcv i y c e1 e2).sml (SmL.of (s54.trans (same_new np5)))), .lst (SqL.of upd_same) .nil, sh, rfl, _, rfl, ?_⟩⟩
        have s55 := s54.trans (same_new (o := .lst []) np5)
        cases hcs : cs with
        | nil =>
          refine ifT rfl ?_
          refine ⟨_, rfl, .inl ⟨rfl, ys, SqL.of (s55 _ _ hD)⟩, _, rfl, ?_⟩
          exact fapp _ s55 (fun z => z.2 hcs) _ _ _ _ _
        | cons c0 cs0 =>
          refine ifF rfl ?_
          refine hq _ _ _ _ _ _ _ ys _ (s05.trans s55) (s55 _ _ hD) ?_ ?_
          · unfold compSg
            rw [if_pos ⟨hwd, by rw [hcs]; simp⟩]
            simpa using hly
          · intro i y f e1 e2
            unfold compSg at e2
            rw [if_pos ⟨hwd, by rw [hcs]; simp⟩, List.append_nil, List.getElem?_map] at e2
            cases hci : cs[i]? with
            | none => rw [hci] at e2; cases e2
            | some c =>
              rw [hci] at e2
              cases e2
              exact ((hcv i y c e1 hci).sml (SmL.of s55)).pair
      | cons n0 w0 =>
        refine ifT rfl ?_
        refine iteT ?_
        refine ⟨_, rfl, .inl ⟨rfl, ys, SqL.of (s54 _ _ hD)⟩, _, rfl, ?_⟩
        exact fapp _ s54 (fun z => by rw [hwd] at z; exact nomatch z.1) _ _ _ _ _
end
end K

set_option Elab.async false
set_option linter.all false
set_option maxRecDepth 100000
set_option maxHeartbeats 4000000
/-! KF7: callflows.reading: slice_in, call_in, list_in, stages_in. -/
namespace K
open PySem PySem.Spec PyProof.Rows L2 He TL
def Cl.sl : Cl → Bool
  | .first _ => true
  | .skip _ => true
  | .every _ _ => true
  | _ => false
theorem dig_free {n : Nat} (h : n ≤ 9) {c : Nat} (hc : c < 48 ∨ 57 < c) : c ∉ dig n := by
  unfold dig
  simp only [List.mem_singleton]
  omega
theorem L_cs : L ", " = [44, 32] := by decide +kernel
theorem L_None : L "None" = [78, 111, 110, 101] := by decide +kernel
theorem split_first {n : Nat} (h : n ≤ 9) : Txt.split (mk (sliceL (.first n))) (Str.ofString ", ") = [mk (dig n)] := by
  rw [lit_mk]
  refine split_mk (ps := [dig n]) (by decide +kernel) (by decide +kernel) ?_
  rw [L_cs]
  exact spl_last1 (dig_free h (by omega))
theorem split_skip {n : Nat} (h : n ≤ 9) : Txt.split (mk (sliceL (.skip n))) (Str.ofString ", ") = [mk (dig n), mk (L "None")] := by
  rw [lit_mk]
  refine split_mk (ps := [dig n, L "None"]) (by decide +kernel) (by decide +kernel) ?_
  rw [L_cs, show sliceL (.skip n) = dig n ++ ([44, 32] ++ L "None") from rfl]
  refine (spl_part1 (s := 44) (S := [32]) (dig_free h (by omega))).trans ?_
  rw [L_None, spl_last1 (by decide)]
  rfl
theorem split_every {k r : Nat} (hk : k ≤ 9) (h : r ≤ 9) : Txt.split (mk (sliceL (.every k r))) (Str.ofString ", ") = [mk (dig r), mk (L "None"), mk (dig k)] := by
  rw [lit_mk]
  refine split_mk (ps := [dig r, L "None", dig k]) (by decide +kernel) (by decide +kernel) ?_
  rw [L_cs, show sliceL (.every k r) = dig r ++ ([44, 32] ++ (L "None" ++ ([44, 32] ++ dig k))) from rfl]
  refine (spl_part1 (s := 44) (S := [32]) (dig_free h (by omega))).trans ?_
  refine congrArg (_ :: ·) ?_
  refine (spl_part1 (s := 44) (S := [32]) (by rw [L_None]; decide)).trans ?_
  refine congrArg (_ :: ·) ?_
  exact spl_last1 (dig_free hk (by omega))
theorem sliceL_len {c : Cl} : (sliceL c).length ≤ 20 := by
  cases c with
  | call k f => simp [sliceL]
  | lam b t => simp [sliceL]
  | first n => simp [sliceL, dig]
  | skip n => rw [show sliceL (.skip n) = dig n ++ L ", None" from rfl, List.length_append, show (L ", None").length = 6 by decide +kernel]; simp [dig]
  | every k r => rw [show sliceL (.every k r) = dig r ++ (L ", None, " ++ dig k) from rfl, List.length_append, List.length_append, show (L ", None, ").length = 8 by decide +kernel]; simp [dig]
section
variable {P : Program} {w : World} {K : PySem.W.Frag} {mg : Str → Option Value} {base : Heap}
def spSlice (K : PySem.W.Frag) : Sp := fun vs H Q _ => ∃ (c : Cl) (now : Bool), vs = [.str (mk (sliceL c)), .bl now] ∧ ClOk c ∧ c.sl = true ∧ spStages K H Q [clSg now c]
theorem ok_slice_in (T : Tx K mg w) : Ok1 P w K mg base 7 "slice_in" ["text", "now"] (spSlice K) := by
  have nd := sc_slice_in.nd
  refine T.d_slice_in.mk sc_slice_in bn_slice_in (fun vs H Q E h => ?_) (fun cdv A outer s H vs Q E hr h => ?_)
  · obtain ⟨c, now, rfl, _⟩ := h
    rfl
  · obtain ⟨c, now, rfl, ho, hc, q⟩ := h
    refine ⟨_, pss_cons (ps_match (pe_split (pv 0) pe_str)
      (pm_seq (pks := [.cap 2]) rfl nd (.cons (.cap rfl rfl) .nil) (pss_one (ps_par (i := 3) (j := 4) (by rfl) nd rfl rfl (by decide) rfl rfl (pa_cons pe_str (pa_cons (pe_g (ok_digit_in T) (hr.mono (by decide)) (pa_cons (pv 2) (pa_cons pe_int pa_nil))) pa_nil)) (by rfl)))
      (pm_seq (pks := [.cap 5, .lit "None"]) rfl nd (.cons (.cap rfl rfl) (.cons .lit .nil)) (pss_one (ps_par (i := 3) (j := 4) (by rfl) nd rfl rfl (by decide) rfl rfl (pa_cons pe_str (pa_cons (pe_g (ok_digit_in T) (hr.mono (by decide)) (pa_cons (pv 5) (pa_cons pe_int pa_nil))) pa_nil)) (by rfl)))
      (pm_seq (pks := [.cap 5, .lit "None", .cap 6]) rfl nd (.cons (.cap rfl rfl) (.cons .lit (.cons (.cap rfl rfl) .nil))) (pss_one (ps_par (i := 3) (j := 4) (by rfl) nd rfl rfl (by decide) rfl rfl (pa_cons pe_str (pa_cons (pe_tup (pa_cons (pe_g (ok_digit_in T) (hr.mono (by decide)) (pa_cons (pv 6) (pa_cons pe_int pa_nil)))
          (pa_cons (pe_g (ok_digit_in T) (hr.mono (by decide)) (pa_cons (pv 5) (pa_cons pe_int pa_nil))) pa_nil))) pa_nil)) (by rfl)))
      (pm_any pss_never)))))
      (pss_cons (ps_if (PW.pt (pw_or (pt_cmpR op_isN (pv 4) pe_non (nomark _)) (pw_or1 (PW.pt (pw_and (pt_cmpR op_eq (pv 3) pe_str (nomark _)) (pw_and1 (pt_cmpR op_in_seq pe_non (pv 4) (by rfl)))))))) pss_never pss_nil)
      (pss_one (ps_ret (pe_tup (pa_cons (pe_stK T hr (pa_cons (pv 3) (pa_cons (pv 4) pa_nil)) (pk_cons (pv 1) pk_nil)) pa_nil))))), ?_⟩
    have hlen := sliceL_len (c := c)
    refine ⟨_, rfl, ⟨_, rfl⟩, mk (sliceL c), _, rfl, rfl, by decide +kernel, by rw [len_mk]; exact Nat.le_trans (show _ ≤ 200 by omega) (by decide), fun p np => ?_⟩
    have fin : ∀ (sg : SgL) (v : V) (H1 : Hp), Same H H1 → [sg] = [clSg now c] → DetAt K H1 sg v → SgOk sg → sg.now = (now || sg.isList) → ∀ kd, kd = V.str (kindS sg) → ∀ x dx, H1 x = none → H1 dx = none → dx ≠ x →
        spStageInit K [.ref x, kd, v, .bl now] (upd (upd H1 dx (.own x)) x (.ins (cS K) dx [])) (fun u H2 => u = .non ∧ (1 ≤ sizeLine ∧ ∀ p2, H2 p2 = none → Q (.ref p2) (upd H2 p2 (.tup [.ref x])))) E0 := fun sg v H1 s1 e hd hok hn kd hk => by
      refine StMk.mk' (Q := fun y H2 => 1 ≤ sizeLine ∧ ∀ p2, H2 p2 = none → Q (.ref p2) (upd H2 p2 (.tup [y]))) ⟨sg, hk, hd, hok, hn, fun H' x sm sv => ⟨by decide, fun p2 np2 => ?_⟩⟩
      refine q _ p2 [.ref x] ((s1.trans sm).trans (same_new np2)) (SqT.of upd_same) ?_
      rw [← e]
      exact Sts.one ((SmL.of (same_new np2)).stage sv)
    cases c with
    | call k f => cases hc
    | lam b t => cases hc
    | first n =>
      have hn : n ≤ 9 := ho
      rw [split_first hn]
      refine ⟨p, _, rfl, SqL.of upd_same, ?_, .inl ⟨rfl, _, rfl, ?_⟩⟩
      · intro x hx
        rw [List.mem_singleton.mp hx]
        exact ⟨_, rfl⟩
      refine ⟨_, rfl, mk (dig n), n, 0, rfl, rfl, hn, by omega, _, _, rfl, ?_⟩
      refine ⟨_, rfl, rfl, _, rfl, ?_⟩
      refine ifF rfl ?_
      refine ⟨_, rfl, rfl, _, rfl, ?_⟩
      refine ifF (by decide +kernel) ?_
      refine ⟨_, rfl, _, rfl, _, rfl, rfl, rfl, ?_⟩
      exact fin (.first n now) (.int n) _ (same_new np) rfl rfl hn (by simp [Sg.now, Sg.isList]) _ rfl
    | skip n =>
      have hn : n ≤ 9 := ho
      rw [split_skip hn]
      have st : ∀ x ∈ [mk (dig n), mk (L "None")].map V.str, ∃ z, x = .str z := fun x hx => by
        obtain ⟨z, _, rfl⟩ := List.mem_map.mp hx
        exact ⟨z, rfl⟩
      refine ⟨p, _, rfl, SqL.of upd_same, st, .inr (.inr ⟨(fun z => by simp at z), ?_⟩)⟩
      refine ⟨p, _, rfl, SqL.of upd_same, st, .inl ⟨rfl, [(5, .str (mk (dig n)))], by show (if V.str (mk (L "None")) = .str (Str.ofString "None") then some [] else none).map _ = _; rw [← lit_mk, if_pos rfl]; rfl, ?_⟩⟩
      refine ⟨_, rfl, mk (dig n), n, 0, rfl, rfl, hn, by omega, _, _, rfl, ?_⟩
      refine ⟨_, rfl, rfl, _, rfl, ?_⟩
      refine ifF rfl ?_
      refine ⟨_, rfl, rfl, _, rfl, ?_⟩
      refine ifF (by decide +kernel) ?_
      refine ⟨_, rfl, _, rfl, _, rfl, rfl, rfl, ?_⟩
      exact fin (.skip n now) (.int n) _ (same_new np) rfl rfl hn (by simp [Sg.now, Sg.isList]) _ rfl
    | every k r =>
      obtain ⟨h1, hk, hn⟩ := ho
      rw [split_every hk hn]
      have st : ∀ x ∈ [mk (dig r), mk (L "None"), mk (dig k)].map V.str, ∃ z, x = .str z := fun x hx => by
        obtain ⟨z, _, rfl⟩ := List.mem_map.mp hx
        exact ⟨z, rfl⟩
      refine ⟨p, _, rfl, SqL.of upd_same, st, .inr (.inr ⟨(fun z => by simp at z), ?_⟩)⟩
      refine ⟨p, _, rfl, SqL.of upd_same, st, .inr (.inr ⟨(fun z => by simp at z), ?_⟩)⟩
      refine ⟨p, _, rfl, SqL.of upd_same, st, .inl ⟨rfl, [(5, .str (mk (dig r))), (6, .str (mk (dig k)))], by show (if V.str (mk (L "None")) = .str (Str.ofString "None") then some [(6, V.str (mk (dig k)))] else none).map _ = _; rw [← lit_mk, if_pos rfl]; rfl, ?_⟩⟩
      refine ⟨_, rfl, mk (dig k), k, 1, rfl, rfl, hk, by omega, _, rfl, mk (dig r), r, 0, rfl, rfl, hn, by omega, (by show 2 ≤ sizeLine; decide), fun p3 np3 => ⟨_, _, rfl, ?_⟩⟩
      refine ⟨_, rfl, rfl, _, rfl, ?_⟩
      refine ifF rfl ?_
      refine ⟨_, rfl, rfl, _, rfl, ?_⟩
      refine ifT (by decide +kernel) ?_
      refine ⟨_, rfl, p3, _, rfl, .inr (SqT.of upd_same), rfl, rfl, _, rfl, ?_⟩
      refine ifF rfl ?_
      refine ⟨_, rfl, _, rfl, _, rfl, rfl, rfl, ?_⟩
      exact fin (.every k r now) (.ref p3) _ ((same_new np).trans (same_new np3)) rfl ⟨p3, rfl, SqT.of upd_same⟩ ⟨h1, hk, hn⟩ (by simp [Sg.now, Sg.isList]) _ rfl
def spListIn (K : PySem.W.Frag) : Sp := fun vs H Q _ => ∃ (l : Ln), vs = [.str (mk (tailL l))] ∧ LnOk l ∧ (match l with | .all => True | .last _ => True | .but _ => True | .turned => True | _ => False) ∧ spStages K H Q (lnSg l)
theorem ok_list_in (T : Tx K mg w) : Ok1 P w K mg base 7 "list_in" ["text"] (spListIn K) := by
  have nd := sc_list_in.nd
  refine T.d_list_in.mk sc_list_in bn_list_in (fun vs H Q E h => ?_) (fun cdv A outer s H vs Q E hr h => ?_)
  · obtain ⟨l, rfl, _⟩ := h
    rfl
  · obtain ⟨l, rfl, ho, hl, q⟩ := h
    refine ⟨_, pss_cons (ps_if (pt_cmpR op_eq (pv 0) pe_str (nomark _)) (pss_one (ps_ret (pe_tup (pa_cons (pe_stK T hr (pa_cons pe_str (pa_cons (pe_tup pa_nil) pa_nil)) (pk_cons pe_bl pk_nil)) pa_nil)))) pss_nil)
      (pss_cons (ps_if (pt_cmpR op_eq (pv 0) pe_str (nomark _)) (pss_one (ps_ret (pe_tup (pa_cons (pe_st1 T hr (pa_cons pe_str pa_nil)) pa_nil)))) pss_nil)
      (pss_cons (ps_par (i := 1) (j := 2) (by rfl) nd rfl rfl (by decide) rfl rfl (pa_cons (pe_g (ok_inside T) (hr.mono (by decide)) (pa_cons (pv 0) (pa_cons pe_str (pa_cons pe_str pa_nil)))) (pa_cons (pe_g (ok_inside T) (hr.mono (by decide)) (pa_cons (pv 0) (pa_cons pe_str (pa_cons pe_str pa_nil)))) pa_nil)) (by rfl))
      (pss_cons (ps_set (i := 3) nd rfl (.inl rfl) (pe_ifExp (PW.pt (pw_or (pt_cmpR op_notN (pv 1) pe_non (nomark _)) (pw_or1 (pt_cmpR op_notN (pv 2) pe_non (nomark _))))) (pe_g (ok_digit_in T) (hr.mono (by decide)) (pa_cons (pe_ifExp (pt_cmpR op_isN (pv 1) pe_non (nomark _)) (pv 2) (pv 1)) (pa_cons pe_int pa_nil))) pe_non))
      (pss_cons (ps_if (pt_cmpR op_isN (pv 3) pe_non (nomark _)) pss_never pss_nil)
      (pss_one (ps_ret (pe_tup (pa_cons (pe_st2 T hr (pa_cons (pe_ifExp (pt_cmpR op_isN (pv 1) pe_non (nomark _)) pe_str pe_str) (pa_cons (pv 3) pa_nil))) pa_nil)))))))), ?_⟩
    have fin : ∀ (sg : SgL) (v : V) (b : Bool) (H1 : Hp), Same H H1 → [sg] = lnSg l → DetAt K H1 sg v → SgOk sg → sg.now = (b || sg.isList) → ∀ kd, kd = V.str (kindS sg) → ∀ x dx, H1 x = none → H1 dx = none → dx ≠ x →
        spStageInit K [.ref x, kd, v, .bl b] (upd (upd H1 dx (.own x)) x (.ins (cS K) dx [])) (fun u H2 => u = .non ∧ (1 ≤ sizeLine ∧ ∀ p2, H2 p2 = none → Q (.ref p2) (upd H2 p2 (.tup [.ref x])))) E0 := fun sg v b H1 s1 e hd hok hn kd hk => by
      refine StMk.mk' (Q := fun y H2 => 1 ≤ sizeLine ∧ ∀ p2, H2 p2 = none → Q (.ref p2) (upd H2 p2 (.tup [y]))) ⟨sg, hk, hd, hok, hn, fun H' x sm sv => ⟨by decide, fun p2 np2 => ?_⟩⟩
      refine q _ p2 [.ref x] ((s1.trans sm).trans (same_new np2)) (SqT.of upd_same) ?_
      rw [← e]
      exact Sts.one ((SmL.of (same_new np2)).stage sv)
    have eL1 : L "[-" = [91, 45] := by decide +kernel
    have eL2 : L "[:-" = [91, 58, 45] := by decide +kernel
    have eR1 : L ":]" = [58, 93] := by decide +kernel
    have eR2 : L "]" = [93] := by decide +kernel
    cases l with
    | comp a b c => cases hl
    | cl c b => cases hl
    | all =>
      refine ⟨_, rfl, rfl, _, rfl, ?_⟩
      refine ifT (by decide +kernel) ?_
      refine ⟨by decide, fun p np => ⟨rfl, rfl, ?_⟩⟩
      exact fin (.each [] true) (.ref p) true _ (same_new np) rfl ⟨p, rfl, SqT.of upd_same⟩ ⟨(fun n hn => by cases hn), by decide⟩ rfl _ rfl
    | turned =>
      refine ⟨_, rfl, rfl, _, rfl, ?_⟩
      refine ifF (by decide +kernel) ?_
      refine ⟨_, rfl, rfl, _, rfl, ?_⟩
      refine ifT (by decide +kernel) ?_
      exact fin .turned .non false _ (Same.refl H) rfl rfl trivial rfl _ rfl
    | last n =>
      have et : tailL (.last n) = [91, 45] ++ (dig n ++ [58, 93]) := by rw [← eL1, ← eR1]; rfl
      have hz : (mk (tailL (.last n))).length ≤ 1000 := by rw [len_mk, et]; simp [dig]
      refine ⟨_, rfl, rfl, _, rfl, ?_⟩
      refine ifF (decide_eq_false fun z => by
        injection z with z
        have := congrArg tl z
        rw [tl_mk', et, tl_lit] at this
        cases this) ?_
      refine ⟨_, rfl, rfl, _, rfl, ?_⟩
      refine ifF (decide_eq_false fun z => by
        injection z with z
        have := congrArg tl z
        rw [tl_mk', et, tl_lit, show L "[::-1]" = [91, 58, 58, 45, 49, 93] by decide +kernel] at this
        cases this) ?_
      refine ⟨_, rfl, mk (tailL (.last n)), "[-", ":]", some (dig n), rfl, hz, by decide +kernel, by decide +kernel, (by rw [tl_lit, tl_lit]; exact ins_some rfl), ?_⟩
      refine ⟨_, rfl, mk (tailL (.last n)), "[:-", "]", none, rfl, hz, by decide +kernel, by decide +kernel, (by rw [tl_lit, tl_lit, tl_mk', eL2, et]; exact ins_none 1 (by decide) (by simp)), _, _, rfl, ?_⟩
      refine ⟨_, rfl, rfl, _, rfl, ?_⟩
      refine ifT rfl ?_
      refine iteT ?_
      refine ⟨_, rfl, rfl, _, rfl, ?_⟩
      refine ifF rfl ⟨_, rfl, mk (dig n), n, 1, rfl, rfl, ho.2, by have := ho.1; omega, ?_⟩
      refine ⟨_, rfl, rfl, _, rfl, ?_⟩
      refine ifF rfl ?_
      refine ⟨_, rfl, rfl, _, rfl, ?_⟩
      refine ifF rfl ⟨_, rfl, ?_⟩
      exact fin (.last n) (.int n) false _ (Same.refl H) rfl rfl ho rfl _ rfl
    | but n =>
      have et : tailL (.but n) = [91, 58, 45] ++ (dig n ++ [93]) := by rw [← eL2, ← eR2]; rfl
      have hz : (mk (tailL (.but n))).length ≤ 1000 := by rw [len_mk, et]; simp [dig]
      refine ⟨_, rfl, rfl, _, rfl, ?_⟩
      refine ifF (decide_eq_false fun z => by
        injection z with z
        have := congrArg tl z
        rw [tl_mk', et, tl_lit] at this
        cases this) ?_
      refine ⟨_, rfl, rfl, _, rfl, ?_⟩
      refine ifF (decide_eq_false fun z => by
        injection z with z
        have := congrArg tl z
        rw [tl_mk', et, tl_lit, show L "[::-1]" = [91, 58, 58, 45, 49, 93] by decide +kernel] at this
        cases this) ?_
      refine ⟨_, rfl, mk (tailL (.but n)), "[-", ":]", none, rfl, hz, by decide +kernel, by decide +kernel, (by rw [tl_lit, tl_lit, tl_mk', eL1, et]; exact ins_none 1 (by decide) (by simp)), ?_⟩
      refine ⟨_, rfl, mk (tailL (.but n)), "[:-", "]", some (dig n), rfl, hz, by decide +kernel, by decide +kernel, (by rw [tl_lit, tl_lit]; exact ins_some rfl), _, _, rfl, ?_⟩
      refine ⟨_, rfl, rfl, _, rfl, ?_⟩
      refine ifF rfl ?_
      refine ⟨_, rfl, rfl, _, rfl, ?_⟩
      refine ifT rfl ?_
      refine ⟨_, rfl, rfl, _, rfl, ?_⟩
      refine ifT rfl ⟨_, rfl, mk (dig n), n, 1, rfl, rfl, ho.2, by have := ho.1; omega, ?_⟩
      refine ⟨_, rfl, rfl, _, rfl, ?_⟩
      refine ifF rfl ?_
      refine ⟨_, rfl, rfl, _, rfl, ?_⟩
      refine ifT rfl ⟨_, rfl, ?_⟩
      exact fin (.but n) (.int n) false _ (Same.refl H) rfl rfl ho rfl _ rfl
theorem wyL_free {k : Wy} {c : Nat} (h : c = 40 ∨ c = 32) : c ∉ wyL k := by
  cases k <;> rcases h with rfl | rfl <;> decide +kernel
/-- the kind that the way stands for -/
def wyK : Wy → Str
  | .map => "each"
  | .filter => "keep"
  | .takewhile => "while"
  | .dropwhile => "from"
theorem wy_calls (T : Tx K mg w) (k : Wy) : ∃ u0, PySem.W.nsIn K (ga K "CALLS") (mk (wyL k)) = some (some u0) ∧ RelV (.str (wyK k)) u0 := by
  cases k with
  | map => obtain ⟨t, e⟩ := T.c_map; exact ⟨_, by rw [show wyL .map = L "map" from rfl, ← lit_mk]; exact e, ⟨t, rfl⟩⟩
  | filter => obtain ⟨t, e⟩ := T.c_filter; exact ⟨_, by rw [show wyL .filter = L "filter" from rfl, ← lit_mk]; exact e, ⟨t, rfl⟩⟩
  | takewhile => obtain ⟨t, e⟩ := T.c_takewhile; exact ⟨_, by rw [show wyL .takewhile = L "takewhile" from rfl, ← lit_mk]; exact e, ⟨t, rfl⟩⟩
  | dropwhile => obtain ⟨t, e⟩ := T.c_dropwhile; exact ⟨_, by rw [show wyL .dropwhile = L "dropwhile" from rfl, ← lit_mk]; exact e, ⟨t, rfl⟩⟩
/-- what is given to the call, ahead of «, rows)» -/
def givL : Cl → List Nat
  | .call _ f => f
  | .lam _ t => L "lambda x: " ++ appl t [120]
  | _ => []
def clW : Cl → Wy
  | .call k _ => k
  | .lam true _ => .takewhile
  | .lam false _ => .dropwhile
  | _ => .map
theorem clL_eq {c : Cl} (h : c.sl = false) : clL c = wyL (clW c) ++ (40 :: (givL c ++ L ", rows)")) := by
  cases c with
  | call k f => rfl
  | lam b t => cases b <;> rfl
  | first n => cases h
  | skip n => cases h
  | every k r => cases h
theorem clL_sl {c : Cl} (h : c.sl = true) : clL c = L "islice(rows, " ++ (sliceL c ++ [41]) := by
  cases c with
  | call k f => cases h
  | lam b t => cases h
  | first n => rfl
  | skip n => rfl
  | every k r => rfl
theorem givL_len {c : Cl} (h : ClOk c) : (givL c).length ≤ 40 := by
  cases c with
  | call k f => have := (isNameL_len h).1; show f.length ≤ 40; omega
  | lam b t =>
    have h1 := appl_len h.1 [120]
    have h2 := h.2.2
    rw [show givL (.lam b t) = L "lambda x: " ++ appl t [120] from rfl, List.length_append, show (L "lambda x: ").length = 10 by decide +kernel]
    simp only [List.length_cons, List.length_nil] at h1
    omega
  | first n => exact Nat.zero_le _
  | skip n => exact Nat.zero_le _
  | every k r => exact Nat.zero_le _
theorem wyL_len (k : Wy) : (wyL k).length ≤ 9 := by cases k <;> decide +kernel
theorem clL_len {c : Cl} (h : ClOk c) : (clL c).length ≤ 70 := by
  cases hs : c.sl with
  | true =>
    have := sliceL_len (c := c)
    rw [clL_sl hs, List.length_append, List.length_append, show (L "islice(rows, ").length = 13 by decide +kernel]
    simp only [List.length_cons, List.length_nil]
    omega
  | false =>
    have h1 := givL_len h
    have h2 := wyL_len (clW c)
    rw [clL_eq hs, List.length_append, List.length_cons, List.length_append, show (L ", rows)").length = 7 by decide +kernel]
    omega
theorem lam_notName {t : List Nm} : isName (mk (L "lambda x: " ++ appl t [120])) = false := by
  have e : L "lambda x: " = [108, 97, 109, 98, 100, 97, 32, 120, 58, 32] := by decide +kernel
  show isNameL (L "lambda x: " ++ appl t [120]) = false
  rw [e]
  have e2 : decide ((97 :: 109 :: 98 :: 100 :: 97 :: 32 :: 120 :: 58 :: 32 :: appl t [120]).length ≤ 3) = false := decide_eq_false (by simp only [List.length_cons]; omega)
  show (decide ((97 :: 109 :: 98 :: 100 :: 97 :: 32 :: 120 :: 58 :: 32 :: appl t [120]).length ≤ 3) && (decide (108 ∈ lettersL) && (97 :: 109 :: 98 :: 100 :: 97 :: 32 :: 120 :: 58 :: 32 :: appl t [120]).all fun d => decide (d ∈ digitsL))) = false
  rw [e2]
  rfl
def spCallIn (K : PySem.W.Frag) : Sp := fun vs H Q _ => ∃ (c : Cl) (now : Bool), vs = [.str (mk (clL c)), .bl now] ∧ ClOk c ∧ spStages K H Q [clSg now c]
theorem ok_call_in (T : Tx K mg w) : Ok1 P w K mg base 8 "call_in" ["text", "now"] (spCallIn K) := by
  have nd := sc_call_in.nd
  obtain ⟨es, dn, D⟩ := T.d_CALLS
  obtain ⟨tL, eL⟩ := T.s_LAMBDA
  refine T.d_call_in.mk sc_call_in bn_call_in (fun vs H Q E h => ?_) (fun cdv A outer s H vs Q E hr h => ?_)
  · obtain ⟨c, now, rfl, _⟩ := h
    rfl
  · obtain ⟨c, now, rfl, ho, q⟩ := h
    refine ⟨_, pss_cons (ps_set (i := 2) nd rfl (.inl rfl) (pe_g (ok_inside T) (hr.mono (by decide)) (pa_cons (pv 0) (pa_cons pe_str (pa_cons pe_str pa_nil)))))
      (pss_cons (ps_if (pt_cmpR op_notN (pv 2) pe_non (nomark _)) (pss_one (ps_ret (pe_g (ok_slice_in T) hr (pa_cons (pv 2) (pa_cons (pv 1) pa_nil))))) pss_nil)
      (pss_cons (ps_asg (pe_partition (pv 0) pe_str) (pg_tup (by rfl) (pgs_cons (pg_name (i := 3) nd rfl (.inl rfl)) (pgs_cons (pg_name (i := 4) nd rfl (.inl rfl)) (pgs_cons (pg_name (i := 5) nd rfl (.inl rfl)) pgs_nil)))))
      (pss_cons (ps_set (i := 6) nd rfl (.inl rfl) (pe_g (ok_inside T) (hr.mono (by decide)) (pa_cons (pv 5) (pa_cons pe_str (pa_cons pe_str pa_nil)))))
      (pss_cons (ps_if (PW.pt (pw_or (pt_cmpR (op_notIn_kd D) (pv 3) (pe_glob (v := .ref (ga K "CALLS")) (by rfl) T.g_CALLS rfl) (by rfl)) (pw_or1 (pt_cmpR op_isN (pv 6) pe_non (nomark _))))) pss_never pss_nil)
      (pss_cons (ps_if (pt_val (pe_g (ok_is_name T) (hr.mono (by decide)) (pa_cons (pv 6) pa_nil)))
          (pss_one (ps_ret (pe_tup (pa_cons (pe_stK T (hr.mono (by decide)) (pa_cons (pe_ix ix_kdict (pe_glob (v := .ref (ga K "CALLS")) (by rfl) T.g_CALLS rfl) (pv 3) (fun _ _ => rfl)) (pa_cons (pe_tup (pa_cons (pv 6) pa_nil)) pa_nil)) (pk_cons (pv 1) pk_nil)) pa_nil)))) pss_nil)
      (pss_cons (ps_set (i := 7) nd rfl (.inl rfl) (pe_g (ok_inside T) (hr.mono (by decide)) (pa_cons (pv 6) (pa_cons (pe_glob (v := .str "lambda x: ") (by rfl) eL ⟨_, rfl⟩) (pa_cons pe_str pa_nil)))))
      (pss_cons (ps_set (i := 8) nd rfl (.inl rfl) (pe_ifExp (pt_cmpR op_isN (pv 7) pe_non (nomark _)) pe_non (pe_g (ok_names_in T) (hr.mono (by decide)) (pa_cons (pv 7) pa_nil))))
      (pss_cons (ps_if (PW.pt (pw_or (pt_cmpR op_notIn_seq (pe_ix ix_kdict (pe_glob (v := .ref (ga K "CALLS")) (by rfl) T.g_CALLS rfl) (pv 3) (fun _ _ => rfl)) (pe_tup (pa_cons pe_str (pa_cons pe_str pa_nil))) (by rfl))
          (pw_or (pt_cmpR op_isN (pv 8) pe_non (nomark _)) (pw_or1 (pt_not (pt_val (pe_g (ok_is_test T) (hr.mono (by decide)) (pa_cons (pv 8) pa_nil)))))))) pss_never pss_nil)
      (pss_one (ps_ret (pe_tup (pa_cons (pe_stK T (hr.mono (by decide)) (pa_cons (pe_ix ix_kdict (pe_glob (v := .ref (ga K "CALLS")) (by rfl) T.g_CALLS rfl) (pv 3) (fun _ _ => rfl)) (pa_cons (pv 8) pa_nil)) (pk_cons (pv 1) pk_nil)) pa_nil)))))))))))), ?_⟩
    have hz : (mk (clL c)).length ≤ 1000 := by rw [len_mk]; have := clL_len ho; omega
    have fin : ∀ (sg : SgL) (v : V) (H1 : Hp), Same H H1 → [sg] = [clSg now c] → DetAt K H1 sg v → SgOk sg → sg.now = (now || sg.isList) → ∀ kd, kd = V.str (kindS sg) → ∀ x dx, H1 x = none → H1 dx = none → dx ≠ x →
        spStageInit K [.ref x, kd, v, .bl now] (upd (upd H1 dx (.own x)) x (.ins (cS K) dx [])) (fun u H2 => u = .non ∧ (1 ≤ sizeLine ∧ ∀ p2, H2 p2 = none → Q (.ref p2) (upd H2 p2 (.tup [.ref x])))) E0 := fun sg v H1 s1 e hd hok hn kd hk => by
      refine StMk.mk' (Q := fun y H2 => 1 ≤ sizeLine ∧ ∀ p2, H2 p2 = none → Q (.ref p2) (upd H2 p2 (.tup [y]))) ⟨sg, hk, hd, hok, hn, fun H' x sm sv => ⟨by decide, fun p2 np2 => ?_⟩⟩
      refine q _ p2 [.ref x] ((s1.trans sm).trans (same_new np2)) (SqT.of upd_same) ?_
      rw [← e]
      exact Sts.one ((SmL.of (same_new np2)).stage sv)
    cases hs : c.sl with
    | true =>
      refine ⟨_, rfl, mk (clL c), "islice(rows, ", ")", some (sliceL c), rfl, hz, by decide +kernel, by decide +kernel, (by rw [tl_lit, tl_lit]; exact ins_some (clL_sl hs)), ?_⟩
      refine ⟨_, rfl, rfl, _, rfl, ?_⟩
      refine ifT rfl ?_
      exact ⟨_, rfl, _, rfl, c, now, rfl, ho, hs, q⟩
    | false =>
      refine ⟨_, rfl, mk (clL c), "islice(rows, ", ")", none, rfl, hz, by decide +kernel, by decide +kernel, ?_, ?_⟩
      · rw [tl_mk', tl_lit, tl_lit, clL_eq hs]
        refine ins_none 0 (by decide +kernel) ?_
        rw [show L "islice(rows, " = 105 :: (L "islice(rows, ").tail by decide +kernel]
        cases clW c with
        | map => rw [show wyL .map = 109 :: (wyL .map).tail by decide +kernel]; simp
        | filter => rw [show wyL .filter = 102 :: (wyL .filter).tail by decide +kernel]; simp
        | takewhile => rw [show wyL .takewhile = 116 :: (wyL .takewhile).tail by decide +kernel]; simp
        | dropwhile => rw [show wyL .dropwhile = 100 :: (wyL .dropwhile).tail by decide +kernel]; simp
      refine ⟨_, rfl, rfl, _, rfl, ?_⟩
      refine ifF rfl ?_
      have ep : Txt.partition (mk (clL c)) (Str.ofString "(") = (mk (wyL (clW c)), Str.ofString "(", mk (givL c ++ L ", rows)")) := by
        rw [lit_mk, clL_eq hs, show L "(" = [40] by decide +kernel]
        exact partition_mk (s := 40) (S := []) (wyL_free (.inl rfl))
      refine ⟨_, rfl, ⟨_, rfl⟩, mk (clL c), _, rfl, rfl, by decide +kernel, small_line hz, fun p np => ?_⟩
      rw [ep]
      refine ⟨p, _, rfl, SqT.of upd_same, rfl, _, _, rfl, _, _, rfl, _, _, rfl, rfl, ?_⟩
      have hg := givL_len ho
      refine ⟨_, rfl, mk (givL c ++ L ", rows)"), "", ", rows)", some (givL c), rfl, ?_, by decide +kernel, by decide +kernel, ?_, ?_⟩
      · rw [len_mk, List.length_append, show (L ", rows)").length = 7 by decide +kernel]; omega
      · rw [tl_mk', tl_lit, tl_lit, show L "" = [] by decide +kernel]
        exact ins_some rfl
      obtain ⟨u0, hn0, hr0⟩ := wy_calls T (clW c)
      refine ⟨_, rfl, mk (wyL (clW c)), _, rfl, rfl, hn0, _, rfl, ?_⟩
      refine ifF rfl ?_
      refine ⟨_, rfl, rfl, _, rfl, ?_⟩
      refine ifF rfl ?_
      refine ⟨_, rfl, mk (givL c), rfl, small_line (by rw [len_mk]; omega), fun H1 s1 => ?_⟩
      have s01 := (same_new np).trans s1
      have kd : KDct K w (ga K "CALLS") (mk (wyL (clW c))) (.str (wyK (clW c))) := ⟨es, dn, u0, D.at_, D.lit, hn0, hr0⟩
      cases c with
      | first n => cases hs
      | skip n => cases hs
      | every k r => cases hs
      | call k f =>
        have hf : isName (mk f) = true := ho
        rw [show isName (mk (givL (.call k f))) = true from hf]
        refine ⟨_, rfl, ?_⟩
        refine iteT ?_
        refine ⟨_, rfl, ga K "CALLS", mk (wyL k), .str (wyK k), rfl, rfl, kd, _, rfl, by show 1 ≤ sizeLine; decide, fun p3 np3 => ⟨_, rfl, rfl, rfl, ?_⟩⟩
        have hS : SqT K (upd H1 p3 (.tup [.str (mk f)])) p3 ([f].map fun n => V.str (mk n)) := SqT.of upd_same
        have hN : NamesL [f] := fun n hn => by rw [List.mem_singleton.mp hn]; exact ho
        cases k with
        | map => exact fin (.each [f] now) _ _ (s01.trans (same_new np3)) rfl ⟨p3, rfl, hS⟩ ⟨hN, by show 1 ≤ 3; decide⟩ (by simp [Sg.now, Sg.isList]) _ rfl
        | filter => exact fin (.ask .keep [f] now) _ _ (s01.trans (same_new np3)) rfl ⟨p3, rfl, hS⟩ ⟨hN, by show 1 ≤ 1; decide, by show 1 ≤ 4; decide⟩ (by simp [Sg.now, Sg.isList]) _ rfl
        | takewhile => exact fin (.ask .whl [f] now) _ _ (s01.trans (same_new np3)) rfl ⟨p3, rfl, hS⟩ ⟨hN, by show 1 ≤ 1; decide, by show 1 ≤ 4; decide⟩ (by simp [Sg.now, Sg.isList]) _ rfl
        | dropwhile => exact fin (.ask .frm [f] now) _ _ (s01.trans (same_new np3)) rfl ⟨p3, rfl, hS⟩ ⟨hN, by show 1 ≤ 1; decide, by show 1 ≤ 4; decide⟩ (by simp [Sg.now, Sg.isList]) _ rfl
      | lam b t =>
        rw [show isName (mk (givL (.lam b t))) = false from lam_notName]
        refine ⟨_, rfl, ?_⟩
        refine iteF ?_
        refine ⟨_, rfl, mk (givL (.lam b t)), "lambda x: ", "", some (appl t [120]), rfl, by rw [len_mk]; omega, by decide +kernel, by decide +kernel, (by rw [tl_mk', tl_lit, tl_lit, show L "" = [] by decide +kernel]; exact ins_front rfl), ?_⟩
        refine ⟨_, rfl, rfl, _, rfl, ?_⟩
        refine ifF rfl ⟨_, rfl, t, rfl, ho.1, ho.2.2, fun H2 a s2 hS => ?_⟩
        have hk : wyK (clW (.lam b t)) = (if b = true then "while" else "from" : Str) := by cases b <;> rfl
        refine ⟨_, rfl, ga K "CALLS", _, .str (wyK (clW (.lam b t))), rfl, rfl, kd, by show 2 ≤ sizeLine; decide, fun p3 np3 => ⟨p3, _, rfl, .inr (SqT.of upd_same), rfl, by decide +kernel, _, rfl, ?_⟩⟩
        have hin : inV (V.str (wyK (clW (.lam b t)))) [V.str (Str.ofString "while"), V.str (Str.ofString "from")] = true := by
          rw [hk]
          cases b
          · exact (by decide +kernel : inV (V.str (Str.ofString "from")) [V.str (Str.ofString "while"), V.str (Str.ofString "from")] = true)
          · exact (by decide +kernel : inV (V.str (Str.ofString "while")) [V.str (Str.ofString "while"), V.str (Str.ofString "from")] = true)
        refine ifF (by show (if true = true then !inV (V.str (wyK (clW (.lam b t)))) [V.str (Str.ofString "while"), V.str (Str.ofString "from")] else _) = false; rw [if_pos rfl, hin]; rfl) ?_
        refine ⟨_, rfl, rfl, _, rfl, ?_⟩
        refine ifF rfl ?_
        have s3 := same_new (o := .tup [.str "while", .str "from"]) np3
        refine ⟨_, rfl, a, t.map mk, rfl, by rw [← strs_mk]; exact same_seqT s3 hS, small_mk ho.1, by rw [List.length_map]; have := ho.2.2; omega, fun H3 s4 => ?_⟩
        rw [areNames_mk ho.1 ho.2.1 ho.2.2]
        refine ⟨_, rfl, ?_⟩
        refine iteF ?_
        refine ⟨_, rfl, ga K "CALLS", _, .str (wyK (clW (.lam b t))), rfl, rfl, kd, _, rfl, _, rfl, rfl, rfl, ?_⟩
        have sa := ((s01.trans s2).trans s3).trans s4
        have hS3 := same_seqT (s3.trans s4) hS
        cases b with
        | true => exact fin (.ask .whl t now) _ _ sa rfl ⟨a, rfl, hS3⟩ ho (by simp [Sg.now, Sg.isList]) _ rfl
        | false => exact fin (.ask .frm t now) _ _ sa rfl ⟨a, rfl, hS3⟩ ho (by simp [Sg.now, Sg.isList]) _ rfl
end
end K

set_option Elab.async false
set_option linter.all false
set_option maxRecDepth 100000
set_option maxHeartbeats 4000000
/-! KF8: callflows.reading: stages_in, read_stages. -/
namespace K
open PySem PySem.Spec PyProof.Rows L2 He TL
def lastL : List Nat := L "return list(rows)"
/-- a whole text -/
def txtL (lns : List Ln) : List Nat := joinL [10] (lns.map lnL ++ [lastL])
theorem dig_lo (n : Nat) {c : Nat} (h : c < 48) : c ∉ dig n := by
  unfold dig
  simp only [List.mem_singleton]
  omega
theorem condsL_free {cs : List (Bool × List Nm)} (h : ∀ c ∈ cs, TestOk c.2) : 10 ∉ condsL cs := fun z => by
  unfold condsL at z
  obtain ⟨l, hl, hz⟩ := List.mem_flatten.mp z
  obtain ⟨c, hc, rfl⟩ := List.mem_map.mp hl
  obtain ⟨b, t⟩ := c
  rcases List.mem_append.mp hz with q | q
  · exact absurd q (by decide +kernel)
  · rcases List.mem_append.mp q with q | q
    · cases b
      · cases q
      · exact absurd q (by show 10 ∉ L "not "; decide +kernel)
    · exact appl_free (h _ hc).1 (by omega) q
theorem clL_free {c : Cl} (h : ClOk c) : 10 ∉ clL c := fun z => by
  cases c with
  | call k f =>
    rcases List.mem_append.mp z with q | q
    · cases k <;> exact absurd q (by decide +kernel)
    · rcases List.mem_cons.mp q with q | q
      · cases q
      · rcases List.mem_append.mp q with q | q
        · exact name_free h (by omega) q
        · exact absurd q (by decide +kernel)
  | lam b t =>
    rcases List.mem_append.mp z with q | q
    · cases b <;> exact absurd q (by decide +kernel)
    · rcases List.mem_cons.mp q with q | q
      · cases q
      · rcases List.mem_append.mp q with q | q
        · rcases List.mem_append.mp q with q | q
          · exact absurd q (by decide +kernel)
          · exact appl_free h.1 (by omega) q
        · exact absurd q (by decide +kernel)
  | first n =>
    rcases List.mem_append.mp z with q | q
    · exact absurd q (by decide +kernel)
    · rcases List.mem_append.mp q with q | q
      · exact dig_lo n (by omega) q
      · exact absurd q (by decide +kernel)
  | skip n =>
    rcases List.mem_append.mp z with q | q
    · exact absurd q (by decide +kernel)
    · rcases List.mem_append.mp q with q | q
      · rcases List.mem_append.mp q with q | q
        · exact dig_lo n (by omega) q
        · exact absurd q (by decide +kernel)
      · exact absurd q (by decide +kernel)
  | every k r =>
    rcases List.mem_append.mp z with q | q
    · exact absurd q (by decide +kernel)
    · rcases List.mem_append.mp q with q | q
      · rcases List.mem_append.mp q with q | q
        · exact dig_lo r (by omega) q
        · rcases List.mem_append.mp q with q | q
          · exact absurd q (by decide +kernel)
          · exact dig_lo k (by omega) q
      · exact absurd q (by decide +kernel)
theorem tailL_free {l : Ln} : 10 ∉ tailL l := fun z => by
  cases l with
  | last n =>
    rcases List.mem_append.mp z with q | q
    · exact absurd q (by decide +kernel)
    · rcases List.mem_append.mp q with q | q
      · exact dig_lo n (by omega) q
      · exact absurd q (by decide +kernel)
  | but n =>
    rcases List.mem_append.mp z with q | q
    · exact absurd q (by decide +kernel)
    · rcases List.mem_append.mp q with q | q
      · exact dig_lo n (by omega) q
      · exact absurd q (by decide +kernel)
  | turned => exact absurd z (by decide +kernel)
  | all => cases z
  | comp a b c => cases z
  | cl c b => cases z
theorem compL_free {w : List Nm} {cs : List (Bool × List Nm)} (h : NamesL w) (hc : ∀ c ∈ cs, TestOk c.2) : 10 ∉ compL w cs := fun z => by
  rcases List.mem_append.mp z with q | q
  · exact appl_free h (by omega) q
  · rcases List.mem_append.mp q with q | q
    · exact absurd q (by decide +kernel)
    · exact condsL_free hc q
theorem lnL_free {l : Ln} (h : LnOk l) : 10 ∉ lnL l := fun z => by
  rcases List.mem_append.mp z with q | q
  · exact absurd q (by decide +kernel)
  · cases l with
    | comp a b c =>
      have hf := compL_free (w := a) (cs := b) h.1 h.2.2.2
      cases c
      · rcases List.mem_append.mp q with q | q
        · exact absurd q (by decide)
        · rcases List.mem_append.mp q with q | q
          · exact hf q
          · exact absurd q (by decide)
      · rcases List.mem_append.mp q with q | q
        · exact absurd q (by decide)
        · rcases List.mem_append.mp q with q | q
          · exact hf q
          · exact absurd q (by decide)
    | cl c b =>
      cases b
      · exact clL_free h q
      · rcases List.mem_append.mp q with q | q
        · exact absurd q (by decide +kernel)
        · rcases List.mem_append.mp q with q | q
          · exact clL_free h q
          · exact absurd q (by decide)
    | all => exact absurd q (by decide +kernel)
    | last n =>
      rcases List.mem_append.mp q with q | q
      · exact absurd q (by decide +kernel)
      · exact tailL_free q
    | but n =>
      rcases List.mem_append.mp q with q | q
      · exact absurd q (by decide +kernel)
      · exact tailL_free q
    | turned => exact absurd q (by decide +kernel)
theorem bodyL_len {l : Ln} (h : LnOk l) : (bodyL l).length ≤ 250 := by
  cases l with
  | comp a b c =>
    have := compL_len h.1 h.2.1 h.2.2.1 h.2.2.2
    cases c
    · show ([40] ++ (compL a b ++ [41])).length ≤ 250
      simp; omega
    · show ([91] ++ (compL a b ++ [93])).length ≤ 250
      simp; omega
  | cl c b =>
    have := clL_len h
    cases b
    · show (clL c).length ≤ 250
      omega
    · show (L "list(" ++ (clL c ++ [41])).length ≤ 250
      rw [List.length_append, List.length_append, show (L "list(").length = 5 by decide +kernel]
      simp; omega
  | all => decide +kernel
  | last n => show (L "list(rows)" ++ (L "[-" ++ (dig n ++ L ":]"))).length ≤ 250; simp only [List.length_append]; rw [show (L "list(rows)").length = 10 by decide +kernel, show (L "[-").length = 2 by decide +kernel, show (L ":]").length = 2 by decide +kernel]; simp [dig]
  | but n => show (L "list(rows)" ++ (L "[:-" ++ (dig n ++ L "]"))).length ≤ 250; simp only [List.length_append]; rw [show (L "list(rows)").length = 10 by decide +kernel, show (L "[:-").length = 3 by decide +kernel, show (L "]").length = 1 by decide +kernel]; simp [dig]
  | turned => decide +kernel
theorem lnL_len {l : Ln} (h : LnOk l) : (lnL l).length ≤ 260 := by
  have := bodyL_len h
  unfold lnL
  rw [List.length_append, show (L "rows = ").length = 7 by decide +kernel]
  omega
theorem joinL_len {S : List Nat} (m : Nat) : ∀ {ps : List (List Nat)}, (∀ p ∈ ps, p.length ≤ m) → (joinL S ps).length ≤ (m + S.length) * ps.length
  | [], _ => Nat.zero_le _
  | [p], h => by
    show p.length ≤ _
    have := h p List.mem_cons_self
    simp only [List.length_cons, List.length_nil]
    omega
  | p :: q :: r, h => by
    have ih := joinL_len (S := S) m (ps := q :: r) fun x hx => h x (List.mem_cons_of_mem _ hx)
    have := h p List.mem_cons_self
    show (p ++ (S ++ joinL S (q :: r))).length ≤ _
    rw [List.length_append, List.length_append, List.length_cons, Nat.mul_succ]
    omega
theorem txtL_len {lns : List Ln} (h : ∀ l ∈ lns, LnOk l) (h8 : lns.length ≤ 8) : (txtL lns).length ≤ 2349 := by
  have := joinL_len (S := [10]) 260 (ps := lns.map lnL ++ [lastL]) fun p hp => by
    rcases List.mem_append.mp hp with q | q
    · obtain ⟨l, hl, rfl⟩ := List.mem_map.mp q
      exact lnL_len (h l hl)
    · rw [List.mem_singleton.mp q]; decide +kernel
  rw [List.length_append, List.length_map] at this
  simp only [List.length_cons, List.length_nil] at this
  unfold txtL
  refine Nat.le_trans this ?_
  have : (260 + (0 + 1)) * (lns.length + (0 + 1)) ≤ 261 * 9 := Nat.mul_le_mul (by omega) (by omega)
  omega
theorem split_txt {lns : List Ln} (h : ∀ l ∈ lns, LnOk l) : Txt.split (mk (txtL lns)) (Str.ofString "\n") = (lns.map lnL ++ [lastL]).map mk := by
  rw [lit_mk, show L "\n" = [10] by decide +kernel]
  refine split_mk (by decide) (by decide) ?_
  refine TL.spl_join (by simp) fun p hp => ?_
  rcases List.mem_append.mp hp with q | q
  · obtain ⟨l, hl, rfl⟩ := List.mem_map.mp q
    exact lnL_free (h l hl)
  · rw [List.mem_singleton.mp q]; decide +kernel
/-- the first sign of a call's text -/
theorem clL_head (c : Cl) : ∃ x r, clL c = x :: r ∧ (x = 109 ∨ x = 102 ∨ x = 116 ∨ x = 100 ∨ x = 105) := by
  have a : ∀ {p q : List Nat} {x : Nat}, p = x :: p.tail → (x = 109 ∨ x = 102 ∨ x = 116 ∨ x = 100 ∨ x = 105) → ∃ y r, p ++ q = y :: r ∧ (y = 109 ∨ y = 102 ∨ y = 116 ∨ y = 100 ∨ y = 105) := fun {p q x} e h => ⟨x, p.tail ++ q, by
    conv => lhs; rw [e]
    rfl, h⟩
  cases c with
  | call k f => cases k with
    | map => exact a (x := 109) (by decide +kernel) (by decide)
    | filter => exact a (x := 102) (by decide +kernel) (by decide)
    | takewhile => exact a (x := 116) (by decide +kernel) (by decide)
    | dropwhile => exact a (x := 100) (by decide +kernel) (by decide)
  | lam b t => cases b with
    | true => exact a (x := 116) (by decide +kernel) (by decide)
    | false => exact a (x := 100) (by decide +kernel) (by decide)
  | first n => exact a (x := 105) (by decide +kernel) (by decide)
  | skip n => exact a (x := 105) (by decide +kernel) (by decide)
  | every k r => exact a (x := 105) (by decide +kernel) (by decide)
def Ln.isComp : Ln → Bool
  | .comp _ _ _ => true
  | _ => false
theorem bodyL_head {l : Ln} (h : l.isComp = false) : ∃ x r, bodyL l = x :: r ∧ 97 ≤ x := by
  have eL : L "list(" = 108 :: (L "list(").tail := by decide +kernel
  have eR : L "list(rows)" = 108 :: (L "list(rows)").tail := by decide +kernel
  cases l with
  | comp a b c => cases h
  | cl c b =>
    cases b with
    | false =>
      obtain ⟨x, r, e, hx⟩ := clL_head c
      exact ⟨x, r, e, by omega⟩
    | true => exact ⟨108, _, by show L "list(" ++ _ = _; rw [eL]; rfl, by decide⟩
  | all => exact ⟨108, _, by show L "list(rows)" ++ _ = _; rw [eR]; rfl, by decide⟩
  | last n => exact ⟨108, _, by show L "list(rows)" ++ _ = _; rw [eR]; rfl, by decide⟩
  | but n => exact ⟨108, _, by show L "list(rows)" ++ _ = _; rw [eR]; rfl, by decide⟩
  | turned => exact ⟨108, _, by show L "list(rows)" ++ _ = _; rw [eR]; rfl, by decide⟩
section
variable {P : Program} {w : World} {K : PySem.W.Frag} {mg : Str → Option Value} {base : Heap}
def spStagesIn (K : PySem.W.Frag) : Sp := fun vs H Q _ => (∃ l : Ln, vs = [.str (mk (lnL l))] ∧ LnOk l ∧ spStages K H Q (lnSg l)) ∨ (vs = [.str (mk lastL)] ∧ Q .non H)
theorem ok_stages_in (T : Tx K mg w) : Ok1 P w K mg base 9 "stages_in" ["line"] (spStagesIn K) := by
  have nd := sc_stages_in.nd
  obtain ⟨tB, eB⟩ := T.s_BEGIN
  refine T.d_stages_in.mk sc_stages_in bn_stages_in (fun vs H Q E h => ?_) (fun cdv A outer s H vs Q E hr h => ?_)
  · rcases h with ⟨l, rfl, _⟩ | ⟨rfl, _⟩ <;> rfl
  · refine ⟨_, pss_cons (ps_set (i := 1) nd rfl (.inl rfl) (pe_g (ok_inside T) (hr.mono (by decide)) (pa_cons (pv 0) (pa_cons (pe_glob (v := .str "rows = ") (by rfl) eB ⟨_, rfl⟩) (pa_cons pe_str pa_nil)))))
      (pss_cons (ps_if (pt_cmpR op_isN (pv 1) pe_non (nomark _)) (pss_one (ps_ret pe_non)) pss_nil)
      (pss_cons (ps_for PassesOwn.never rfl (pi_tup (pe_tup (pa_cons (pe_tup (pa_cons pe_str (pa_cons pe_str pa_nil))) (pa_cons (pe_tup (pa_cons pe_str (pa_cons pe_str pa_nil))) pa_nil)))) (pg_tup (by rfl) (pgs_cons (pg_name (i := 2) nd rfl (.inl rfl)) (pgs_cons (pg_name (i := 3) nd rfl (.inl rfl)) pgs_nil)))
          (pss_cons (ps_set (i := 4) nd rfl (.inl rfl) (pe_g (ok_inside T) (hr.mono (by decide)) (pa_cons (pv 1) (pa_cons (pv 2) (pa_cons (pv 3) pa_nil)))))
          (pss_one (ps_if (pt_cmpR op_notN (pv 4) pe_non (nomark _)) (pss_one (ps_ret (pe_g (ok_comprehension_in T) (hr.mono (by decide)) (pa_cons (pv 4) (pa_cons (pe_cmpR op_eq (pv 2) pe_str (nomark _)) pa_nil))))) pss_nil))))
      (pss_cons (ps_set (i := 5) nd rfl (.inl rfl) (pe_g (ok_inside T) (hr.mono (by decide)) (pa_cons (pv 1) (pa_cons pe_str (pa_cons pe_str pa_nil)))))
      (pss_cons (ps_if (pt_cmpR op_notN (pv 5) pe_non (nomark _)) (pss_one (ps_ret (pe_g (ok_list_in T) (hr.mono (by decide)) (pa_cons (pv 5) pa_nil)))) pss_nil)
      (pss_cons (ps_set (i := 4) nd rfl (.inl rfl) (pe_g (ok_inside T) (hr.mono (by decide)) (pa_cons (pv 1) (pa_cons pe_str (pa_cons pe_str pa_nil)))))
      (pss_one (ps_ret (pe_ifExp (pt_cmpR op_isN (pv 4) pe_non (nomark _)) (pe_g (ok_call_in T) hr (pa_cons (pv 1) (pa_cons pe_bl pa_nil))) (pe_g (ok_call_in T) hr (pa_cons (pv 4) (pa_cons pe_bl pa_nil))))))))))), ?_⟩
    have e0 : L "" = [] := by decide +kernel
    rcases h with ⟨l, rfl, ho, q⟩ | ⟨rfl, q⟩
    · have hz := lnL_len ho
      have hbz := bodyL_len ho
      refine ⟨_, rfl, mk (lnL l), "rows = ", "", some (bodyL l), rfl, by rw [len_mk]; omega, by decide +kernel, by decide +kernel, (by rw [tl_mk', tl_lit, tl_lit, e0]; exact ins_front rfl), ?_⟩
      refine ⟨_, rfl, rfl, _, rfl, ?_⟩
      refine ifF rfl ?_
      have hb : (mk (bodyL l)).length ≤ 1000 := by rw [len_mk]; omega
      refine ⟨by show 2 ≤ sizeLine; decide, fun p1 np1 => ⟨by show 2 ≤ sizeLine; decide, fun p2 np2 => ⟨by show 2 ≤ sizeLine; decide, fun p3 np3 => ⟨p3, rfl, ⟨_, SqT.of upd_same⟩, ?_⟩⟩⟩⟩
      have s1 := same_new (o := .tup [.str "[", .str "]"]) np1
      have s2 := same_new (o := .tup [.str "(", .str ")"]) np2
      have s3 := same_new (o := .tup [.ref p1, .ref p2]) np3
      have s0 := (s1.trans s2).trans s3
      generalize hH3 : upd (upd (upd H p1 (.tup [.str "[", .str "]"])) p2 (.tup [.str "(", .str ")"])) p3 (.tup [.ref p1, .ref p2]) = H3
      rw [hH3] at s3 s0
      have hp1 : H3 p1 = some (.tup [.str "[", .str "]"]) := s3 _ _ (s2 _ _ upd_same)
      have hp2 : H3 p2 = some (.tup [.str "(", .str ")"]) := s3 _ _ upd_same
      have hp3 : H3 p3 = some (.tup [.ref p1, .ref p2]) := by rw [← hH3]; exact upd_same
      refine for_tup (xs := [.ref p1, .ref p2]) (fun i σ H' => H' = H3 ∧ (∃ o2 o3 o4, σ = [some (.str (mk (lnL l))), some (.str (mk (bodyL l))), o2, o3, o4, none]) ∧ (i = 0 ∨ (i = 1 ∧ ∀ a b, l ≠ .comp a b true) ∨ (i = 2 ∧ l.isComp = false)))
        ⟨rfl, ⟨_, _, _, rfl⟩, .inl rfl⟩ (fun i σ H' _ p => by rw [p.1]; exact SqT.of hp3) (fun i x σ H' hx p => ?_) (fun σ H' p => ?_)
      · obtain ⟨rfl, ⟨o2, o3, o4, rfl⟩, hi⟩ := p
        rcases hi with rfl | ⟨rfl, hi⟩ | ⟨rfl, hi⟩
        · cases hx
          refine ⟨p1, _, rfl, SqT.of hp1, rfl, _, _, rfl, _, _, rfl, rfl, ?_⟩
          have no : (∀ a b, l ≠ .comp a b true) → insideL (bodyL l) (L "[") (L "]") = none := fun hn => by
            refine ins_none 0 (by decide +kernel) ?_
            rw [show L "[" = [91] by decide +kernel]
            cases hc : l.isComp with
            | true =>
              cases l with
              | comp a b c => cases c with
                | true => exact absurd rfl (hn a b)
                | false => show ([40] ++ _)[0]? ≠ _; simp
              | _ => cases hc
            | false =>
              obtain ⟨x, r, e, hx⟩ := bodyL_head hc
              rw [e]
              simp
              omega
          by_cases hcm : ∃ a b, l = .comp a b true
          · obtain ⟨a, b, rfl⟩ := hcm
            refine ⟨_, rfl, _, rfl, _, rfl, mk (bodyL (.comp a b true)), "[", "]", some (compL a b), rfl, hb, by decide +kernel, by decide +kernel, (by rw [tl_mk', tl_lit, tl_lit, show L "[" = [91] by decide +kernel, show L "]" = [93] by decide +kernel]; exact ins_some rfl), ?_⟩
            refine ⟨_, rfl, rfl, _, rfl, ?_⟩
            refine ifT rfl ?_
            refine ⟨_, rfl, _, rfl, rfl, a, b, true, ?_, ho, fun H' p xs sm => q H' p xs (s0.trans sm)⟩
            exact congrArg (fun z => [V.str (mk (compL a b)), V.bl z]) (by decide +kernel)
          · have hn : ∀ a b, l ≠ .comp a b true := fun a b z => hcm ⟨a, b, z⟩
            refine ⟨_, rfl, _, rfl, _, rfl, mk (bodyL l), "[", "]", none, rfl, hb, by decide +kernel, by decide +kernel, (by rw [tl_mk', tl_lit, tl_lit]; exact no hn), ?_⟩
            refine ⟨_, rfl, rfl, _, rfl, ?_⟩
            refine ifF rfl ?_
            exact ⟨rfl, ⟨_, _, _, rfl⟩, .inr (.inl ⟨rfl, hn⟩)⟩
        · cases hx
          refine ⟨p2, _, rfl, SqT.of hp2, rfl, _, _, rfl, _, _, rfl, rfl, ?_⟩
          cases hc : l.isComp with
          | true =>
            cases l with
            | comp a b c => cases c with
              | true => exact absurd rfl (hi a b)
              | false =>
                refine ⟨_, rfl, _, rfl, _, rfl, mk (bodyL (.comp a b false)), "(", ")", some (compL a b), rfl, hb, by decide +kernel, by decide +kernel, (by rw [tl_mk', tl_lit, tl_lit, show L "(" = [40] by decide +kernel, show L ")" = [41] by decide +kernel]; exact ins_some rfl), ?_⟩
                refine ⟨_, rfl, rfl, _, rfl, ?_⟩
                refine ifT rfl ?_
                refine ⟨_, rfl, _, rfl, rfl, a, b, false, ?_, ho, fun H' p xs sm => q H' p xs (s0.trans sm)⟩
                exact congrArg (fun z => [V.str (mk (compL a b)), V.bl z]) (by decide +kernel)
            | _ => cases hc
          | false =>
            refine ⟨_, rfl, _, rfl, _, rfl, mk (bodyL l), "(", ")", none, rfl, hb, by decide +kernel, by decide +kernel, ?_, ?_⟩
            · rw [tl_mk', tl_lit, tl_lit]
              refine ins_none 0 (by decide +kernel) ?_
              rw [show L "(" = [40] by decide +kernel]
              obtain ⟨x, r, e, hx⟩ := bodyL_head hc
              rw [e]
              simp
              omega
            refine ⟨_, rfl, rfl, _, rfl, ?_⟩
            refine ifF rfl ?_
            exact ⟨rfl, ⟨_, _, _, rfl⟩, .inr (.inr ⟨rfl, rfl⟩)⟩
        · cases hx
      · obtain ⟨rfl, ⟨o2, o3, o4, rfl⟩, hi⟩ := p
        have hc : l.isComp = false := by
          rcases hi with hi | ⟨hi, _⟩ | ⟨_, hi⟩
          · cases hi
          · cases hi
          · exact hi
        have listed : ∀ l', l = l' → (match l' with | .all => True | .last _ => True | .but _ => True | .turned => True | _ => False) → bodyL l = L "list(rows)" ++ tailL l → insideL (bodyL l) (L "list(rows)") [] = some (tailL l) := fun l' _ _ e => ins_front e
        have goList : (match l with | .all => True | .last _ => True | .but _ => True | .turned => True | _ => False) → bodyL l = L "list(rows)" ++ tailL l → ∃ r, insideL (bodyL l) (L "list(rows)") [] = r ∧ r = some (tailL l) := fun _ e => ⟨_, rfl, ins_front e⟩
        cases l with
        | comp a b c => cases hc
        | cl c b =>
          obtain ⟨x, r, e, hx⟩ := clL_head c
          have eL5 : L "list(" = [108, 105, 115, 116, 40] := by decide +kernel
          have eL10 : L "list(rows)" = [108, 105, 115, 116, 40, 114, 111, 119, 115, 41] := by decide +kernel
          refine ⟨_, rfl, mk (bodyL (.cl c b)), "list(rows)", "", none, rfl, hb, by decide +kernel, by decide +kernel, ?_, ?_⟩
          · rw [tl_mk', tl_lit, tl_lit, e0, eL10]
            cases b with
            | true =>
              refine ins_none 5 (by decide) ?_
              show (L "list(" ++ (clL c ++ [41]))[5]? ≠ _
              rw [eL5, e]
              simp
              omega
            | false =>
              refine ins_none 0 (by decide) ?_
              show (clL c)[0]? ≠ _
              rw [e]
              simp
              omega
          refine ⟨_, rfl, rfl, _, rfl, ?_⟩
          refine ifF rfl ?_
          cases b with
          | true =>
            refine ⟨_, rfl, mk (bodyL (.cl c true)), "list(", ")", some (clL c), rfl, hb, by decide +kernel, by decide +kernel, (by rw [tl_mk', tl_lit, tl_lit, show L ")" = [41] by decide +kernel]; exact ins_some rfl), ?_⟩
            refine ⟨_, rfl, rfl, _, rfl, ?_⟩
            refine ifF rfl ?_
            exact ⟨_, rfl, c, true, rfl, ho, fun H' p xs sm => q H' p xs (s0.trans sm)⟩
          | false =>
            refine ⟨_, rfl, mk (bodyL (.cl c false)), "list(", ")", none, rfl, hb, by decide +kernel, by decide +kernel, ?_, ?_⟩
            · rw [tl_mk', tl_lit, tl_lit, eL5]
              refine ins_none 0 (by decide) ?_
              show (clL c)[0]? ≠ _
              rw [e]
              simp
              omega
            refine ⟨_, rfl, rfl, _, rfl, ?_⟩
            refine ifT rfl ?_
            exact ⟨_, rfl, c, false, rfl, ho, fun H' p xs sm => q H' p xs (s0.trans sm)⟩
        | all =>
          refine ⟨_, rfl, mk (bodyL .all), "list(rows)", "", some (tailL .all), rfl, hb, by decide +kernel, by decide +kernel, (by rw [tl_mk', tl_lit, tl_lit, e0]; exact ins_front rfl), ?_⟩
          refine ⟨_, rfl, rfl, _, rfl, ?_⟩
          refine ifT rfl ?_
          exact ⟨_, rfl, .all, rfl, ho, trivial, fun H' p xs sm => q H' p xs (s0.trans sm)⟩
        | last n =>
          refine ⟨_, rfl, mk (bodyL (.last n)), "list(rows)", "", some (tailL (.last n)), rfl, hb, by decide +kernel, by decide +kernel, (by rw [tl_mk', tl_lit, tl_lit, e0]; exact ins_front rfl), ?_⟩
          refine ⟨_, rfl, rfl, _, rfl, ?_⟩
          refine ifT rfl ?_
          exact ⟨_, rfl, .last n, rfl, ho, trivial, fun H' p xs sm => q H' p xs (s0.trans sm)⟩
        | but n =>
          refine ⟨_, rfl, mk (bodyL (.but n)), "list(rows)", "", some (tailL (.but n)), rfl, hb, by decide +kernel, by decide +kernel, (by rw [tl_mk', tl_lit, tl_lit, e0]; exact ins_front rfl), ?_⟩
          refine ⟨_, rfl, rfl, _, rfl, ?_⟩
          refine ifT rfl ?_
          exact ⟨_, rfl, .but n, rfl, ho, trivial, fun H' p xs sm => q H' p xs (s0.trans sm)⟩
        | turned =>
          refine ⟨_, rfl, mk (bodyL .turned), "list(rows)", "", some (tailL .turned), rfl, hb, by decide +kernel, by decide +kernel, (by rw [tl_mk', tl_lit, tl_lit, e0]; exact ins_front rfl), ?_⟩
          refine ⟨_, rfl, rfl, _, rfl, ?_⟩
          refine ifT rfl ?_
          exact ⟨_, rfl, .turned, rfl, ho, trivial, fun H' p xs sm => q H' p xs (s0.trans sm)⟩
    · refine ⟨_, rfl, mk lastL, "rows = ", "", none, rfl, by rw [len_mk]; decide +kernel, by decide +kernel, by decide +kernel, (by rw [tl_mk', tl_lit, tl_lit]; decide +kernel), ?_⟩
      refine ⟨_, rfl, rfl, _, rfl, ?_⟩
      refine ifT rfl ?_
      exact q
end
end K

set_option Elab.async false
set_option linter.all false
set_option maxRecDepth 100000
set_option maxHeartbeats 4000000
/-! KF9: callflows.reading: read_stages. -/
namespace K
open PySem PySem.Spec PyProof.Rows L2 He TL
theorem takeWhile_short {α : Type} {p : α → Bool} : ∀ {l : List α}, (∃ x ∈ l, p x = false) → (l.takeWhile p).length < l.length
  | [], h => by obtain ⟨x, hx, _⟩ := h; cases hx
  | a :: r, h => by
    rw [List.takeWhile_cons]
    by_cases ha : p a = true
    · rw [if_pos ha]
      have : ∃ x ∈ r, p x = false := by
        obtain ⟨x, hx, hp⟩ := h
        rcases List.mem_cons.mp hx with e | hx
        · rw [e, ha] at hp; cases hp
        · exact ⟨x, hx, hp⟩
      have := takeWhile_short this
      simp only [List.length_cons]
      omega
    · rw [if_neg ha]
      simp
/-- a text whose first sign stays is not empty behind strip -/
theorem strip_ne {x y : Str} {c : Nat} {r : List Nat} (e : tl x = c :: r) (h : y.cps.contains c = false) : Txt.stripChars x y ≠ Str.ofString "" := fun z => by
  have e2 := congrArg tl z
  have h1 : Txt.stripChars x y = PySem.Builtin.Str.strSub x (stripLo y.cps.contains true x) (stripHi y.cps.contains true x (stripLo y.cps.contains true x)) := stripBy_eq _ _ _ x
  have h2 : stripLo y.cps.contains true x = 0 := by
    unfold stripLo
    rw [if_pos rfl]
    show ((tl x).takeWhile _).length = 0
    rw [e, List.takeWhile_cons, h]
    rfl
  rw [h1, h2, tl_strSub, List.drop_zero, Nat.sub_zero, tl_lit] at e2
  have h3 : 1 ≤ stripHi y.cps.contains true x 0 := by
    unfold stripHi
    rw [if_pos rfl, List.drop_zero]
    have h4 : ((tl x).reverse.takeWhile y.cps.contains).length < (tl x).reverse.length := takeWhile_short ⟨c, by rw [e]; simp, h⟩
    rw [List.length_reverse] at h4
    have := len_tl x
    show 1 ≤ x.length - ((tl x).reverse.takeWhile y.cps.contains).length
    omega
  have e3 := congrArg List.length e2
  rw [List.length_take, e] at e3
  simp only [List.length_cons] at e3
  have : (L "").length = 0 := by decide +kernel
  omega
theorem lnSg_ne (l : Ln) : 1 ≤ (lnSg l).length := by
  cases l with
  | comp w cs now =>
    show 1 ≤ (bear now (compSg w cs)).length
    rw [bear_len]
    unfold compSg
    rw [List.length_append, List.length_map]
    split
    · rename_i z
      have := List.length_pos_iff.mpr z.2
      simp; omega
    · simp
  | _ => exact Nat.le_refl _
theorem flat_take {l : List (List SgL)} (i : Nat) : (l.take i).flatten.length ≤ l.flatten.length := by
  have : l.flatten = (l.take i).flatten ++ (l.drop i).flatten := by rw [← List.flatten_append, List.take_append_drop]
  rw [this, List.length_append]
  omega
def sgsOf (lns : List Ln) : List SgL := (lns.map lnSg).flatten
section
variable {P : Program} {w : World} {K : PySem.W.Frag} {mg : Str → Option Value} {base : Heap}
def spReadStages (K : PySem.W.Frag) : Sp := fun vs H Q _ => ∃ lns : List Ln, vs = [.str (mk (txtL lns))] ∧ (∀ l ∈ lns, LnOk l) ∧ (sgsOf lns).length ≤ 8 ∧ lns.length ≤ 8 ∧ spStages K H Q (sgsOf lns)
theorem ok_read_stages (T : Tx K mg w) : Ok1 P w K mg base 10 "read_stages" ["text"] (spReadStages K) := by
  have nd := sc_read_stages.nd
  obtain ⟨tM, eM⟩ := T.i_MOST_STAGES
  obtain ⟨tL, eL⟩ := T.s_LAST_LINE
  refine T.d_read_stages.mk sc_read_stages bn_read_stages (fun vs H Q E h => ?_) (fun cdv A outer s H vs Q E hr h => ?_)
  · obtain ⟨lns, rfl, _⟩ := h
    rfl
  · obtain ⟨lns, rfl, ho, h8, hl8, q⟩ := h
    refine ⟨_, pss_cons (ps_set (i := 1) nd rfl (.inl rfl) (pe_split (pv 0) pe_str))
      (pss_cons (ps_asg (pe_tup (pa_cons (pe_tup pa_nil) (pa_cons pe_bl pa_nil))) (pg_tup (by rfl) (pgs_cons (pg_name (i := 2) nd rfl (.inl rfl)) (pgs_cons (pg_name (i := 3) nd rfl (.inl rfl)) pgs_nil))))
      (pss_cons (ps_for PassesOwn.never rfl (pi_enum (by rfl) T.z_enumerate (pa_cons (pv 1) pa_nil)) (pg_tup (by rfl) (pgs_cons (pg_name (i := 4) nd rfl (.inl rfl)) (pgs_cons (pg_name (i := 5) nd rfl (.inl rfl)) pgs_nil)))
        (pss_one (ps_if (pt_cmpR op_ne (pe_m1 F.slot_str_strip F.type_str_strip mt_stripChars (pv 5) pe_str) pe_str (nomark _))
          (pss_cons (ps_set (i := 6) nd rfl (.inl rfl) (pe_ifExp (pt_val (pv 3)) pe_non (pe_g (ok_stages_in T) hr (pa_cons (pv 5) pa_nil))))
          (pss_one (ps_if (PW.pt (pw_and (pt_cmpR op_notN (pv 6) pe_non (nomark _)) (pw_and1 (pt_cmpR op_le (pe_op op_add (pe_callB call_len_seq (by rfl) T.z_len bt_len (pa_cons (pv 2) pa_nil)) (pe_callB call_len_seq (by rfl) T.z_len bt_len (pa_cons (pv 6) pa_nil))) (pe_glob (v := .int 8) (by rfl) eM ⟨_, rfl⟩) (nomark _)))))
            (pss_one (ps_aug (i := 2) nd rfl (.inl rfl) (pv 6) iop_catA))
            (pss_one (ps_if (PW.pt (pw_and (pt_cmpR op_eq (pv 5) (pe_glob (v := .str "return list(rows)") (by rfl) eL ⟨_, rfl⟩) (nomark _)) (pw_and1 (pt_not (pt_val (pv 3))))))
              (pss_one (ps_set (i := 3) nd rfl (.inl rfl) pe_bl)) pss_never))))) pss_nil)))
      (pss_cons (ps_if (pt_not (pt_val (pv 3))) pss_never pss_nil)
      (pss_one (ps_ret (pv 2)))))), ?_⟩
    have hz := txtL_len ho hl8
    refine ⟨_, rfl, ⟨_, rfl⟩, mk (txtL lns), _, rfl, rfl, by decide +kernel, by rw [len_mk]; exact Nat.le_trans (show _ ≤ 2400 by omega) (by decide), fun p np => ?_⟩
    rw [split_txt ho]
    generalize hP : ((lns.map lnL ++ [lastL]).map mk).map V.str = LP
    have lP : LP.length = lns.length + 1 := by rw [← hP]; simp
    have atP : ∀ (i : Nat) (l : Ln), lns[i]? = some l → LP[i]? = some (V.str (mk (lnL l))) := fun i l h => by
      have hi : i < lns.length := by
        rcases Nat.lt_or_ge i lns.length with z | z
        · exact z
        · rw [List.getElem?_eq_none z] at h; cases h
      rw [← hP, List.getElem?_map, List.getElem?_map, List.getElem?_append_left (by simpa using hi), List.getElem?_map, h]
      rfl
    have atL : LP[lns.length]? = some (V.str (mk lastL)) := by
      rw [← hP, List.getElem?_map, List.getElem?_map, List.getElem?_append_right (by simp)]
      simp
    have sp1 := same_new (o := .lst LP) np
    refine ⟨by decide, fun p2 np2 => ⟨by show 2 ≤ sizeLine; decide, fun p3 np3 => ⟨p3, _, rfl, SqT.of upd_same, rfl, _, _, rfl, _, _, rfl, rfl, ?_⟩⟩⟩
    have sp2 := (same_new (o := .tup []) np2).trans (same_new (o := .tup [.ref p2, .bl false]) np3)
    have hp2 : SqT K (upd (upd (upd H p (.lst LP)) p2 (.tup [])) p3 (.tup [.ref p2, .bl false])) p2 [] := SqT.of (same_new np3 _ _ upd_same)
    refine ⟨_, rfl, p, LP, rfl, SqL.of (sp2 _ _ upd_same), ?_⟩
    refine for_it (walk_enum (xs := LP)) (fun i σ H' => Same (upd (upd (upd H p (.lst LP)) p2 (.tup [])) p3 (.tup [.ref p2, .bl false])) H' ∧ ∃ a xs o4 o5 o6, σ = [some (.str (mk (txtL lns))), some (.ref p), some (.ref a), some (.bl (decide (lns.length < i))), o4, o5, o6] ∧ SqT K H' a xs ∧ Sts K H' xs (sgsOf (lns.take i)))
      ⟨Same.refl _, p2, [], _, _, _, rfl, hp2, ⟨rfl, fun i y sg h1 h2 => by simp at h1⟩⟩ (fun i σ H' _ h => SqL.of (h.1 _ _ (sp2 _ _ upd_same))) (fun i x σ H1 H2 hi hp hy => ?_) (fun σ H' hp => ?_)
    · obtain ⟨s1, a, xs, o4, o5, o6, rfl, hS, hT⟩ := hp
      obtain ⟨Tp, iv, y, rfl, nT, rfl, e1, e2⟩ := hy
      cases e1
      have sT := same_new (o := .tup [.int (i : Nat), y]) nT
      refine ⟨Tp, _, rfl, SqT.of upd_same, rfl, _, _, rfl, _, _, rfl, rfl, ?_⟩
      have hS2 := same_seqT sT hS
      have hT2 := hT.sml (SmL.of sT)
      cases hli : lns[i]? with
      | some l =>
        have hlt : i < lns.length := by
          rcases Nat.lt_or_ge i lns.length with z | z
          · exact z
          · rw [List.getElem?_eq_none z] at hli; cases hli
        have hlo := ho l (List.mem_of_getElem? hli)
        have ey := atP i l hli
        have e2' : LP[i]? = some y := e2
        rw [ey] at e2'
        cases e2'
        have hll := lnL_len hlo
        refine ⟨_, rfl, ⟨_, rfl⟩, mk (lnL l), _, rfl, rfl, by rw [len_mk]; exact small_line (by omega), rfl, _, rfl, ?_⟩
        have hne : Txt.stripChars (mk (lnL l)) (Str.ofString " ") ≠ Str.ofString "" := strip_ne (c := 114) (r := (L "rows = ").tail ++ bodyL l) (by
          show L "rows = " ++ bodyL l = _
          rw [show L "rows = " = 114 :: (L "rows = ").tail by decide +kernel]
          rfl) (by decide +kernel)
        refine ifT (by
          show (!decide (V.str (Txt.stripChars (mk (lnL l)) (Str.ofString " ")) = V.str (Str.ofString ""))) = true
          rw [decide_eq_false (fun z => hne (by injection z))]
          rfl) ?_
        have hd : decide (lns.length < i) = false := decide_eq_false (by omega)
        have hd2 : decide (lns.length < i + 1) = false := decide_eq_false (by omega)
        rw [hd]
        refine ⟨_, rfl, false, rfl, ?_⟩
        refine iteF ⟨_, rfl, .inl ⟨l, rfl, hlo, fun H3 b ys sm3 hb hys => ?_⟩⟩
        refine ⟨_, rfl, rfl, _, rfl, ?_⟩
        refine ifT rfl ?_
        have hS3 := same_seqT sm3 hS2
        have hT3 := hT2.sml (SmL.of sm3)
        have esg : sgsOf (lns.take (i + 1)) = sgsOf (lns.take i) ++ lnSg l := by
          unfold sgsOf
          rw [List.take_add_one, hli, List.map_append, List.flatten_append]
          simp
        have hlen : (sgsOf (lns.take (i + 1))).length ≤ 8 := by
          have := flat_take (l := lns.map lnSg) (i + 1)
          rw [← List.map_take] at this
          exact Nat.le_trans this h8
        rw [esg, List.length_append] at hlen
        have lx := hT3.1
        have ly := hys.1
        have lne := lnSg_ne l
        refine ⟨_, rfl, a, xs, rfl, .inr hS3, _, rfl, b, ys, rfl, .inr hb, _, _, rfl, rfl, _, _, rfl, rfl, _, rfl, ?_⟩
        refine ifT (decide_eq_true (by omega)) ?_
        have s3 := (s1.trans sT).trans sm3
        refine ⟨_, rfl, _, rfl, a, b, xs, ys, rfl, rfl, hS3, hb, Nat.le_trans (show _ ≤ 8 by omega) (by decide), fun hx => ?_, fun hx => ⟨fun hy => ?_, fun p5 np5 => ?_⟩⟩
        · refine ⟨s3, b, ys, _, _, _, by rw [hd2]; rfl, hb, ?_⟩
          rw [esg]
          have : sgsOf (lns.take i) = [] := List.length_eq_zero_iff.mp (by rw [← lx, hx]; rfl)
          rw [this]
          exact hys
        · rw [hy] at ly
          simp only [List.length_nil] at ly
          omega
        · refine ⟨s3.trans (same_new np5), p5, xs ++ ys, _, _, _, by rw [hd2]; rfl, SqT.of upd_same, ?_⟩
          rw [esg]
          exact (Sts.append hT3 hys).sml (SmL.of (same_new np5))
      | none =>
        have hge : lns.length ≤ i := by
          rcases Nat.lt_or_ge i lns.length with z | z
          · rw [List.getElem?_eq_getElem z] at hli; cases hli
          · exact z
        have ei : i = lns.length := by omega
        subst ei
        have e2' : LP[lns.length]? = some y := e2
        rw [atL] at e2'
        cases e2'
        refine ⟨_, rfl, ⟨_, rfl⟩, mk lastL, _, rfl, rfl, by rw [len_mk]; exact Nat.le_trans (show lastL.length ≤ 17 by decide +kernel) (by decide), rfl, _, rfl, ?_⟩
        refine ifT (by decide +kernel) ?_
        have hd : decide (lns.length < lns.length) = false := decide_eq_false (by omega)
        have hd2 : decide (lns.length < lns.length + 1) = true := decide_eq_true (by omega)
        rw [hd]
        refine ⟨_, rfl, false, rfl, ?_⟩
        refine iteF ⟨_, rfl, .inr ⟨rfl, ?_⟩⟩
        refine ⟨_, rfl, rfl, _, rfl, ?_⟩
        refine ifF rfl ?_
        refine ⟨_, rfl, rfl, _, rfl, ?_⟩
        refine ifT (by decide +kernel) ?_
        refine ⟨_, rfl, _, rfl, ?_⟩
        refine iteT ?_
        refine ⟨s1.trans sT, a, xs, _, _, _, by rw [hd2]; rfl, hS2, ?_⟩
        have e3 : lns.take (lns.length + 1) = lns.take lns.length := by rw [List.take_of_length_le (by omega), List.take_of_length_le (by omega)]
        rw [e3]
        exact hT2
    · obtain ⟨s1, a, xs, o4, o5, o6, rfl, hS, hT⟩ := hp
      have hd : decide (lns.length < LP.length) = true := decide_eq_true (by omega)
      rw [hd]
      refine ⟨_, rfl, _, rfl, ?_⟩
      refine iteF ?_
      refine ⟨_, rfl, q H' a xs ((sp1.trans sp2).trans s1) hS ?_⟩
      rw [List.take_of_length_le (by omega)] at hT
      exact hT
end
end K

set_option Elab.async false
set_option linter.all false
set_option maxRecDepth 100000
set_option maxHeartbeats 4000000
/-! KE1: enumerate of a tuple. -/
namespace K
section
open PySem PySem.Spec PySem.Builtin PySem.Builtin.Str
open AutoSeq1 (wpAny_loadPart')
theorem Draws_tuple {prog : Program} {w : World} {A : Around} (hh : A.handled = none) (it l : Addr) (hne : l ≠ it) (items : Array Value) :
    Draws prog w A it [it, l] items.size (fun i v => items[i]? = some v) (fun i h => h.IsTupleIter it l i ∧ h.IsTuple l items) where
  live := fun _ _ st => let ⟨o, ho, _⟩ := st.1; ⟨o, ho⟩
  frame := fun _ _ _ st hk => ⟨st.1.at fun o e => hk it (by simp) o e, st.2.at fun o e => hk l (by simp) o e⟩
  item := fun i s Q E hi st hQ => by
    refine wpAny_nextOf_tuple_item st.1 st.2 (x := items[i]) (by simp [hi]) fun h' hit' hs' => ?_
    exact hQ _ h' s.toks (by simp [hi]) ⟨hit', st.2.at fun o e => (hs'.2 l hne).trans e⟩ hs'
  done := fun s Q E st hE => wpAny_nextOf_tuple_end hh st.1 st.2 (by simp) hE
theorem meets_enumerate_newT (l : Addr) (items : Array Value) (n : Nat) (dct : Option Addr) (sl : Array (Option Value)) :
    Meets (Builtin.«enumerate.__new__» ⟨[.type "enumerate", .ref l], []⟩) (fun _ R s => s.heap.get? l = some { cls := .type "tuple", dict := dct, data := .seq items n, slots := sl } ∧
      R (.ok (.ret (.ref (s.heap.push { cls := .type "tuple_iterator", data := .fields #[.ref l, .int 0 0] }).objs.size)))
        { s with heap := (s.heap.push { cls := .type "tuple_iterator", data := .fields #[.ref l, .int 0 0] }).push { cls := .type "enumerate", data := .fields #[.none, .bool false, .ref s.heap.objs.size, rawInt 0, .none, .none] } }) :=
  .of_wp fun prog w A R s h => by
    obtain ⟨hp, g, d, tk, os⟩ := s; obtain ⟨hl, h⟩ := h
    have hsub := sub_enumerate
    have hL : Heap.IsTuple (Shared.heap ⟨hp, g, d, tk, os⟩) l items := ⟨_, hl, rfl, n, rfl⟩
    wp_walk using wpAny_loadPart' hl
    refine wpAny_stack_any fun st => wpAny_pure ?_
    split
    · rename_i c _ _ _ _ _
      cases (c == Value.type "enumerate")
      · wp_walk using wpAny_loadPart' hl, wpAny_pyIter_tuple hL
        exact ⟨_, rfl, h⟩
      · wp_walk using wpAny_loadPart' hl, wpAny_pyIter_tuple hL
        exact ⟨_, rfl, h⟩
    · wp_walk using wpAny_loadPart' hl, wpAny_pyIter_tuple hL
      exact ⟨_, rfl, h⟩
theorem call_enumerate_tuple {prog : Program} {w : World} {A : Around} {E : Value → Shared → Prop} {s : Shared} {l : Addr} {items : Array Value} {Q : Value → Shared → Prop} (hL : s.heap.IsTuple l items)
    (h : ∀ h', IsEnum h' (s.heap.objs.size + 1) s.heap.objs.size 0 .none → h'.IsTupleIter s.heap.objs.size l 0 → h'.objs.size = s.heap.objs.size + 2 →
      (∀ b o, s.heap.get? b = some o → h'.get? b = some o) → Q (.ref (s.heap.objs.size + 1)) { s with heap := h' }) :
    wpAny (model prog w) A (call (.type "enumerate") [.ref l]) Q E s := by
  obtain ⟨⟨c, dct, dt, sl⟩, hl, hc, n, hd⟩ := hL
  replace hc : c = .type "tuple" := hc
  replace hd : dt = .seq items n := hd
  subst hc hd
  refine callType_new F.called_enumerate (by decide) (F.typeCall_enumerate_1 _) (F.newCall_enumerate_1 _) (fun obj => F.args_object_init_2 obj _) F.entry_enumerate_new
    (meets_enumerate_newT l items n dct sl) ⟨hl, ?_⟩
  have hz : (s.heap.push { cls := .type "tuple_iterator", data := .fields #[.ref l, .int 0 0] }).objs.size = s.heap.objs.size + 1 := Heap.size_push ..
  show _ ∧ _
  rw [hz]
  have he : IsEnum ((s.heap.push { cls := .type "tuple_iterator", data := .fields #[.ref l, .int 0 0] }).push
      { cls := .type "enumerate", data := .fields #[.none, .bool false, .ref s.heap.objs.size, rawInt 0, .none, .none] }) (s.heap.objs.size + 1) s.heap.objs.size 0 .none := by
    have := Heap.get?_push_size (s.heap.push { cls := .type "tuple_iterator", data := .fields #[.ref l, .int 0 0] })
      (o := { cls := .type "enumerate", data := .fields #[.none, .bool false, .ref s.heap.objs.size, rawInt 0, .none, .none] }) rfl
    rw [hz] at this; exact this
  refine ⟨⟨_, he, rfl⟩, h _ he ⟨_, Heap.get?_push_of_some _ (Heap.get?_push_size _ rfl), rfl, rfl⟩ (by rw [Heap.size_push, hz]) fun b o x => Heap.get?_push_of_some _ (Heap.get?_push_of_some _ x)⟩
end
open PySem PySem.Spec PyProof.Rows L2 He
/-- the tuple at a as it stands at each turn, each item in a new pair -/
def IteT (K : PySem.W.Frag) (a : Addr) : It :=
  ⟨fun i H => ∃ (xs : List V) (x : V), SqT K H a xs ∧ xs[i]? = some x, fun i H v H' => ∃ T x, v = .ref T ∧ H T = none ∧ H' = upd H T (.tup [.int (i : Nat), x]) ∧ ∀ xs, SqT K H a xs → xs[i]? = some x, fun i H => ∃ xs : List V, SqT K H a xs ∧ xs.length ≤ i⟩
theorem turn_enumT {P : Program} {w : World} {K : PySem.W.Frag} {elts : List Expr} {kk : Nat} {tpos : Pos} (a e it : Addr) (ha : a ≠ it) (hae : e ≠ a) :
    Turn P w K (.Tuple elts kk tpos) (IteT K a) [e, it] e (fun i h => (∃ old, IsEnum h e it ((i : Nat) : Int) old) ∧ h.IsTupleIter it a i ∧ e ≠ it) where
  mem := by simp
  obj := fun i h st b hb => by
    obtain ⟨⟨old, he⟩, ⟨o, ho, hc, hd⟩, _⟩ := st
    have e' : b = e ∨ b = it := by simpa using hb
    rcases e' with z | z
    · rw [z]; exact ⟨_, he, fun v q => nomatch q⟩
    · rw [z]; exact ⟨o, ho, fun v q => by rw [hd] at q; cases q⟩
  keep := fun i h h' st k => let ⟨⟨old, he⟩, hi, hne⟩ := st; ⟨⟨old, k e (by simp) _ he⟩, hi.at fun o q => k it (by simp) o q, hne⟩
  item := by
    intro X hP hw hK hc i pins s σ H E I hf st hg
    subst hP hw hK
    obtain ⟨⟨old, he⟩, hit, hne⟩ := st
    obtain ⟨xs, x, hq, hx⟩ := hg
    obtain ⟨its, rv, p, hz⟩ := I.tuple hq
    obtain ⟨u, hu, ru⟩ := rv.get hx
    have hel : e < s.heap.objs.size := Heap.lt_size he
    have hil : it < s.heap.objs.size := by obtain ⟨_, q, _⟩ := hit; exact Heap.lt_size q
    have pT : s.heap.IsTuple a its.toArray := p
    have hlt : i < its.toArray.size := by
      rcases Nat.lt_or_ge i its.toArray.size with z | z
      · exact z
      · rw [List.size_toArray] at z
        rw [List.getElem?_eq_none z] at hu; cases hu
    refine wpAny_pyNext_enum_itemD (Draws_tuple (A := X.A.in1) (show X.A.in1.handled = none from I.ok.hd hc) it a ha its.toArray) he ⟨hit, pT⟩ hlt hne (fun z => by rcases List.mem_cons.mp z with z | z; exact hne z; exact hae (List.mem_singleton.mp z)) fun x' h' tk px ho hst' hT hsz hk => ?_
    have ex : x' = u := by
      have : its.toArray[i]? = some x' := px
      rw [List.getElem?_toArray, hu] at this
      exact (Option.some.inj this).symm
    subst ex
    refine ⟨_, rfl, wpAny_letOwnedTupleGo_enum (s := { s with heap := h', toks := tk + 1 }) ho fun h'' he' sb => ?_⟩
    have hT2 : h''.get? s.heap.objs.size = some { cls := .type "tuple", data := .seq #[.int i tk, x'] } := (sb.2 _ (Nat.ne_of_gt hel)).trans hT
    have new : ObjOk X.prog X.w (upd H s.heap.objs.size (.tup [.int (i : Nat), x])) h'' s.heap.objs.size (.tup [.int (i : Nat), x]) :=
      ⟨by show 2 ≤ sizeLine; decide, [.int i tk, x'], .cons ⟨_, rfl⟩ (.cons ru .nil), ⟨_, hT2, rfl, _, rfl⟩⟩
    have I1 : Inv X pins σ (upd H s.heap.objs.size (.tup [.int (i : Nat), x])) { s with heap := h'', toks := tk + 1 } :=
      I.turnedNew (ch := [e, it]) (fun b ob hb q => (sb.2 b (fun z => hb (by simp [z]))).trans (hk b ob (fun z => hb (by simp [z])) (fun z => hb (by simp [z])) q)) hf (Nat.le_refl _) new
    refine ⟨.ref s.heap.objs.size, _, I1, rfl, ⟨_, x, rfl, I.hok.fresh (Nat.le_refl _), rfl, fun ys hy => by rw [I.tuple_inj hy hq]; exact hx⟩, ⟨⟨x', ?_⟩, hst'.1.at fun o q => (sb.2 it (Ne.symm hne)).trans q, hne⟩, fun b hb => ?_⟩
    · have e1 : ((i + 1 : Nat) : Int) = (i : Int) + 1 := by omega
      rw [e1]; exact he'
    · have hb' : b < s.heap.objs.size := by
        have e' : b = e ∨ b = it := by simpa using hb
        rcases e' with z | z
        · rw [z]; exact hel
        · rw [z]; exact hil
      rw [upd_ne (Nat.ne_of_lt hb')]
      exact (hf b hb).1
  done := by
    intro X hP hw hK hc i pins s σ H E I hf st hg
    subst hP hw hK
    obtain ⟨⟨old, he⟩, hit, hne⟩ := st
    obtain ⟨xs, hq, hx⟩ := hg
    obtain ⟨its, rv, p, hz⟩ := I.tuple hq
    obtain ⟨f0, f1, f2, f3, f4, f5⟩ := hf it (by simp)
    have hl := rv.length
    have pT : s.heap.IsTuple a its.toArray := p
    have hT : s.TypeIs (.ref e) "enumerate" := ⟨_, he, rfl⟩
    unfold pyNext
    refine wpAny_bind (wpAny_attempt (wpAny_callSpecial?_slot (name := Str.ofString "__next__") hT F.slot_enumerate_next
      (wpAny_call_entry F.slot_enumerate_next hT F.entry_enumerate_next ?_ (F.args_enumerate_next_1 _))))
    show wpAny _ _ (PySem.field (.ref e) 2 >>= _) _ _ _
    refine wpAny_bind (wpAny_field he rfl (x := .ref it) rfl ?_)
    refine wpAny_bind (wpAny_nextOf_tuple_end (I.ok.hd hc) hit pT (by rw [List.getElem?_toArray, List.getElem?_eq_none (by omega)]) fun h' x he' hx' => ?_)
    obtain ⟨o, ho, hc'⟩ := hx'
    refine wpAny_bind (wpAny_isInstance (T := "StopIteration") (b := true) ⟨o, ho, hc'⟩ isSubtype_stop ?_)
    exact wpAny_pure ⟨rfl, I.turned (t' := s.toks) (fun b o hb q => he' b o hb q) f0 f1 f3 f4 f5⟩
  self := fun A i s Q E st h => let ⟨⟨_, he⟩, _⟩ := st; wpAny_pyIter_enum he h
def iEnumT (K : PySem.W.Frag) (ta : TA) : TI := fun σ H R => ta σ H fun vs H1 => ∃ a xs, vs = [.ref a] ∧ SqT K H1 a xs ∧ R (IteT K a) H1
theorem pi_enumT {X : Cx} {e : Expr} {ta : TA} {p pos tpos : Pos} {elts : List Expr} {kk : Nat} (hg : Gl X "enumerate") (hm : X.mg "enumerate" = none) (ha : PA X [e] ta) (hs : starEach [e] X.env = [(false, eval e X.env)] := by rfl) :
    PI X (.Tuple elts kk tpos) (.Call (.Name "enumerate" p) [e] [] pos) (iEnumT X.K ta) := by
  refine ⟨fun pins s σ H R I h => ?_⟩
  refine Call_ (ld_blt I hg hm boot_enumerate (PyProof.Rows.callWith_type1 (thn (ha.run pos pins s σ H _ I h) fun us s1 ⟨vs, H1, I1, r1, q1⟩ => ?_) hs rfl))
  obtain ⟨a, xs, ex, hq, q⟩ := q1
  subst ex
  cases r1 with
  | cons r rr =>
    cases rr
    cases r
    obtain ⟨its, rv, p', hz⟩ := I1.tuple hq
    have pT : s1.heap.IsTuple a its.toArray := p'
    have hal : a < s1.heap.objs.size := by obtain ⟨o, e, _⟩ := pT; exact Heap.lt_size e
    refine call_enumerate_tuple pT fun h' he hit hsz hk => wpAny_pyIter_enum he ?_
    have I2 : Inv X pins σ H1 { s1 with heap := h' } := I1.kept (t' := s1.toks) hk
    refine ⟨s1.heap.objs.size + 1, [s1.heap.objs.size + 1, s1.heap.objs.size], _, _, H1, rfl, I2, turn_enumT a (s1.heap.objs.size + 1) s1.heap.objs.size (Nat.ne_of_lt hal) (Nat.ne_of_gt (Nat.lt_succ_of_lt hal)), ⟨⟨.none, he⟩, hit, Nat.succ_ne_self _⟩, fun b hb => ?_, q⟩
    have e' : b = s1.heap.objs.size + 1 ∨ b = s1.heap.objs.size := by simpa using hb
    have hle : s1.heap.objs.size ≤ b := by
      rcases e' with z | z
      · rw [z]; exact Nat.le_add_right _ _
      · rw [z]; exact Nat.le_refl _
    exact I1.fpOk hle (I1.hok.fresh hle)
theorem walk_enumT {K : PySem.W.Frag} {a : Addr} {xs : List V} : Walk (IteT K a) xs.length (fun H => SqT K H a xs) (YPair (fun i => some (.int (i : Nat))) (fun i => xs[i]?)) := by
  refine ⟨fun i _ hi q => ⟨xs, xs[i], q, by simp [hi]⟩, fun _ q => ⟨xs, q, Nat.le_refl _⟩, fun i H v H' _ q y => ?_⟩
  obtain ⟨T, x, h1, h2, h3, h4⟩ := y
  exact ⟨T, .int (i : Nat), x, h1, h2, h3, rfl, h4 xs q⟩
end K

set_option Elab.async false
set_option linter.all false
set_option maxRecDepth 100000
set_option maxHeartbeats 4000000
/-! KF10: callflows.flows; callflows.playing: left_of, is_counted_in. -/
namespace K
open PySem PySem.Spec PyProof.Rows L2 He TL
theorem seqT_upd {K : PySem.W.Frag} {H : Hp} {x a C dx : Addr} {fs : List (Str × V)} {o : HO} {xs : List V} (hx : H x = some (.ins C dx fs)) (h : SqT K H a xs) : SqT K (upd H x o) a xs := by
  rcases h with (h | ⟨o', h⟩) | h
  · exact .inl (.inl (by rw [upd_ne (fun z => by rw [z, hx] at h; cases h)]; exact h))
  · exact .inl (.inr ⟨o', by rw [upd_ne (fun z => by rw [z, hx] at h; cases h)]; exact h⟩)
  · exact .inr h
theorem DetAt.upd {K : PySem.W.Frag} {H : Hp} {x C dx : Addr} {fs : List (Str × V)} {o : HO} {v : V} (hx : H x = some (.ins C dx fs)) : ∀ {sg : SgL}, DetAt K H sg v → DetAt K (upd H x o) sg v
  | .each _ _, ⟨a, h1, h2⟩ => ⟨a, h1, seqT_upd hx h2⟩
  | .ask _ _ _, ⟨a, h1, h2⟩ => ⟨a, h1, seqT_upd hx h2⟩
  | .every _ _ _, ⟨a, h1, h2⟩ => ⟨a, h1, seqT_upd hx h2⟩
  | .first _ _, h => h
  | .skip _ _, h => h
  | .last _, h => h
  | .but _, h => h
  | .turned, h => h
theorem StageV.upd {K : PySem.W.Frag} {H : Hp} {x z C dx : Addr} {fs : List (Str × V)} {o : HO} {sg : SgL} {v : V} (hx : H x = some (.ins C dx fs)) (ne : C ≠ cS K) (h : StageV K H z sg v) : StageV K (upd H x o) z sg v := by
  obtain ⟨d, t, h1, h2, h3⟩ := h
  refine ⟨d, t, ?_, seqT_upd hx h2, h3.upd hx⟩
  rw [upd_ne (fun e => by rw [e, hx] at h1; cases h1; exact ne rfl)]
  exact h1
theorem Sts.upd {K : PySem.W.Frag} {H : Hp} {x C dx : Addr} {fs : List (Str × V)} {o : HO} {xs : List V} {sgs : List SgL} (hx : H x = some (.ins C dx fs)) (ne : C ≠ cS K) (h : Sts K H xs sgs) : Sts K (upd H x o) xs sgs :=
  ⟨h.1, fun i y sg h1 h2 => let ⟨z, v, a, b⟩ := h.2 i y sg h1 h2; ⟨z, v, a, b.upd hx ne⟩⟩
section
variable {P : Program} {w : World} {K : PySem.W.Frag} {mg : Str → Option Value} {base : Heap}
theorem FnOk.toR {k : Nat} {f : Addr} {fd : FuncData} {ps : List Str} {sp : Sp} (F : FnOk P w K mg base CX0 k f fd ps sp) (b : Binds K fd ps []) : FnR P w K mg base CX0 k f sp := fun A outer s H us vs Q E hr e0 r hs => by
  have hl : us.length = ps.length := by rw [← r.length]; exact F.len _ _ _ _ hs
  have inK : K.In s.heap := e0.mod.kin.keeps fun b o e => (e0.bs b o e).1
  have := b s us inK (by rw [List.append_nil]; exact hl)
  rw [List.append_nil] at this
  exact F.run A outer s H ⟨us, []⟩ us vs Q E hr e0 this r hs
abbrev cF (K : PySem.W.Frag) : Addr := ga K "Flow"
theorem tyx_ins {H : Hp} {a C dx : Addr} {fs : List (Str × V)} (e : H a = some (.ins C dx fs)) (c : Cls K C) (t : InsT K C) : TyX K H (.ref a) (.ref C) := .base (.ins e c t.cls t.get t.tak t.mro)
/-- a flow stands at x -/
def FlowV (K : PySem.W.Frag) (H : Hp) (x : Addr) (sgs : List SgL) : Prop := ∃ dx t xs, H x = some (.ins (cF K) dx [("kept", .ref t)]) ∧ SqT K H t xs ∧ Sts K H xs sgs
theorem FlowV.sml {H H' : Hp} {x : Addr} {sgs : List SgL} (e : SmL H H') (h : FlowV K H x sgs) : FlowV K H' x sgs := by
  obtain ⟨dx, t, xs, h1, h2, h3⟩ := h
  exact ⟨dx, t, xs, e _ _ h1 (fun _ z => by cases z), e.seqT h2, h3.sml e⟩
def spFlowInit (K : PySem.W.Frag) : Sp := fun vs H Q _ => ∃ (x dx p : Addr) (xs : List V) (sgs : List SgL), vs = [.ref x, .ref p] ∧ H x = some (.ins (cF K) dx []) ∧ SqT K H p xs ∧ Sts K H xs sgs ∧ sgs.length ≤ 8 ∧
  ∀ H', Kp (· = x) H H' → FlowV K H' x sgs → Q .non H'
theorem ok_flow_init (T : Tx K mg w) : FnR P w K mg base CX0 1 (ma K (cF K) "__init__") (fun vs H Q E => ∃ ws rest, vs = ws ++ rest ∧ ws.length = ["self"].length ∧ rest.length ≤ sizeLine ∧ ∀ p, H p = Option.none → spFlowInit K (ws ++ [V.ref p]) (upd H p (.tup rest)) Q E) := by
  obtain ⟨fd, F⟩ := T.d_Flow_init
  obtain ⟨tM, eM⟩ := T.i_MOST_STAGES
  have nd := sc_Flow_init.nd
  obtain ⟨oc, od, dV, kV, doc, pm, an, cdv, ct, osl, rfl, lk, hcd, hD, _⟩ := F.ex
  have edV : dV = .none := by
    rcases hD with ⟨_, e⟩ | ⟨e, _⟩
    · exact e
    · exact absurd rfl e
  subst edV
  refine StX.fn_star (N := ["self", "stages", "index", "stage"]) (ps := ["self"]) (pv := "stages") lk hcd sc_Flow_init StX.cxUp_none (fun us rest hl => match us, hl, rest with | [_], _, [] => rfl | [_], _, _ :: _ => rfl) fun A outer s H vs Q E hr h => ?_
  obtain ⟨x, dx, p, xs, sgs, rfl, hx, hp, hS, h8, q⟩ := h
  refine ⟨_, PSs.nox (pss_cons (ps_for PassesOwn.never rfl (pi_enumT (by rfl) T.z_enumerate (pa_cons (pv 1) pa_nil)) (pg_tup (by rfl) (pgs_cons (pg_name (i := 2) nd rfl (.inl rfl)) (pgs_cons (pg_name (i := 3) nd rfl (.inl rfl)) pgs_nil)))
      (pss_one (ps_if (PW.pt (pw_or (pt_cmpR op_ge (pv 2) (pe_glob (v := .int 8) (by rfl) eM ⟨_, rfl⟩) (nomark _)) (pw_or1 (pt_not (pt_val (pe_callB call_isi (by rfl) T.z_isinstance bt_isinstance (pa_cons (pv 3) (pa_cons (pe_glob (v := .ref (cS K)) (by rfl) T.g_Stage rfl) pa_nil)))))))) pss_never pss_nil)))
    (pss_one (ps_fld (pv 0) (pv 1) rfl))), ?_⟩
  have hl := hS.1
  refine ⟨_, rfl, p, xs, rfl, hp, ?_⟩
  refine for_it (walk_enumT (xs := xs)) (fun i σ H' => Same H H' ∧ ∃ o2 o3, σ = [some (.ref x), some (.ref p), o2, o3]) ⟨Same.refl _, _, _, rfl⟩ (fun i σ H' _ h => same_seqT h.1 hp) (fun i v σ H1 H2 hi hpv hy => ?_) (fun σ H' hpv => ?_)
  · obtain ⟨s1, o2, o3, rfl⟩ := hpv
    obtain ⟨Tp, iv, y, rfl, nT, rfl, e1, e2⟩ := hy
    cases e1
    have sT := same_new (o := .tup [.int (i : Nat), y]) nT
    refine ⟨Tp, _, rfl, SqT.of upd_same, rfl, _, _, rfl, _, _, rfl, rfl, ?_⟩
    refine ⟨_, rfl, _, _, rfl, rfl, _, rfl, ?_⟩
    refine ifF (decide_eq_false (by omega)) ?_
    have hlt : i < sgs.length := by omega
    obtain ⟨z, v, rfl, hz⟩ := hS.2 i y sgs[i] e2 (List.getElem?_eq_getElem hlt)
    obtain ⟨dz, tz, hz1, _⟩ := hz
    refine ⟨_, rfl, .ref z, .ref (cS K), .ref (cS K), .ref (cS K), true, rfl, .own _, tyx_ins (sT _ _ (s1 _ _ hz1)) T.cl_Stage T.x_Stage, T.y_Stage, true, rfl, ?_⟩
    refine iteF ?_
    exact ⟨s1.trans sT, _, _, rfl⟩
  · obtain ⟨s1, o2, o3, rfl⟩ := hpv
    refine ⟨_, rfl, _, rfl, x, cF K, dx, [], rfl, s1 _ _ hx, T.cl_Flow, T.n_Flow_kept, by decide, ?_⟩
    have hx1 := s1 _ _ hx
    refine q _ ((Same.kp s1).trans (kp_set rfl hx1 ns_ins)) ⟨dx, p, xs, upd_same, seqT_upd hx1 (same_seqT s1 hp), (hS.sml (SmL.of s1)).upd hx1 (Ne.symm T.ne_cls)⟩
def spFlowRead (K : PySem.W.Frag) : Sp := fun vs H Q _ => ∃ lns : List Ln, vs = [.ref (cF K), .str (mk (txtL lns))] ∧ (∀ l ∈ lns, LnOk l) ∧ (sgsOf lns).length ≤ 8 ∧ lns.length ≤ 8 ∧ ∀ H' x, Same H H' → FlowV K H' x (sgsOf lns) → Q (.ref x) H'
theorem ok_flow_read (T : Tx K mg w) : FnR P w K mg base CX0 11 (pgA K "classmethod" (cF K) "read") (spFlowRead K) := by
  have nd := sc_Flow_read.nd
  have key := T.d_Flow_read.mk (P := P) (w := w) (mg := mg) (base := base) (k := 10) (sp := spFlowRead K) sc_Flow_read (fun vs H Q E h => by obtain ⟨lns, rfl, _⟩ := h; rfl) (fun cdv A outer s H vs Q E hr h => by
    obtain ⟨lns, rfl, ho, h8, hl8, q⟩ := h
    refine ⟨_, pss_cons (ps_if (pt_not (pt_val (pe_callB call_isi (by rfl) T.z_isinstance bt_isinstance (pa_cons (pv 1) (pa_cons (pe_bltn (v := .ty "str") (by rfl) T.z_str bt_str rfl) pa_nil))))) pss_never pss_nil)
      (pss_cons (ps_set (i := 2) nd rfl (.inl rfl) (pe_g (ok_read_stages T) hr (pa_cons (pv 1) pa_nil)))
      (pss_one (ps_ret (pe_makeS (i := 0) T.mk_Flow (ok_flow_init T) (hr.mono (by decide)) rfl (.inl rfl) pass0 (pv 2))))), ?_⟩
    refine ⟨_, rfl, .str _, .ty "str", .type "str", .type "str", true, rfl, .ty _, .base (.str _), kit_ty (by decide +kernel), true, rfl, ?_⟩
    refine iteF ?_
    refine ⟨_, rfl, lns, rfl, ho, h8, hl8, fun H1 p xs s1 hp hS => ?_⟩
    refine ⟨rfl, _, rfl, p, xs, rfl, .inl hp, fun z dz nz ndz ne => ?_⟩
    refine ⟨[.ref z], xs, rfl, rfl, ?_, fun p2 np2 => ?_⟩
    · have := hS.1
      exact Nat.le_trans (show xs.length ≤ 8 by omega) (by decide)
    have sm0 : Same H1 (upd (upd H1 dz (.own z)) z (.ins (cF K) dz [])) := fun b y e => by
      rw [upd_ne (ne_of_none e nz), upd_ne (ne_of_none e ndz)]; exact e
    have sp2 := same_new (o := .tup xs) np2
    refine ⟨z, dz, p2, xs, sgsOf lns, rfl, sp2 _ _ upd_same, SqT.of upd_same, hS.sml (SmL.of (sm0.trans sp2)), h8, fun H' kp hf => ⟨rfl, q H' z (s1.trans fun b y e => ?_) hf⟩⟩
    refine kp b y (sp2 _ _ ?_) (.inl (ne_of_none e nz))
    rw [upd_ne (ne_of_none e nz), upd_ne (ne_of_none e ndz)]; exact e)
  obtain ⟨fd, F, G⟩ := key
  exact FnOk.toR G (F.bindsN fun _ _ _ _ _ _ us hl => match us, hl with | [_, _], _ => rfl)
def spFlowGet (K : PySem.W.Frag) : Sp := fun vs H Q _ => ∃ x dx t, vs = [.ref x] ∧ H x = some (.ins (cF K) dx [("kept", .ref t)]) ∧ Q (.ref t) H
theorem ok_flow_stages (T : Tx K mg w) : ∃ fd, FunD K "stages" "Flow.stages" (defArgs s_Flow_stages) (defBody s_Flow_stages) (defScope s_Flow_stages) [] [] (pgA K "property" (cF K) "stages") fd ∧
    FnOk P w K mg base CX0 1 (pgA K "property" (cF K) "stages") fd ["self"] (spFlowGet K) := by
  refine T.d_Flow_stages.mk sc_Flow_stages (fun vs H Q E h => ?_) (fun cdv A outer s H vs Q E hr h => ?_)
  · obtain ⟨x, dx, t, rfl, _⟩ := h
    rfl
  · obtain ⟨x, dx, t, rfl, h1, q⟩ := h
    refine ⟨_, pss_one (ps_ret (pe_fld (pv 0) rfl)), ?_⟩
    exact ⟨_, rfl, x, _, dx, _, _, rfl, h1, T.cl_Flow, T.n_Flow_kept, rfl, q⟩
end
section
theorem pe_stages {X : Cx} {Kf : PySem.W.Frag} {e : Expr} {te : TE} {pos : Pos} (T : Tx Kf X.mg X.w) (hr : Room 2 X.A) (he : PE X e te) (hab : attributeBase e "stages" X.env (eval e X.env) = eval e X.env := by rfl) (hK : X.K = Kf := by rfl) : PE X (.Attribute e "stages" pos) (tProp (cF Kf) (spFlowGet Kf) [] E0 te) := by
  subst hK
  obtain ⟨fd, F, G⟩ := ok_flow_stages (P := X.prog) (base := X.base) T
  exact pe_prop he T.cl_Flow T.m_Flow_stages G hr (fnd_binds1 F ["self"] fun _ _ _ _ _ _ us hl => match us, hl with | [_], _ => rfl) .nil pass0 hab
end
section
variable {P : Program} {w : World} {K : PySem.W.Frag} {mg : Str → Option Value} {base : Heap}
def spCheckFlow (K : PySem.W.Frag) : Sp := fun vs H Q _ => ∃ x sgs, vs = [.ref x] ∧ FlowV K H x sgs ∧ Q .non H
theorem ok_check_flow (T : Tx K mg w) : Ok1 P w K mg base 1 "check_flow" ["value"] (spCheckFlow K) := by
  refine T.d_check_flow.mk sc_check_flow bn_check_flow (fun vs H Q E h => ?_) (fun cdv A outer s H vs Q E hr h => ?_)
  · obtain ⟨x, sgs, rfl, _⟩ := h
    rfl
  · obtain ⟨x, sgs, rfl, ⟨dx, t, xs, h1, _, _⟩, q⟩ := h
    refine ⟨_, pss_one (ps_if (pt_not (pt_val (pe_callB call_isi (by rfl) T.z_isinstance bt_isinstance (pa_cons (pv 0) (pa_cons (pe_glob (v := .ref (cF K)) (by rfl) T.g_Flow rfl) pa_nil))))) pss_never pss_nil), ?_⟩
    refine ⟨_, rfl, .ref x, .ref (cF K), .ref (cF K), .ref (cF K), true, rfl, .own _, tyx_ins h1 T.cl_Flow T.x_Flow, T.y_Flow, true, rfl, ?_⟩
    exact iteF q
/-- is_counted_in, as plain numbers -/
def counted (sg : SgL) (seen : Nat) : Bool := match sg with
  | .first n _ => decide (seen ≤ n)
  | .skip n _ => decide (n < seen)
  | .every k r _ => decide (r < seen ∧ (seen - 1 - r) % k = 0)
  | _ => false
def spCounted (K : PySem.W.Frag) : Sp := fun vs H Q _ => ∃ (sg : SgL) (v : V) (n : Nat), vs = [.str (kindS sg), v, .int n] ∧ DetAt K H sg v ∧ SgOk sg ∧ sg.counts = true ∧ Q (.bl (counted sg n)) H
theorem ok_is_counted_in (T : Tx K mg w) : Ok1 P w K mg base 1 "is_counted_in" ["kind", "detail", "seen"] (spCounted K) := by
  have nd := sc_is_counted_in.nd
  refine T.d_is_counted_in.mk sc_is_counted_in bn_is_counted_in (fun vs H Q E h => ?_) (fun cdv A outer s H vs Q E hr h => ?_)
  · obtain ⟨sg, v, n, rfl, _⟩ := h
    rfl
  · obtain ⟨sg, v, n, rfl, hd, ho, hc, q⟩ := h
    refine ⟨_, pss_cons (ps_if (pt_cmpR op_eq (pv 0) pe_str (nomark _)) (pss_one (ps_ret (pe_cmpR op_le (pv 2) (pv 1) (nomark _)))) pss_nil)
      (pss_cons (ps_if (pt_cmpR op_eq (pv 0) pe_str (nomark _)) (pss_one (ps_ret (pe_cmpR op_gt (pv 2) (pv 1) (nomark _)))) pss_nil)
      (pss_cons (ps_asg (pv 1) (pg_tup (by rfl) (pgs_cons (pg_name (i := 3) nd rfl (.inl rfl)) (pgs_cons (pg_name (i := 4) nd rfl (.inl rfl)) pgs_nil))))
      (pss_one (ps_ret (pe_and (pe_cmpR op_gt (pv 2) (pv 4) (nomark _)) (pe_one (pe_cmpR op_eq (pe_op op_modN (pe_op op_sub (pe_op op_sub (pv 2) pe_int) (pv 4)) (pv 3)) pe_int (nomark _)))))))), ?_⟩
    cases sg with
    | each a b => cases hc
    | ask a b c => cases hc
    | last a => cases hc
    | but a => cases hc
    | turned => cases hc
    | first m b =>
      cases hd
      refine ⟨_, rfl, rfl, _, rfl, ?_⟩
      refine ifT (by show decide (V.str (Str.ofString "first") = V.str (Str.ofString "first")) = true; decide +kernel) ?_
      refine ⟨_, rfl, _, rfl, (n : Int), (m : Int), rfl, rfl, ?_⟩
      have : decide ((n : Int) ≤ (m : Int)) = counted (.first m b) n := decide_eq_decide.mpr (by omega)
      rw [← this] at q
      exact q
    | skip m b =>
      cases hd
      refine ⟨_, rfl, rfl, _, rfl, ?_⟩
      refine ifF (by show decide (V.str (Str.ofString "skip") = V.str (Str.ofString "first")) = false; decide +kernel) ?_
      refine ⟨_, rfl, rfl, _, rfl, ?_⟩
      refine ifT (by show decide (V.str (Str.ofString "skip") = V.str (Str.ofString "skip")) = true; decide +kernel) ?_
      refine ⟨_, rfl, _, rfl, (n : Int), (m : Int), rfl, rfl, ?_⟩
      have : decide ((n : Int) > (m : Int)) = counted (.skip m b) n := decide_eq_decide.mpr (by omega)
      rw [← this] at q
      exact q
    | every k r b =>
      obtain ⟨a, rfl, hS⟩ := hd
      refine ⟨_, rfl, rfl, _, rfl, ?_⟩
      refine ifF (by show decide (V.str (Str.ofString "every") = V.str (Str.ofString "first")) = false; decide +kernel) ?_
      refine ⟨_, rfl, rfl, _, rfl, ?_⟩
      refine ifF (by show decide (V.str (Str.ofString "every") = V.str (Str.ofString "skip")) = false; decide +kernel) ?_
      refine ⟨_, rfl, a, _, rfl, hS, rfl, _, _, rfl, _, _, rfl, rfl, ?_⟩
      refine ⟨_, rfl, _, rfl, (n : Int), (r : Int), rfl, rfl, _, rfl, ?_⟩
      by_cases h : r < n
      · refine ifT (decide_eq_true (by omega)) ?_
        refine ⟨_, rfl, (n : Int), 1, rfl, rfl, _, rfl, _, _, rfl, rfl, _, rfl, _, (k : Int), rfl, rfl, (by have := ho.1; omega), rfl, ?_⟩
        have e : ((n : Int) - 1 - (r : Int)).fmod (k : Int) = (((n - 1 - r) % k : Nat) : Int) := by
          rw [show ((n : Int) - 1 - (r : Int)) = ((n - 1 - r : Nat) : Int) by omega, Int.fmod_eq_emod_of_nonneg _ (by omega)]
          rfl
        have : decide (V.int (((n : Int) - 1 - (r : Int)).fmod (k : Int)) = V.int 0) = counted (.every k r b) n := decide_eq_decide.mpr ⟨fun z => by injection z with z; rw [e] at z; exact ⟨h, by omega⟩, fun z => by rw [e, z.2]; rfl⟩
        rw [← this] at q
        exact q
      · refine ifF (decide_eq_false (by omega)) ?_
        have : counted (.every k r b) n = false := decide_eq_false (fun z => h z.1)
        rw [this] at q
        exact q
end
end K

set_option Elab.async false
set_option linter.all false
set_option maxRecDepth 100000
set_option maxHeartbeats 4000000
/-! KF11: callflows.playing: left_of, parts_of. -/
namespace K
open PySem PySem.Spec PyProof.Rows L2 He TL
theorem DetAt.last {K : PySem.W.Frag} {H : Hp} {sg : SgL} {v : V} (h : DetAt K H sg v) (n : Nat) (e : sg = .last n ∨ sg = .but n) : v = .int n := by
  rcases e with rfl | rfl
  · exact h
  · exact h
def stp (s : List (List SgL) × List SgL) (sg : SgL) : List (List SgL) × List SgL :=
  if sg.isList = true then (s.1 ++ [s.2, [sg]], []) else if sg.now = true then (s.1 ++ [s.2 ++ [sg]], []) else (s.1, s.2 ++ [sg])
def rawP (sgs : List SgL) : List (List SgL) × List SgL := sgs.foldl stp ([], [])
def parts (sgs : List SgL) : List (List SgL) := ((rawP sgs).1 ++ [(rawP sgs).2]).filter fun p => decide (0 < p.length)
theorem rawP_snoc {sgs : List SgL} {i : Nat} {sg : SgL} (h : sgs[i]? = some sg) : rawP (sgs.take (i + 1)) = stp (rawP (sgs.take i)) sg := by
  unfold rawP
  rw [List.take_add_one, h, List.foldl_append]
  rfl
theorem len_seqK {X : Cx} {Kf : PySem.W.Frag} (hK : X.K = Kf := by rfl) : CallR X (.builtin "len") (fun xs H Q => ∃ p ys, xs = [.ref p] ∧ (SqL Kf H p ys ∨ SqT Kf H p ys) ∧ Q (.int ys.length) H) := by
  subst hK
  exact call_len_seq
section
variable {P : Program} {w : World} {K : PySem.W.Frag} {mg : Str → Option Value} {base : Heap}
def spLeftOf (K : PySem.W.Frag) : Sp := fun vs H Q _ => ∃ (x l : Addr) (sg : SgL) (v : V) (xs : List V), vs = [.ref x, .ref l] ∧ StageV K H x sg v ∧ SgOk sg ∧ sg.isList = true ∧ SqL K H l xs ∧ ∀ p, H p = none → Q (.ref p) (upd H p (.lst (sg.cut xs)))
theorem ok_left_of (T : Tx K mg w) : Ok1 P w K mg base 3 "left_of" ["stage", "values"] (spLeftOf K) := by
  have nd := sc_left_of.nd
  refine T.d_left_of.mk sc_left_of bn_left_of (fun vs H Q E h => ?_) (fun cdv A outer s H vs Q E hr h => ?_)
  · obtain ⟨x, l, sg, v, xs, rfl, _⟩ := h
    rfl
  · obtain ⟨x, l, sg, v, xs, rfl, hx, ho, hi, hl, q⟩ := h
    refine ⟨_, pss_cons (ps_if (pt_cmpR op_eq (pe_kind T hr (pv 0)) pe_str (nomark _)) (pss_one (ps_ret (pe_revL (pv 1)))) pss_nil)
      (pss_cons (ps_set (i := 2) nd rfl (.inl rfl) (pe_callB (call_max2 (by rfl)) (by rfl) T.z_max bt_max (pa_cons pe_int (pa_cons (pe_op op_sub (pe_callB call_len_seq (by rfl) T.z_len bt_len (pa_cons (pv 1) pa_nil)) (pe_detail T hr (pv 0))) pa_nil))))
      (pss_one (ps_ret (pe_ifExp (pt_cmpR op_eq (pe_kind T hr (pv 0)) pe_str (nomark _)) (pe_slice sl_list (pv 1) (po_some (pv 2)) po_none) (pe_slice sl_list (pv 1) po_none (po_some (pv 2))))))), ?_⟩
    have hx2 := hx
    obtain ⟨dx, t, h1, h2, hd⟩ := hx
    have hm : ∀ n : Nat, (if ((xs.length : Int) - (n : Int)) > 0 then ((xs.length : Int) - (n : Int)) else 0) = ((xs.length - n : Nat) : Int) := fun n => by split <;> omega
    cases sg with
    | each a b => cases hi
    | ask a b c => cases hi
    | first a b => cases hi
    | skip a b => cases hi
    | every a b c => cases hi
    | turned =>
      refine ⟨_, rfl, stGet hx2 ⟨rfl, _, rfl, ?_⟩⟩
      refine ifT (by show decide (V.str (Str.ofString "turned") = V.str (Str.ofString "turned")) = true; decide +kernel) ?_
      exact ⟨_, rfl, l, xs, rfl, hl, q⟩
    | last n =>
      refine ⟨_, rfl, stGet hx2 ⟨rfl, _, rfl, ?_⟩⟩
      refine ifF (by show decide (V.str (Str.ofString "last") = V.str (Str.ofString "turned")) = false; decide +kernel) ?_
      refine ⟨_, rfl, l, xs, rfl, .inl hl, _, rfl, stGet hx2 ⟨(xs.length : Int), (n : Int), rfl, by rw [hd.last n (.inl rfl)], 0, (xs.length : Int) - (n : Int), rfl, ?_⟩⟩
      rw [hm n]
      refine ⟨_, rfl, stGet hx2 ⟨rfl, _, rfl, ?_⟩⟩
      refine ifT (by show decide (V.str (Str.ofString "last") = V.str (Str.ofString "last")) = true; decide +kernel) ?_
      refine ⟨_, rfl, _, rfl, _, rfl, l, xs, rfl, hl, fun p np => ?_⟩
      have e : cutV xs (some ((xs.length - n : Nat) : Int)) none = (Sg.last n : SgL).cut xs := by
        unfold cutV
        rw [HT.sIx_nat, HT.sIx_none, Nat.min_eq_left (by omega)]
        show (xs.drop (xs.length - n)).take _ = xs.drop (xs.length - n)
        exact List.take_of_length_le (by rw [List.length_drop]; omega)
      rw [e]
      exact q p np
    | but n =>
      refine ⟨_, rfl, stGet hx2 ⟨rfl, _, rfl, ?_⟩⟩
      refine ifF (by show decide (V.str (Str.ofString "but last") = V.str (Str.ofString "turned")) = false; decide +kernel) ?_
      refine ⟨_, rfl, l, xs, rfl, .inl hl, _, rfl, stGet hx2 ⟨(xs.length : Int), (n : Int), rfl, by rw [hd.last n (.inr rfl)], 0, (xs.length : Int) - (n : Int), rfl, ?_⟩⟩
      rw [hm n]
      refine ⟨_, rfl, stGet hx2 ⟨rfl, _, rfl, ?_⟩⟩
      refine ifF (by show decide (V.str (Str.ofString "but last") = V.str (Str.ofString "last")) = false; decide +kernel) ?_
      refine ⟨_, rfl, _, rfl, _, rfl, l, xs, rfl, hl, fun p np => ?_⟩
      have e : cutV xs none (some ((xs.length - n : Nat) : Int)) = (Sg.but n : SgL).cut xs := by
        unfold cutV
        rw [HT.sIx_nat, HT.sIx_none, Nat.min_eq_left (by omega), List.drop_zero, Nat.sub_zero]
        rfl
      rw [e]
      exact q p np
/-- a part: a list of stages, not the list at F -/
theorem none_back {H H' : Hp} {x : Addr} (s : Same H H') (h : H' x = none) : H x = none := by
  cases e : H x with
  | none => rfl
  | some o => rw [s _ _ e] at h; cases h
def PartN (K : PySem.W.Frag) (H0 : Hp) (H : Hp) (F : Addr) (y : V) (p : List SgL) : Prop := ∃ l xs, y = .ref l ∧ (l ≠ F ∧ H0 l = none) ∧ H l = some (.lst xs) ∧ Sts K H xs p
def PartV (K : PySem.W.Frag) (H0 : Hp) (H : Hp) (y : V) (p : List SgL) : Prop := ∃ l xs, y = .ref l ∧ (H0 l = none ∧ H l = some (.lst xs)) ∧ Sts K H xs p
def PartsV (K : PySem.W.Frag) (H0 : Hp) (H : Hp) (fs : List V) (ps : List (List SgL)) : Prop := fs.length = ps.length ∧ ∀ (i : Nat) (y : V) (p : List SgL), fs[i]? = some y → ps[i]? = some p → PartV K H0 H y p
def PartsN (K : PySem.W.Frag) (H0 : Hp) (H : Hp) (F : Addr) (fs : List V) (ps : List (List SgL)) : Prop := fs.length = ps.length ∧ ∀ (i : Nat) (y : V) (p : List SgL), fs[i]? = some y → ps[i]? = some p → PartN K H0 H F y p
theorem PartN.same {H0 H H' : Hp} {F : Addr} {y : V} {p : List SgL} (e : Same H H') (h : PartN K H0 H F y p) : PartN K H0 H' F y p := by
  obtain ⟨l, xs, a, b, c, d⟩ := h
  exact ⟨l, xs, a, b, e _ _ c, d.sml (SmL.of e)⟩
theorem PartN.put {H0 H : Hp} {F : Addr} {us vs : List V} {y : V} {p : List SgL} (e : H F = some (.lst us)) (h : PartN K H0 H F y p) : PartN K H0 (upd H F (.lst vs)) F y p := by
  obtain ⟨l, xs, a, b, c, d⟩ := h
  exact ⟨l, xs, a, b, by rw [upd_ne b.1]; exact c, d.sml (SmL.put e)⟩
theorem PartsN.imp {H0 H H' : Hp} {F : Addr} {fs : List V} {ps : List (List SgL)} (h : PartsN K H0 H F fs ps) (e : ∀ y p, PartN K H0 H F y p → PartN K H0 H' F y p) : PartsN K H0 H' F fs ps := ⟨h.1, fun i y p a b => e _ _ (h.2 i y p a b)⟩
theorem PartsN.snoc {H0 H : Hp} {F : Addr} {fs : List V} {ps : List (List SgL)} {y : V} {p : List SgL} (h : PartsN K H0 H F fs ps) (h1 : PartN K H0 H F y p) : PartsN K H0 H F (fs ++ [y]) (ps ++ [p]) := by
  refine ⟨by simp [h.1], fun i z r e1 e2 => ?_⟩
  have hl := h.1
  by_cases hi : i < fs.length
  · rw [List.getElem?_append_left hi] at e1
    rw [List.getElem?_append_left (by omega)] at e2
    exact h.2 i z r e1 e2
  · rw [List.getElem?_append_right (by omega)] at e1
    rw [List.getElem?_append_right (by omega), ← hl] at e2
    cases hj : i - fs.length with
    | zero => rw [hj] at e1 e2; cases e1; cases e2; exact h1
    | succ k => rw [hj] at e1; simp at e1
theorem PartsV.snoc {H0 H : Hp} {fs : List V} {ps : List (List SgL)} {y : V} {p : List SgL} (h : PartsV K H0 H fs ps) (h1 : PartV K H0 H y p) : PartsV K H0 H (fs ++ [y]) (ps ++ [p]) := by
  refine ⟨by simp [h.1], fun i z r e1 e2 => ?_⟩
  have hl := h.1
  by_cases hi : i < fs.length
  · rw [List.getElem?_append_left hi] at e1
    rw [List.getElem?_append_left (by omega)] at e2
    exact h.2 i z r e1 e2
  · rw [List.getElem?_append_right (by omega)] at e1
    rw [List.getElem?_append_right (by omega), ← hl] at e2
    cases hj : i - fs.length with
    | zero => rw [hj] at e1 e2; cases e1; cases e2; exact h1
    | succ k => rw [hj] at e1; simp at e1
theorem sql_same {H H' : Hp} {a : Addr} {xs : List V} (e : Same H H') (h : SqL K H a xs) : SqL K H' a xs := by
  rcases h with (h | ⟨o, h⟩) | h
  · exact .inl (.inl (e _ _ h))
  · exact .inl (.inr ⟨o, e _ _ h⟩)
  · exact .inr h
theorem PartV.same {H0 H H' : Hp} {y : V} {p : List SgL} (e : Same H H') (h : PartV K H0 H y p) : PartV K H0 H' y p := by
  obtain ⟨l, xs, a, c, d⟩ := h
  exact ⟨l, xs, a, ⟨c.1, e _ _ c.2⟩, d.sml (SmL.of e)⟩
def spPartsOf (K : PySem.W.Frag) : Sp := fun vs H Q _ => ∃ (x : Addr) (sgs : List SgL), vs = [.ref x] ∧ FlowV K H x sgs ∧ sgs.length ≤ 8 ∧ ∀ H' F fs, Same H H' → H F = none → H' F = some (.lst fs) → PartsV K H H' fs (parts sgs) → Q (.ref F) H'
theorem ok_parts_of (T : Tx K mg w) : Ok1 P w K mg base 3 "parts_of" ["flow"] (spPartsOf K) := by
  have nd := sc_parts_of.nd
  refine T.d_parts_of.mk sc_parts_of bn_parts_of (fun vs H Q E h => ?_) (fun cdv A outer s H vs Q E hr h => ?_)
  · obtain ⟨x, sgs, rfl, _⟩ := h
    rfl
  · obtain ⟨x, sgs, rfl, ⟨dx, t, ts, hx, ht, hS⟩, h8, q⟩ := h
    refine ⟨_, pss_cons (ps_par (i := 1) (j := 2) (by rfl) nd rfl rfl (by decide) rfl rfl (pa_cons (pe_lst pa_nil) (pa_cons (pe_lst pa_nil) pa_nil)) (by rfl))
      (pss_cons (ps_for PassesOwn.never rfl (pi_tup (pe_stages T hr (pv 0))) (pg_name (i := 3) nd rfl (.inl rfl))
        (pss_one (ps_if (pt_cmpR op_in_seq (pe_kind T hr (pv 3)) (pe_glob (v := .ref _) (by rfl) T.g_LIST_KINDS rfl) (by rfl))
          (pss_cons (ps_aug (i := 1) nd rfl (.inl rfl) (pe_lst (pa_cons (pv 2) (pa_cons (pe_lst (pa_cons (pv 3) pa_nil)) pa_nil))) iop_ext) (pss_one (ps_set (i := 2) nd rfl (.inl rfl) (pe_lst pa_nil))))
          (pss_cons (ps_set (i := 2) nd rfl (.inl rfl) (pe_op op_cat (pv 2) (pe_lst (pa_cons (pv 3) pa_nil))))
          (pss_one (ps_if (pt_val (pe_now T hr (pv 3)))
            (pss_cons (ps_expr (pe_bm PySem.F.plainAttrs_list PySem.F.slot_list_append PySem.F.type_list_append mt_append (pv 1) (pa_cons (pv 2) pa_nil))) (pss_one (ps_set (i := 2) nd rfl (.inl rfl) (pe_lst pa_nil)))) pss_nil))))))
      (pss_cons (ps_expr (pe_bm PySem.F.plainAttrs_list PySem.F.slot_list_append PySem.F.type_list_append mt_append (pv 1) (pa_cons (pv 2) pa_nil)))
      (pss_one (ps_ret (pe_lc (own := [("one", 4)]) (g := gName 4) rfl nd (pi_list (pv 1)) (blkOk_by (N := ["flow", "found", "part", "stage", "one"]) (sc := defScope s_parts_of) (by decide +kernel))
          (fun _ _ _ _ _ => pg_name (i := 4) nd rfl (Or.inl rfl)) (fun _ _ _ _ _ => pts_one (pt_cmpR op_gt (pe_callB (len_seqK (Kf := K)) (by rfl) T.z_len bt_len (pa_cons (pv 4) pa_nil)) pe_int (nomark _))) (fun _ _ _ _ _ => pv 4)))))), ?_⟩
    refine ⟨by decide, fun F nF => ⟨by decide, fun pl npl => ⟨_, _, rfl, ?_⟩⟩⟩
    have sF := same_new (o := .lst []) nF
    have spl := same_new (o := .lst []) npl
    have neF : pl ≠ F := fun z => by rw [z, upd_same] at npl; cases npl
    have s0 := sF.trans spl
    refine ⟨_, rfl, x, dx, _, rfl, s0 _ _ hx, x, dx, t, rfl, s0 _ _ hx, t, rfl, ⟨_, same_seqT s0 ht⟩, ?_⟩
    refine for_tup (xs := ts) (fun i σ H' => Same H H' ∧ ∃ fs pl o3, σ = [some (.ref x), some (.ref F), some (.ref pl), o3, none] ∧ H' F = some (.lst fs) ∧ fs.length ≤ 2 * i ∧ (rawP (sgs.take i)).2.length ≤ i ∧ PartsN K H H' F fs (rawP (sgs.take i)).1 ∧ PartN K H H' F (.ref pl) (rawP (sgs.take i)).2)
      ⟨s0, [], pl, _, rfl, spl _ _ upd_same, Nat.le_refl _, Nat.le_refl _, ⟨rfl, fun i y p h => by simp at h⟩, pl, [], rfl, ⟨neF, none_back sF npl⟩, upd_same, ⟨rfl, fun i y p h => by simp at h⟩⟩
      (fun i σ H' _ h => same_seqT h.1 ht) (fun i y σ H1 hy hp => ?_) (fun σ H1 hp => ?_)
    · obtain ⟨s1, fs, pl, o3, rfl, hF, lf, lp, hfs, hpl⟩ := hp
      have hl := hS.1
      have hlt : i < sgs.length := by
        rcases Nat.lt_or_ge i ts.length with z | z
        · omega
        · rw [List.getElem?_eq_none z] at hy; cases hy
      have hsg : sgs[i]? = some sgs[i] := List.getElem?_eq_getElem hlt
      generalize sgs[i] = sg at hsg
      obtain ⟨z, v, rfl, hz⟩ := hS.2 i y sg hy hsg
      have hz1 := hz.same s1
      rw [rawP_snoc hsg]
      generalize hR : rawP (sgs.take i) = R at hfs hpl lp
      have eL := in_LIST sg
      refine ⟨_, rfl, stGet hz1 ⟨ga K "LIST_KINDS", _, rfl, .inr (T.t_LIST_KINDS H1), rfl, by decide +kernel, _, rfl, ?_⟩⟩
      have one : ∀ H2 l1, H2 l1 = some (.lst [V.ref z]) → StageV K H2 z sg v → (l1 ≠ F ∧ H l1 = none) → PartN K H H2 F (.ref l1) [sg] := fun H2 l1 h1 h2 ne => ⟨l1, _, rfl, ne, h1, Sts.one h2⟩
      cases hb : sg.isList with
      | true =>
        refine ifT (eL.trans hb) ?_
        refine ⟨_, rfl, _, rfl, _, rfl, by show 1 ≤ sizeLine; decide, fun l1 nl1 => ⟨by show 2 ≤ sizeLine; decide, fun l2 nl2 => ?_⟩⟩
        have sl1 := same_new (o := .lst [V.ref z]) nl1
        have sl2 := same_new (o := .lst [V.ref pl, V.ref l1]) nl2
        have ne1 : l1 ≠ F := fun e => by rw [e, hF] at nl1; cases nl1
        have ne2 : l2 ≠ F := fun e => by rw [e, sl1 _ _ hF] at nl2; cases nl2
        have hF2 := sl2 _ _ (sl1 _ _ hF)
        refine ⟨F, l2, fs, [.ref pl, .ref l1], rfl, rfl, hF2, upd_same, Nat.le_trans (show _ ≤ 30 by simp only [List.length_cons, List.length_nil]; omega) (by decide), by decide, fun l3 nl3 => ?_⟩
        have ne3 : l3 ≠ F := fun e => by rw [e, upd_same] at nl3; cases nl3
        have s3 := same_new (o := .lst []) nl3
        have sA := sl1.trans sl2
        have est : stp R sg = (R.1 ++ [R.2, [sg]], []) := by unfold stp; rw [if_pos hb]
        rw [est]
        have tr : ∀ y p, PartN K H H1 F y p → PartN K H (upd (upd (upd (upd H1 l1 (.lst [V.ref z])) l2 (.lst [V.ref pl, V.ref l1])) F (.lst (fs ++ [V.ref pl, V.ref l1]))) l3 (.lst [])) F y p := fun y p h => ((h.same sA).put hF2).same s3
        have sB : Same H (upd (upd (upd H1 l1 (.lst [V.ref z])) l2 (.lst [V.ref pl, V.ref l1])) F (.lst (fs ++ [V.ref pl, V.ref l1]))) := fun b o e => by
          rw [upd_ne (ne_of_none e nF)]
          exact sA _ _ (s1 _ _ e)
        refine ⟨fun b o e => ?_, fs ++ [.ref pl, .ref l1], l3, _, rfl, s3 _ _ upd_same, by simp only [List.length_append, List.length_cons, List.length_nil]; omega, Nat.zero_le _, ?_, l3, [], rfl, ⟨ne3, none_back sB nl3⟩, upd_same, ⟨rfl, fun i y p h => by simp at h⟩⟩
        · refine s3 _ _ ?_
          rw [upd_ne (ne_of_none e nF)]
          exact sA _ _ (s1 _ _ e)
        · have h1 := hfs.imp tr
          have h2 := h1.snoc (tr _ _ hpl)
          have h3 := h2.snoc ((((one _ l1 upd_same (hz1.same sl1) ⟨ne1, none_back s1 nl1⟩).same sl2).put (vs := fs ++ [V.ref pl, V.ref l1]) hF2).same s3)
          rw [List.append_assoc, List.append_assoc] at h3
          exact h3
      | false =>
        refine ifF (eL.trans hb) ?_
        obtain ⟨pl', px, epl, hne, hplx, hpS⟩ := hpl
        cases epl
        have lpx := hpS.1
        refine ⟨_, rfl, _, rfl, by show 1 ≤ sizeLine; decide, fun l1 nl1 => ?_⟩
        have sl1 := same_new (o := .lst [V.ref z]) nl1
        refine ⟨pl, l1, px, [.ref z], rfl, rfl, sl1 _ _ hplx, upd_same, Nat.le_trans (show _ ≤ 30 by simp only [List.length_cons, List.length_nil]; omega) (by decide), fun l2 nl2 => ?_⟩
        have sl2 := same_new (o := .lst (px ++ [V.ref z])) nl2
        have sA := sl1.trans sl2
        have hF2 := sA _ _ hF
        have ne2 : l2 ≠ F := fun e => by rw [e, sl1 _ _ hF] at nl2; cases nl2
        have hpn : PartN K H (upd (upd H1 l1 (.lst [V.ref z])) l2 (.lst (px ++ [V.ref z]))) F (.ref l2) (R.2 ++ [sg]) := ⟨l2, _, rfl, ⟨ne2, none_back (s1.trans sl1) nl2⟩, upd_same, Sts.append (hpS.sml (SmL.of sA)) (Sts.one (hz1.same sA))⟩
        refine ⟨_, rfl, stGet (hz1.same sA) ⟨_, rfl, ?_⟩⟩
        cases hn : sg.now with
        | true =>
          refine iteT ?_
          have est : stp R sg = (R.1 ++ [R.2 ++ [sg]], []) := by unfold stp; rw [if_neg (by rw [hb]; exact Bool.false_ne_true), if_pos hn]
          rw [est]
          refine ⟨_, rfl, .inl ⟨rfl, fs, SqL.of hF2⟩, _, rfl, F, fs, .ref l2, rfl, rfl, hF2, small1000 (by omega), by decide, fun l3 nl3 => ?_⟩
          have ne3 : l3 ≠ F := fun e => by rw [e, upd_same] at nl3; cases nl3
          have s3 := same_new (o := .lst []) nl3
          have sB : Same H (upd (upd (upd H1 l1 (.lst [V.ref z])) l2 (.lst (px ++ [V.ref z]))) F (.lst (fs ++ [V.ref l2]))) := fun b o e => by
            rw [upd_ne (ne_of_none e nF)]
            exact sA _ _ (s1 _ _ e)
          refine ⟨fun b o e => ?_, fs ++ [.ref l2], l3, _, rfl, s3 _ _ upd_same, by simp only [List.length_append, List.length_cons, List.length_nil]; omega, Nat.zero_le _, ?_, l3, [], rfl, ⟨ne3, none_back sB nl3⟩, upd_same, ⟨rfl, fun i y p h => by simp at h⟩⟩
          · refine s3 _ _ ?_
            rw [upd_ne (ne_of_none e nF)]
            exact sA _ _ (s1 _ _ e)
          · have tr : ∀ y p, PartN K H H1 F y p → PartN K H (upd (upd (upd (upd H1 l1 (.lst [V.ref z])) l2 (.lst (px ++ [V.ref z]))) F (.lst (fs ++ [V.ref l2]))) l3 (.lst [])) F y p := fun y p h => ((h.same sA).put hF2).same s3
            exact (hfs.imp tr).snoc ((hpn.put hF2).same s3)
        | false =>
          refine iteF ?_
          have est : stp R sg = (R.1, R.2 ++ [sg]) := by unfold stp; rw [if_neg (by rw [hb]; exact Bool.false_ne_true), if_neg (by rw [hn]; exact Bool.false_ne_true)]
          rw [est]
          exact ⟨s1.trans sA, fs, l2, _, rfl, hF2, by omega, by simp only [List.length_append, List.length_cons, List.length_nil]; omega, hfs.imp fun y p h => h.same sA, hpn⟩
    · obtain ⟨s1, fs, pl, o3, rfl, hF, lf, lp, hfs, hpl⟩ := hp
      have hl := hS.1
      rw [List.take_of_length_le (by omega)] at hfs hpl
      refine ⟨_, rfl, .inl ⟨rfl, fs, SqL.of hF⟩, _, rfl, F, fs, .ref pl, rfl, rfl, hF, small1000 (by omega), ?_⟩
      have h2 := (hfs.imp fun y p h => PartN.put (vs := fs ++ [.ref pl]) hF h).snoc (hpl.put hF)
      generalize hH2 : upd H1 F (.lst (fs ++ [.ref pl])) = H2 at h2
      have hF2 : H2 F = some (.lst (fs ++ [.ref pl])) := by rw [← hH2]; exact upd_same
      have s2 : Same H H2 := fun b o e => by
        rw [← hH2, upd_ne (ne_of_none e nF)]
        exact s1 _ _ e
      have hv : PartsV K H H2 (fs ++ [.ref pl]) ((rawP sgs).1 ++ [(rawP sgs).2]) := ⟨h2.1, fun i y p a b => by
        obtain ⟨l, xs, c1, c0, c2, c3⟩ := h2.2 i y p a b
        exact ⟨l, xs, c1, ⟨c0.2, c2⟩, c3⟩⟩
      refine ⟨_, rfl, F, rfl, ⟨_, SqL.of hF2⟩, fun D nD => ?_⟩
      have sD := same_new (o := .lst []) nD
      refine lc_it (walk_list (xs := fs ++ [.ref pl])) (fun i H' => Same H2 H' ∧ ∃ acc, H' D = some (.lst acc) ∧ acc.length ≤ i ∧ PartsV K H H2 acc ((((rawP sgs).1 ++ [(rawP sgs).2]).take i).filter fun p => decide (0 < p.length)))
        ⟨sD, [], upd_same, Nat.le_refl _, ⟨rfl, fun i y p h => by simp at h⟩⟩ (fun i H' _ h => SqL.of (h.1 _ _ hF2)) (fun i y H3 H4 hi hp hy => ?_) (fun H3 hp => ?_)
      · obtain ⟨s3, acc, hD, la, hacc⟩ := hp
        obtain ⟨rfl, hy⟩ := hy
        have hlv := hv.1
        have hlt : i < ((rawP sgs).1 ++ [(rawP sgs).2]).length := by omega
        have hpp : ((rawP sgs).1 ++ [(rawP sgs).2])[i]? = some ((rawP sgs).1 ++ [(rawP sgs).2])[i] := List.getElem?_eq_getElem hlt
        generalize ((rawP sgs).1 ++ [(rawP sgs).2])[i] = p at hpp
        have hpv := hv.2 i y p hy hpp
        obtain ⟨l, xs, rfl, c2, c3⟩ := hpv
        refine ⟨rfl, ?_⟩
        have c2' := SqL.of (K := K) (s3 _ _ c2.2)
        have hxp := c3.1
        refine ⟨_, rfl, l, xs, rfl, .inl c2', _, _, rfl, rfl, _, rfl, ?_⟩
        have etake : ((((rawP sgs).1 ++ [(rawP sgs).2]).take (i + 1)).filter fun p => decide (0 < p.length)) = ((((rawP sgs).1 ++ [(rawP sgs).2]).take i).filter fun p => decide (0 < p.length)) ++ (if decide (0 < p.length) = true then [p] else []) := by
          rw [List.take_add_one, hpp, List.filter_append]
          show _ ++ List.filter _ [p] = _
          rw [List.filter_cons, List.filter_nil]
        by_cases h0 : 0 < p.length
        · refine ifT (decide_eq_true (by omega)) ?_
          refine ⟨_, rfl, acc, hD, small1000 (by simp only [List.length_append, List.length_cons, List.length_nil] at hi; omega), fun b o e => ?_, acc ++ [.ref l], upd_same, by simp only [List.length_append, List.length_cons, List.length_nil]; omega, ?_⟩
          · rw [upd_ne (ne_of_none e nD)]
            exact s3 _ _ e
          · rw [etake, if_pos (decide_eq_true h0)]
            exact hacc.snoc ⟨l, xs, rfl, c2, c3⟩
        · refine ifF (decide_eq_false (by omega)) ?_
          refine ⟨s3, acc, hD, by omega, ?_⟩
          rw [etake, if_neg (by rw [decide_eq_false h0]; exact Bool.false_ne_true), List.append_nil]
          exact hacc
      · obtain ⟨s3, acc, hD, la, hacc⟩ := hp
        refine q H3 D acc (s2.trans s3) (none_back s2 nD) hD ?_
        rw [List.take_of_length_le (by have := hv.1; omega)] at hacc
        exact ⟨hacc.1, fun i y p a b => (hacc.2 i y p a b).same s3⟩
end
end K

set_option Elab.async false
set_option linter.all false
set_option maxRecDepth 100000
set_option maxHeartbeats 4000000
/-! KC2: the two makers of functions; a function's call. -/
namespace K
open PySem PySem.Spec PyProof.Rows L2 He TL LamX
def lamP (st : Stmt) : Arguments := match defBody st with
  | [.Return (some (.Lambda p _ _ _)) _] => p
  | _ => ⟨[], [], none, [], [], none, []⟩
def lamE (st : Stmt) : Expr := match defBody st with
  | [.Return (some (.Lambda _ e _ _)) _] => e
  | _ => .Constant .none 0 ⟨0, 0, 0, 0⟩
def lamS (st : Stmt) : Scope := match defBody st with
  | [.Return (some (.Lambda _ _ s _)) _] => s
  | _ => defScope st
inductive Act where
  | num (by_ more mod : Int)
  | tru (more mod : Int)
def toI : V → Int
  | .int i => i
  | .bl b => if b then 1 else 0
  | _ => 0
def Act.ans : Act → V → V
  | .num b m d, v => .int ((b * toI v + m).fmod d)
  | .tru m d, v => .bl (decide ((toI v + m).fmod d > 0))
def big : Nat := 10 ^ 40
def ActOk : Act → Prop
  | .num b _ d => b.natAbs < 2 ^ 64 ∧ 0 < d ∧ d < big
  | .tru _ d => 0 < d
def VOk (v : V) : Prop := (∃ i : Int, v = .int i ∧ i.natAbs < big) ∨ ∃ b, v = .bl b
theorem ans_ok {a : Act} {v : V} (h : ActOk a) : VOk (a.ans v) := by
  cases a with
  | num b m d =>
    refine .inl ⟨_, rfl, ?_⟩
    have h1 := Int.fmod_nonneg_of_pos (b * toI v + m) h.2.1
    have h2 := Int.fmod_lt_of_pos (b * toI v + m) h.2.1
    have h3 := h.2.2
    omega
  | tru m d => exact .inr ⟨_, rfl⟩
abbrev nQ : Str := "_law_number_function" ++ ".<locals>." ++ "<lambda>"
abbrev tQ : Str := "_law_truth_function" ++ ".<locals>." ++ "<lambda>"
def ActV (H : Hp) (f : Addr) : Act → Prop
  | .num b m d => CloAt H f nQ (lamP s_law_number_function) (lamE s_law_number_function) (lamS s_law_number_function) ["_law_by", "_law_more", "_law_modulus"] [.int b, .int m, .int d]
  | .tru m d => CloAt H f tQ (lamP s_law_truth_function) (lamE s_law_truth_function) (lamS s_law_truth_function) ["_law_more", "_law_modulus"] [.int m, .int d]
theorem ActV.of {H H' : Hp} {f : Addr} {a : Act} (h : ActV H f a) (e : ∀ b φ, H b = some (.ext φ) → H' b = some (.ext φ)) : ActV H' f a := by
  cases a with
  | num b m d => exact CloAt.of h e
  | tru m d => exact CloAt.of h e
theorem nS_num : NdefX.NScope ["_law_thing", "_law_by", "_law_more", "_law_modulus"] ["_law_thing"] ["_law_by", "_law_more", "_law_modulus"] (lamS s_law_number_function) := NdefX.nscope_by (by decide +kernel)
theorem nS_tru : NdefX.NScope ["_law_thing", "_law_more", "_law_modulus"] ["_law_thing"] ["_law_more", "_law_modulus"] (lamS s_law_truth_function) := NdefX.nscope_by (by decide +kernel)
section
variable {P : Program} {w : World} {K : PySem.W.Frag} {mg : Str → Option Value} {base : Heap}
theorem run_num (T : Tx K mg w) {A : Around} {outer : List Env} {s : Shared} {H : Hp} {f : Addr} {b m d : Int} {v : V} {u : Value} {Q : VK} {E : XK} (hr : Room 1 A) (e0 : Env0 P w K mg base A outer s H) (h : ActV H f (.num b m d)) (ho : ActOk (.num b m d)) (hv : VOk v) (r : RelV v u) (q : Q ((Act.num b m d).ans v) H) :
    codeAny (model P w) A (.call (.ref f) ⟨[u], []⟩) (CR CX0 outer P w H s Q E) s := by
  obtain ⟨c, cl, h1, h2, h3, h4, h5⟩ := h
  have tt : ∀ (A : Around) (outer : List Env) (s : Shared) (H : Hp) (f : Addr), PE (NdefX.ncx CX0 P w K mg base ["_law_thing", "_law_by", "_law_more", "_law_modulus"] ⟨"<lambda>", nQ, lamP s_law_number_function, [], lamS s_law_number_function, cl, c⟩ f A outer s H E) (lamE s_law_number_function) _ := fun A outer s H f =>
    pe_op op_modN (pe_callTy call_int1 (by rfl) T.z_int bt_int (pa_cons (pe_op op_add (pe_op op_mul (pe_var (i := 1) rfl (.inr (.inr rfl))) (pe_callTy call_int1 (by rfl) T.z_int bt_int (pa_cons (pe_var (i := 0) rfl (.inl rfl)) pa_nil))) (pe_var (i := 2) rfl (.inr (.inr rfl)))) pa_nil)) (pe_var (i := 3) rfl (.inr (.inr rfl)))
  refine clo_run (vs := [v]) nS_num (fun pm ctv us hl => match us, hl with | [_], _ => rfl) hr e0 h1 h2 rfl h3 h4 h5 (.cons r .nil) rfl tt (fun H R hR => ?_) q
  have hd : d ≠ 0 := by have := ho.2.1; omega
  have hb : -(2 ^ 64 : Int) < b ∧ b < 2 ^ 64 := by have := ho.1; omega
  rcases hv with ⟨i, rfl, _⟩ | ⟨k, rfl⟩
  · exact ⟨_, rfl, _, rfl, .inl ⟨i, rfl, b, i, rfl, rfl, .inl hb, _, rfl, _, _, rfl, rfl, .inl ⟨_, rfl, _, rfl, _, d, rfl, rfl, hd, hR⟩⟩⟩
  · exact ⟨_, rfl, _, rfl, .inr ⟨k, rfl, b, _, rfl, rfl, .inl hb, _, rfl, _, _, rfl, rfl, .inl ⟨_, rfl, _, rfl, _, d, rfl, rfl, hd, hR⟩⟩⟩
theorem run_tru (T : Tx K mg w) {A : Around} {outer : List Env} {s : Shared} {H : Hp} {f : Addr} {m d : Int} {v : V} {u : Value} {Q : VK} {E : XK} (hr : Room 1 A) (e0 : Env0 P w K mg base A outer s H) (h : ActV H f (.tru m d)) (ho : ActOk (.tru m d)) (hv : VOk v) (r : RelV v u) (q : Q ((Act.tru m d).ans v) H) :
    codeAny (model P w) A (.call (.ref f) ⟨[u], []⟩) (CR CX0 outer P w H s Q E) s := by
  obtain ⟨c, cl, h1, h2, h3, h4, h5⟩ := h
  have tt : ∀ (A : Around) (outer : List Env) (s : Shared) (H : Hp) (f : Addr), PE (NdefX.ncx CX0 P w K mg base ["_law_thing", "_law_more", "_law_modulus"] ⟨"<lambda>", tQ, lamP s_law_truth_function, [], lamS s_law_truth_function, cl, c⟩ f A outer s H E) (lamE s_law_truth_function) _ := fun A outer s H f =>
    pe_cmpR op_gt (pe_op op_modN (pe_callTy call_int1 (by rfl) T.z_int bt_int (pa_cons (pe_op op_add (pe_callTy call_int1 (by rfl) T.z_int bt_int (pa_cons (pe_var (i := 0) rfl (.inl rfl)) pa_nil)) (pe_var (i := 1) rfl (.inr (.inr rfl)))) pa_nil)) (pe_var (i := 2) rfl (.inr (.inr rfl)))) pe_int (nomark _)
  refine clo_run (vs := [v]) nS_tru (fun pm ctv us hl => match us, hl with | [_], _ => rfl) hr e0 h1 h2 rfl h3 h4 h5 (.cons r .nil) rfl tt (fun H R hR => ?_) q
  have hd : d ≠ 0 := by have : 0 < d := ho; omega
  rcases hv with ⟨i, rfl, _⟩ | ⟨k, rfl⟩
  · exact ⟨_, rfl, .inl ⟨i, rfl, _, rfl, i, m, rfl, rfl, .inl ⟨_, rfl, _, rfl, _, d, rfl, rfl, hd, _, 0, rfl, rfl, hR⟩⟩⟩
  · exact ⟨_, rfl, .inr ⟨k, rfl, _, rfl, _, m, rfl, rfl, .inl ⟨_, rfl, _, rfl, _, d, rfl, rfl, hd, _, 0, rfl, rfl, hR⟩⟩⟩
end
section
variable {X : Cx}
theorem act_fn {pins : List (Addr × Obj)} {σ : L2.St} {H : Hp} {s : Shared} {f : Addr} {a : Act} (I : Inv X pins σ H s) (h : ActV H f a) : PySem.W.FnAt f s.heap := by
  cases a with
  | num b m d =>
    obtain ⟨c, cl, h1, _⟩ := h
    obtain ⟨pm, ctv, ho⟩ := cloO_at I.hok h1
    exact ⟨_, _, _, _, ho⟩
  | tru m d =>
    obtain ⟨c, cl, h1, _⟩ := h
    obtain ⟨pm, ctv, ho⟩ := cloO_at I.hok h1
    exact ⟨_, _, _, _, ho⟩
/-- what a function's call by a local name asks -/
def tAct (i : Nat) (te : TE) : TE := fun σ H Q => ∃ f act, σ[i]? = some (some (.ref f)) ∧ ActV H f act ∧ tCons te tNil σ H fun vs H1 => ∃ v, vs = [v] ∧ ActV H1 f act ∧ ActOk act ∧ VOk v ∧ Q (act.ans v) H1
theorem pe_act {Kf : PySem.W.Frag} {i : Nat} {x : Str} {e : Expr} {te : TE} {p pos : Pos} (T : Tx Kf X.mg X.w) (hr : Room 1 X.A) (ha : PE X e te) (hN : X.N[i]? = some x := by rfl) (hv : Vis X.env.scope x := by first | exact .inl rfl | exact .inr (.inl rfl))
    (hd : (x == ("__debug__" : Str)) = false := by decide) (hcd : (x == ("__classdict__" : Str)) = false := by decide) (hK : X.K = Kf := by rfl)
    (he : starEach [e] X.env = (false, eval e X.env) :: starEach [] X.env := by rfl) (hpl : (backTo pos (starEach [] X.env)).any (·.1) = false := by rfl) :
    PE X (.Call (.Name x p) [e] [] pos) (tAct i te) := by
  subst hK
  refine ⟨fun pins s σ H Q I h => ?_⟩
  obtain ⟨f, act, hs, hf, ht⟩ := h
  refine wpAny_Call_Name_kw (thn ((pe_var (pos := p) hN hv hd hcd).run pins s σ H (fun v H1 => v = .ref f ∧ H1 = H) I ⟨.ref f, hs, rfl, rfl⟩) fun u s1 ⟨v, H1, I1, r1, q1⟩ => ?_)
  obtain ⟨ev, eH⟩ := q1
  subst ev
  rw [eH] at I1
  obtain rfl : u = Value.ref f := r1
  have pa := pa_cons ha pa_nil he
  refine PySem.W.callWith_F (first := []) (act_fn I1 hf) (thn (pa.run pos pins s1 σ H (fun vs H2 => ∃ v, vs = [v] ∧ ActV H2 f act ∧ ActOk act ∧ VOk v ∧ Q (act.ans v) H2) I1 ?_) fun us s2 ⟨vs, H2, I2, r, v, ev, h1, h2, h3, q⟩ => ⟨act_fn I2 h1, ?_⟩) he hpl
  · exact ht
  · subst ev
    obtain ⟨u, rfl, ru⟩ := r.one
    show wpAny _ _ (call (.ref f) [u]) _ _ _
    have run : codeAny (model X.prog X.w) X.A (.call (.ref f) ⟨[u], []⟩) (CR CX0 X.stack X.prog X.w H2 s2 Q E0) s2 := by
      cases act with
      | num b m d => exact run_num T hr I2.env0 h1 h2 h3 ru q
      | tru m d => exact run_tru T hr I2.env0 h1 h2 h3 ru q
    refine wpAny_call (codeAny_mono run fun r s' hq => ?_)
    cases r with
    | error e => exact False.elim hq
    | ok fl =>
      cases fl with
      | ret u => exact I2.after hq
      | next => exact False.elim hq
      | brk => exact False.elim hq
      | cont => exact False.elim hq
end
end K

set_option Elab.async false
set_option linter.all false
set_option maxRecDepth 100000
set_option maxHeartbeats 4000000
/-! KF12: callflows.running: Runner. -/
namespace K
open PySem PySem.Spec PyProof.Rows L2 He TL LamX
abbrev Ev := Nm × V × V
def behF (F : Nm → Act) : List Nm → V → V × List Ev
  | [], v => (v, [])
  | n :: ns, v => ((F n).ans (behF F ns v).1, (behF F ns v).2 ++ [(n, (behF F ns v).1, (F n).ans (behF F ns v).1)])
def truV : V → Bool
  | .int i => i != 0
  | .bl b => b
  | _ => false
def WF (F : Nm → Act) : Wd Nm V Ev := ⟨behF F, truV, fun _ => rfl⟩
theorem behF_ok {F : Nm → Act} : ∀ {ns : List Nm} {v : V}, (∀ n ∈ ns, ActOk (F n)) → VOk v → VOk (behF F ns v).1
  | [], _, _, h => h
  | n :: ns, v, ho, h => ans_ok (ho n List.mem_cons_self)
theorem behF_len (F : Nm → Act) : ∀ (ns : List Nm) (v : V), (behF F ns v).2.length = ns.length
  | [], _ => rfl
  | n :: ns, v => by
    show ((behF F ns v).2 ++ [_]).length = _
    rw [List.length_append, behF_len F ns v]; rfl
/-- the functions, by name -/
def FnsV (H : Hp) (d : Addr) (F : Nm → Act) (ns : List Nm) : Prop := ∃ kvs : List (Key × V), H d = some (.dK kvs) ∧ kvs.length ≤ 1000 ∧ (∀ kv ∈ kvs, ∃ n : Nm, kv.1 = Sum.inr (mk n) ∧ isNameL n = true) ∧
  ∀ n ∈ ns, ∃ f, valV kvs (Sum.inr (mk n) : Key) = some (.ref f) ∧ ActV H f (F n) ∧ ActOk (F n)
def EvV (K : PySem.W.Frag) (H : Hp) (y : V) (e : Ev) : Prop := ∃ t, y = .ref t ∧ SqT K H t [.str (mk e.1), e.2.1, e.2.2]
def EvsV (K : PySem.W.Frag) (H : Hp) (ys : List V) (es : List Ev) : Prop := ys.length = es.length ∧ ∀ (i : Nat) (y : V) (e : Ev), ys[i]? = some y → es[i]? = some e → EvV K H y e
def LogV (K : PySem.W.Frag) (H : Hp) (m : Addr) (es : List Ev) : Prop := ∃ ys, H m = some (.lst ys) ∧ EvsV K H ys es
theorem EvsV.sml {K : PySem.W.Frag} {H H' : Hp} {ys : List V} {es : List Ev} (e : SmL H H') (h : EvsV K H ys es) : EvsV K H' ys es :=
  ⟨h.1, fun i y v a b => let ⟨t, c, d⟩ := h.2 i y v a b; ⟨t, c, e.seqT d⟩⟩
theorem EvsV.snoc {K : PySem.W.Frag} {H : Hp} {ys : List V} {es : List Ev} {y : V} {e : Ev} (h : EvsV K H ys es) (h1 : EvV K H y e) : EvsV K H (ys ++ [y]) (es ++ [e]) := by
  refine ⟨by simp [h.1], fun i z r e1 e2 => ?_⟩
  have hl := h.1
  by_cases hi : i < ys.length
  · rw [List.getElem?_append_left hi] at e1
    rw [List.getElem?_append_left (by omega)] at e2
    exact h.2 i z r e1 e2
  · rw [List.getElem?_append_right (by omega)] at e1
    rw [List.getElem?_append_right (by omega), ← hl] at e2
    cases hj : i - ys.length with
    | zero => rw [hj] at e1 e2; cases e1; cases e2; exact h1
    | succ k => rw [hj] at e1; simp at e1
theorem kp_sml {H H' : Hp} {m : Addr} {ys : List V} (hm : H m = some (.lst ys)) (k : Kp (· = m) H H') : SmL H H' := fun b o e n => k b o e (.inl fun z => by
  have z' : b = m := z
  rw [z', hm] at e
  exact n _ (Option.some.inj e).symm)
theorem FnsV.sml {H H' : Hp} {d : Addr} {F : Nm → Act} {ns : List Nm} (e : SmL H H') (h : FnsV H d F ns) : FnsV H' d F ns := by
  obtain ⟨kvs, h1, h2, h3, h4⟩ := h
  refine ⟨kvs, e _ _ h1 (fun _ z => by cases z), h2, h3, fun n hn => ?_⟩
  obtain ⟨f, a, b, c⟩ := h4 n hn
  exact ⟨f, a, b.of fun b φ hb => e _ _ hb (fun _ z => by cases z), c⟩
abbrev cR (K : PySem.W.Frag) : Addr := ga K "Runner"
def RunV (K : PySem.W.Frag) (H : Hp) (r m : Addr) (F : Nm → Act) (ns : List Nm) : Prop := ∃ dx d, H r = some (.ins (cR K) dx [("functions", .ref d), ("made", .ref m)]) ∧ FnsV H d F ns
theorem RunV.sml {K : PySem.W.Frag} {H H' : Hp} {r m : Addr} {F : Nm → Act} {ns : List Nm} (e : SmL H H') (h : RunV K H r m F ns) : RunV K H' r m F ns := by
  obtain ⟨dx, d, h1, h2⟩ := h
  exact ⟨dx, d, e _ _ h1 (fun _ z => by cases z), h2.sml e⟩
theorem drop_pred {α : Type} {w : List α} {i : Nat} (h : i < w.length) : ∃ n, w.reverse[i]? = some n ∧ w.drop (w.length - (i + 1)) = n :: w.drop (w.length - i) ∧ n ∈ w := by
  have h1 : w.length - (i + 1) < w.length := by omega
  refine ⟨w[w.length - (i + 1)], ?_, ?_, List.getElem_mem h1⟩
  · rw [List.getElem?_reverse h, show w.length - 1 - i = w.length - (i + 1) by omega, List.getElem?_eq_getElem h1]
  · rw [List.drop_eq_getElem_cons h1, show w.length - (i + 1) + 1 = w.length - i by omega]
section
variable {P : Program} {w : World} {K : PySem.W.Frag} {mg : Str → Option Value} {base : Heap}
def spBehind (K : PySem.W.Frag) : Sp := fun vs H Q _ => ∃ (r m a : Addr) (F : Nm → Act) (ns wd : List Nm) (v : V) (es : List Ev), vs = [.ref r, .ref a, v] ∧ RunV K H r m F ns ∧ LogV K H m es ∧ SqT K H a (wd.map fun n => V.str (mk n)) ∧ (∀ n ∈ wd, n ∈ ns) ∧ VOk v ∧ es.length + wd.length ≤ 10000 ∧
  ∀ H', Kp (· = m) H H' → LogV K H' m (es ++ (behF F wd v).2) → Q (behF F wd v).1 H'
theorem ok_behind (T : Tx K mg w) : ∃ fd, FunD K "behind" "Runner.behind" (defArgs s_Runner_behind) (defBody s_Runner_behind) (defScope s_Runner_behind) [] [] (ma K (cR K) "behind") fd ∧
    FnOk P w K mg base CX0 2 (ma K (cR K) "behind") fd ["self", "names", "value"] (spBehind K) := by
  have nd := sc_Runner_behind.nd
  refine T.d_Runner_behind.mk sc_Runner_behind (fun vs H Q E h => ?_) (fun cdv A outer s H vs Q E hr h => ?_)
  · obtain ⟨r, m, a, F, ns, wd, v, es, rfl, _⟩ := h
    rfl
  · obtain ⟨r, m, a, F, ns, wd, v, es, rfl, hR, hL, hS, hns, hv, hz, q⟩ := h
    refine ⟨_, pss_cons (ps_for PassesOwn.never rfl (pi_tup (pe_revT (pv 1))) (pg_name (i := 3) nd rfl (.inl rfl))
        (pss_cons (ps_set (i := 4) nd rfl (.inl rfl) (pe_dget (hu_of hr) (pe_fld (pv 0) rfl) (pv 3) (fun _ _ => rfl)))
        (pss_cons (ps_set (i := 5) nd rfl (.inl rfl) (pe_act (i := 4) T hr (pv 2)))
        (pss_cons (ps_expr (pe_bm PySem.F.plainAttrs_list PySem.F.slot_list_append PySem.F.type_list_append mt_append (pe_fld (pv 0) rfl) (pa_cons (pe_tup (pa_cons (pv 3) (pa_cons (pv 2) (pa_cons (pv 5) pa_nil)))) pa_nil)))
        (pss_one (ps_set (i := 2) nd rfl (.inl rfl) (pv 5)))))))
      (pss_one (ps_ret (pv 2))), ?_⟩
    refine ⟨_, rfl, a, _, rfl, hS, fun p np => ⟨p, rfl, ⟨_, SqT.of upd_same⟩, ?_⟩⟩
    have sp := same_new (o := .tup (wd.map fun n => V.str (mk n)).reverse) np
    have hL0 := hL
    obtain ⟨ys0, hm0, hys0⟩ := hL
    refine for_tup (xs := (wd.map fun n => V.str (mk n)).reverse) (fun i σ H' => Kp (· = m) H H' ∧ H' p = some (.tup (wd.map fun n => V.str (mk n)).reverse) ∧ RunV K H' r m F ns ∧ LogV K H' m (es ++ (behF F (wd.drop (wd.length - i)) v).2) ∧
        ∃ o3 o4 o5, σ = [some (.ref r), some (.ref a), some (behF F (wd.drop (wd.length - i)) v).1, o3, o4, o5])
      ⟨Same.kp sp, upd_same, hR.sml (SmL.of sp), ?_, none, none, none, ?_⟩ (fun i σ H' _ h => SqT.of h.2.1) (fun i y σ H1 hy hp => ?_) (fun σ H1 hp => ?_)
    · rw [show wd.length - 0 = wd.length by omega, List.drop_length]
      show LogV K _ m (es ++ [])
      rw [List.append_nil]
      exact ⟨ys0, sp _ _ hm0, hys0.sml (SmL.of sp)⟩
    · rw [show wd.length - 0 = wd.length by omega, List.drop_length]; rfl
    · obtain ⟨k1, hp1, hR1, ⟨ys, hm, hys⟩, o3, o4, o5, rfl⟩ := hp
      have hlt : i < wd.length := by
        rcases Nat.lt_or_ge i wd.length with z | z
        · exact z
        · rw [List.getElem?_eq_none (by simpa using z)] at hy; cases hy
      obtain ⟨n, hn1, hn2, hn3⟩ := drop_pred hlt
      rw [← List.map_reverse, List.getElem?_map, hn1] at hy
      cases hy
      obtain ⟨dx, d, hr1, hd⟩ := id hR1
      obtain ⟨kvs, hk1, hk2, hk3, hk4⟩ := hd
      obtain ⟨f, hf1, hf2, hf3⟩ := hk4 n (hns n hn3)
      have hvo : VOk (behF F (wd.drop (wd.length - i)) v).1 := behF_ok (fun k hk => by
        obtain ⟨_, _, _, c⟩ := hk4 k (hns k (List.mem_of_mem_drop hk))
        exact c) hv
      have hlen := behF_len F (wd.drop (wd.length - i)) v
      rw [List.length_drop] at hlen
      have eb : behF F (wd.drop (wd.length - (i + 1))) v = ((F n).ans (behF F (wd.drop (wd.length - i)) v).1, (behF F (wd.drop (wd.length - i)) v).2 ++ [(n, (behF F (wd.drop (wd.length - i)) v).1, (F n).ans (behF F (wd.drop (wd.length - i)) v).1)]) := by
        rw [hn2]; rfl
      rw [eb]
      generalize behF F (wd.drop (wd.length - i)) v = B at hvo hlen hys
      refine ⟨_, rfl, r, cR K, dx, _, _, rfl, hr1, T.cl_Runner, T.n_Runner_functions, rfl, _, rfl, d, .ref f, rfl, .inl ⟨kvs, Sum.inr (mk n), .inl hk1, rfl, hf1.symm⟩, ?_⟩
      refine ⟨f, F n, rfl, hf2, _, rfl, _, rfl, hf2, hf3, hvo, ?_⟩
      refine ⟨_, rfl, r, cR K, dx, _, _, rfl, hr1, T.cl_Runner, T.n_Runner_made, rfl, .inl ⟨rfl, ys, SqL.of hm⟩, _, rfl, _, rfl, _, rfl, by show 3 ≤ sizeLine; decide, fun t nt => ?_⟩
      have st := same_new (o := .tup [.str (mk n), B.1, (F n).ans B.1]) nt
      have hm2 := st _ _ hm
      have hyl := hys.1
      refine ⟨m, ys, .ref t, rfl, rfl, hm2, ?_, _, rfl, ?_⟩
      · rw [hyl, List.length_append]
        exact Nat.lt_of_le_of_lt (show _ ≤ 10000 by omega) (by decide)
      have kput : Kp (· = m) (upd H1 t (.tup [.str (mk n), B.1, (F n).ans B.1])) (upd (upd H1 t (.tup [.str (mk n), B.1, (F n).ans B.1])) m (.lst (ys ++ [.ref t]))) := kp_set rfl hm2 ns_lst
      have sml : SmL H1 (upd (upd H1 t (.tup [.str (mk n), B.1, (F n).ans B.1])) m (.lst (ys ++ [.ref t]))) := (SmL.of st).trans (SmL.put hm2)
      refine ⟨(k1.trans (Same.kp st)).trans kput, kput.tup (st _ _ hp1), hR1.sml sml, ⟨ys ++ [.ref t], upd_same, ?_⟩, _, _, _, rfl⟩
      rw [← List.append_assoc]
      exact (hys.sml sml).snoc ⟨t, rfl, SqT.of (kput.tup upd_same)⟩
    · obtain ⟨k1, hp1, hR1, hL1, o3, o4, o5, rfl⟩ := hp
      rw [List.length_reverse, List.length_map, Nat.sub_self, List.drop_zero] at hL1
      rw [List.length_reverse, List.length_map, Nat.sub_self, List.drop_zero]
      exact ⟨_, rfl, q H1 k1 hL1⟩
def spIsTrue (K : PySem.W.Frag) : Sp := fun vs H Q _ => ∃ (r m a : Addr) (F : Nm → Act) (ns wd : List Nm) (v : V) (es : List Ev), vs = [.ref r, .ref a, v] ∧ RunV K H r m F ns ∧ LogV K H m es ∧ SqT K H a (wd.map fun n => V.str (mk n)) ∧ (∀ n ∈ wd, n ∈ ns) ∧ VOk v ∧ es.length + wd.length ≤ 10000 ∧
  ∀ H', Kp (· = m) H H' → LogV K H' m (es ++ (behF F wd v).2) → Q (.bl (truV (behF F wd v).1)) H'
theorem fns_ok {H : Hp} {d : Addr} {F : Nm → Act} {ns : List Nm} (h : FnsV H d F ns) : ∀ n ∈ ns, ActOk (F n) := fun n hn => by
  obtain ⟨_, _, _, _, h4⟩ := h
  obtain ⟨_, _, _, c⟩ := h4 n hn
  exact c
theorem ok_is_true (T : Tx K mg w) : ∃ fd, FunD K "is_true" "Runner.is_true" (defArgs s_Runner_is_true) (defBody s_Runner_is_true) (defScope s_Runner_is_true) [] [] (ma K (cR K) "is_true") fd ∧
    FnOk P w K mg base CX0 3 (ma K (cR K) "is_true") fd ["self", "test", "value"] (spIsTrue K) := by
  obtain ⟨fd, F0, G0⟩ := ok_behind (P := P) (base := base) T
  refine T.d_Runner_is_true.mk sc_Runner_is_true (fun vs H Q E h => ?_) (fun cdv A outer s H vs Q E hr h => ?_)
  · obtain ⟨r, m, a, F, ns, wd, v, es, rfl, _⟩ := h
    rfl
  · obtain ⟨r, m, a, F, ns, wd, v, es, rfl, hR, hL, hS, hns, hv, hz, q⟩ := h
    refine ⟨_, pss_one (ps_ret (pe_callTy call_bool1 (by rfl) T.z_bool bt_bool (pa_cons (pe_meth (pv 0) T.cl_Runner T.m_Runner_behind G0 hr (F0.bindsN fun _ _ _ _ _ _ us hl => match us, hl with | [_, _, _], _ => rfl) .nil pass0 (pa_cons (pv 1) (pa_cons (pv 2) pa_nil))) pa_nil))), ?_⟩
    have hR0 := hR
    obtain ⟨dx, d, hr1, hd⟩ := hR
    refine ⟨_, rfl, r, dx, _, rfl, hr1, rfl, _, rfl, _, rfl, r, m, a, F, ns, wd, v, es, rfl, hR0, hL, hS, hns, hv, hz, fun H' k hl => ?_⟩
    have := q H' k hl
    have ho := behF_ok (F := F) (ns := wd) (fun n hn => fns_ok hd n (hns n hn)) hv
    rcases ho with ⟨i, e, _⟩ | ⟨b, e⟩
    · refine .inl ⟨i, by rw [e], ?_⟩
      rw [e] at this
      exact this
    · refine .inr ⟨b, by rw [e], ?_⟩
      rw [e] at this
      exact this
def spRunnerInit (K : PySem.W.Frag) : Sp := fun vs H Q _ => ∃ (x dx d : Addr) (F : Nm → Act) (ns : List Nm), vs = [.ref x, .ref d] ∧ H x = some (.ins (cR K) dx []) ∧ FnsV H d F ns ∧ ∀ H' m, Kp (· = x) H H' → H m = none → RunV K H' x m F ns → LogV K H' m [] → Q .non H'
theorem ok_runner_init (T : Tx K mg w) : ∃ fd, FunD K "__init__" "Runner.__init__" (defArgs s_Runner_init) (defBody s_Runner_init) (defScope s_Runner_init) [] [] (ma K (cR K) "__init__") fd ∧
    FnOk P w K mg base CX0 1 (ma K (cR K) "__init__") fd ["self", "functions"] (spRunnerInit K) := by
  refine T.d_Runner_init.mk sc_Runner_init (fun vs H Q E h => ?_) (fun cdv A outer s H vs Q E hr h => ?_)
  · obtain ⟨x, dx, d, F, ns, rfl, _⟩ := h
    rfl
  · obtain ⟨x, dx, d, F, ns, rfl, hx, hF, q⟩ := h
    refine ⟨_, pss_cons (ps_fld (pv 0) (pe_callTy call_dictD (by rfl) T.z_dict bt_dict (pa_cons (pv 1) pa_nil)) rfl) (pss_one (ps_fld (pv 0) (pe_lst pa_nil) rfl)), ?_⟩
    have hF0 := hF
    obtain ⟨kvs, hk1, hk2, hk3, hk4⟩ := hF
    refine ⟨_, rfl, d, kvs, rfl, .inl hk1, fun p np => ?_⟩
    have sp := same_new (o := .dK kvs) np
    have nex : x ≠ p := fun z => by rw [← z, hx] at np; cases np
    refine ⟨_, rfl, x, cR K, dx, [], rfl, sp _ _ hx, T.cl_Runner, T.n_Runner_functions, by decide, by decide, fun m nm => ?_⟩
    have hx2 : (upd (upd H p (.dK kvs)) x (.ins (cR K) dx (putF "functions" (.ref p) []))) x = some (.ins (cR K) dx (putF "functions" (.ref p) [])) := upd_same
    have sm := same_new (o := .lst []) nm
    have nxm : x ≠ m := fun z => by rw [← z, upd_same] at nm; cases nm
    have npm : p ≠ m := fun z => by rw [← z, upd_ne (Ne.symm nex), upd_same] at nm; cases nm
    refine ⟨_, rfl, x, cR K, dx, _, rfl, sm _ _ hx2, T.cl_Runner, T.n_Runner_made, by show 1 < 1000; decide, ?_⟩
    have k1 : Kp (· = x) H (upd (upd (upd (upd H p (.dK kvs)) x (.ins (cR K) dx (putF "functions" (.ref p) []))) m (.lst [])) x (.ins (cR K) dx (putF "made" (.ref m) (putF "functions" (.ref p) [])))) :=
      (((Same.kp sp).trans (kp_set (M := (· = x)) rfl (sp _ _ hx) ns_ins)).trans (Same.kp sm)).trans (kp_set (M := (· = x)) rfl (sm _ _ hx2) ns_ins)
    have nm0 : H m = none := by
      rw [upd_ne (Ne.symm nxm), upd_ne (Ne.symm npm)] at nm
      exact nm
    refine q _ m k1 nm0 ⟨dx, p, upd_same, kvs, ?_, hk2, hk3, fun n hn => ?_⟩ ⟨[], ?_, rfl, fun i y e h => by simp at h⟩
    · rw [upd_ne (Ne.symm nex), upd_ne npm, upd_ne (Ne.symm nex), upd_same]
    · obtain ⟨f, a, b, c⟩ := hk4 n hn
      exact ⟨f, a, b.of fun b φ hb => k1.ext hb, c⟩
    · rw [upd_ne (Ne.symm nxm), upd_same]
end
end K

set_option Elab.async false
set_option linter.all false
set_option maxRecDepth 100000
set_option maxHeartbeats 4000000
/-! KF13: callflows.playing: Gate. -/
namespace K
open PySem PySem.Spec PyProof.Rows L2 He TL LamX
abbrev cG (K : PySem.W.Frag) : Addr := ga K "Gate"
def gFs (x : Addr) (n : Nat) (b : Bool) : List (Str × V) := [("stage", .ref x), ("seen", .int (n : Int)), ("is_open", .bl b)]
/-- a gate stands at g -/
def GateV (K : PySem.W.Frag) (H : Hp) (g : Addr) (gt : Gt Nm) : Prop := ∃ dx x v, H g = some (.ins (cG K) dx (gFs x gt.seen gt.op)) ∧ StageV K H x gt.sg v
/-- all but the gates' own objects and lists -/
def SmG (K : PySem.W.Frag) (H H' : Hp) : Prop := ∀ b o, H b = some o → (∀ xs, o ≠ .lst xs) → (∀ dx fs, o ≠ .ins (cG K) dx fs) → H' b = some o
theorem SmG.refl {K : PySem.W.Frag} (H : Hp) : SmG K H H := fun _ _ e _ _ => e
theorem SmG.trans {K : PySem.W.Frag} {H H1 H2 : Hp} (a : SmG K H H1) (b : SmG K H1 H2) : SmG K H H2 := fun c o e n m => b c o (a c o e n m) n m
theorem SmG.of {K : PySem.W.Frag} {H H1 : Hp} (a : SmL H H1) : SmG K H H1 := fun c o e n _ => a c o e n
theorem SmG.put {K : PySem.W.Frag} {H : Hp} {g dx : Addr} {fs : List (Str × V)} {o : HO} (e : H g = some (.ins (cG K) dx fs)) : SmG K H (upd H g o) := fun b u eb _ n => by
  rw [upd_ne (fun z => by rw [z, e] at eb; exact n _ _ (Option.some.inj eb).symm)]; exact eb
theorem SmG.seqT {K : PySem.W.Frag} {H H' : Hp} {a : Addr} {xs : List V} (e : SmG K H H') (h : SqT K H a xs) : SqT K H' a xs := by
  rcases h with (h | ⟨o, h⟩) | h
  · exact .inl (.inl (e _ _ h (fun _ z => by cases z) (fun _ _ z => by cases z)))
  · exact .inl (.inr ⟨o, e _ _ h (fun _ z => by cases z) (fun _ _ z => by cases z)⟩)
  · exact .inr h
theorem SmG.det {K : PySem.W.Frag} {H H' : Hp} {v : V} (e : SmG K H H') : ∀ {sg : SgL}, DetAt K H sg v → DetAt K H' sg v
  | .each _ _, ⟨a, h1, h2⟩ => ⟨a, h1, e.seqT h2⟩
  | .ask _ _ _, ⟨a, h1, h2⟩ => ⟨a, h1, e.seqT h2⟩
  | .every _ _ _, ⟨a, h1, h2⟩ => ⟨a, h1, e.seqT h2⟩
  | .first _ _, h => h
  | .skip _ _, h => h
  | .last _, h => h
  | .but _, h => h
  | .turned, h => h
theorem SmG.stage {K : PySem.W.Frag} {H H' : Hp} {x : Addr} {sg : SgL} {v : V} (ne : cG K ≠ cS K) (e : SmG K H H') (h : StageV K H x sg v) : StageV K H' x sg v := by
  obtain ⟨dx, t, h1, h2, h3⟩ := h
  exact ⟨dx, t, e _ _ h1 (fun _ z => by cases z) (fun _ _ z => by injection z with z; exact ne z.symm), e.seqT h2, e.det h3⟩
theorem SmG.fns {K : PySem.W.Frag} {H H' : Hp} {d : Addr} {F : Nm → Act} {ns : List Nm} (e : SmG K H H') (h : FnsV H d F ns) : FnsV H' d F ns := by
  obtain ⟨kvs, h1, h2, h3, h4⟩ := h
  refine ⟨kvs, e _ _ h1 (fun _ z => by cases z) (fun _ _ z => by cases z), h2, h3, fun n hn => ?_⟩
  obtain ⟨f, a, b, c⟩ := h4 n hn
  exact ⟨f, a, b.of fun b φ hb => e _ _ hb (fun _ z => by cases z) (fun _ _ z => by cases z), c⟩
theorem SmG.run {K : PySem.W.Frag} {H H' : Hp} {r m : Addr} {F : Nm → Act} {ns : List Nm} (ne : cG K ≠ cR K) (e : SmG K H H') (h : RunV K H r m F ns) : RunV K H' r m F ns := by
  obtain ⟨dx, d, h1, h2⟩ := h
  exact ⟨dx, d, e _ _ h1 (fun _ z => by cases z) (fun _ _ z => by injection z with z; exact ne z.symm), e.fns h2⟩
theorem SmG.evs {K : PySem.W.Frag} {H H' : Hp} {ys : List V} {es : List Ev} (e : SmG K H H') (h : EvsV K H ys es) : EvsV K H' ys es :=
  ⟨h.1, fun i y v a b => let ⟨t, c, d⟩ := h.2 i y v a b; ⟨t, c, e.seqT d⟩⟩
/-- the stage's names are known, it is no list kind -/
def GOk (ns : List Nm) (sg : SgL) : Prop := SgOk sg ∧ sg.isList = false ∧ (match sg with | .each w _ => ∀ n ∈ w, n ∈ ns | .ask _ t _ => ∀ n ∈ t, n ∈ ns | _ => True)
theorem StageV.sml' {K : PySem.W.Frag} {H H' : Hp} {x : Addr} {sg : SgL} {v : V} (h : StageV K H x sg v) (e : SmL H H') : StageV K H' x sg v := e.stage h
section
variable {P : Program} {w : World} {K : PySem.W.Frag} {mg : Str → Option Value} {base : Heap}
def spGateInit (K : PySem.W.Frag) : Sp := fun vs H Q _ => ∃ (g dx x : Addr), vs = [.ref g, .ref x] ∧ H g = some (.ins (cG K) dx []) ∧ Q .non (upd (upd (upd H g (.ins (cG K) dx (putF "stage" (.ref x) []))) g (.ins (cG K) dx (putF "seen" (.int 0) (putF "stage" (.ref x) [])))) g (.ins (cG K) dx (gFs x 0 false)))
theorem ok_gate_init (T : Tx K mg w) : ∃ fd, FunD K "__init__" "Gate.__init__" (defArgs s_Gate_init) (defBody s_Gate_init) (defScope s_Gate_init) [] [] (ma K (cG K) "__init__") fd ∧
    FnOk P w K mg base CX0 1 (ma K (cG K) "__init__") fd ["self", "stage"] (spGateInit K) := by
  refine T.d_Gate_init.mk sc_Gate_init (fun vs H Q E h => ?_) (fun cdv A outer s H vs Q E hr h => ?_)
  · obtain ⟨g, dx, x, rfl, _⟩ := h
    rfl
  · obtain ⟨g, dx, x, rfl, hg, q⟩ := h
    refine ⟨_, pss_cons (ps_fld (pv 0) (pv 1) rfl) (pss_cons (ps_fld (pv 0) pe_int rfl) (pss_one (ps_fld (pv 0) pe_bl rfl))), ?_⟩
    refine ⟨_, rfl, _, rfl, g, cG K, dx, [], rfl, hg, T.cl_Gate, T.n_Gate_stage, by decide, ?_⟩
    refine ⟨_, rfl, g, cG K, dx, _, rfl, upd_same, T.cl_Gate, T.n_Gate_seen, by show 1 < 1000; decide, ?_⟩
    exact ⟨_, rfl, g, cG K, dx, _, rfl, upd_same, T.cl_Gate, T.n_Gate_is_open, by show 2 < 1000; decide, q⟩
def spPassed (K : PySem.W.Frag) : Sp := fun vs H Q _ => ∃ (g r m : Addr) (gt : Gt Nm) (F : Nm → Act) (ns : List Nm) (v : V) (es : List Ev), vs = [.ref g, v, .ref r] ∧ GateV K H g gt ∧ GOk ns gt.sg ∧ RunV K H r m F ns ∧ LogV K H m es ∧ VOk v ∧ es.length ≤ 9000 ∧ cG K ≠ cS K ∧ cG K ≠ cR K ∧
  ∀ H' p v' go ov lg rr gt', gstep (WF F) gt v = (lg, rr, gt', ov) → (rr = some v' ∧ go = true ∧ VOk v' ∨ rr = none ∧ go = false) → lg.length ≤ 4 → Kp (fun b => b = g ∨ b = m) H H' → SmG K H H' → SqT K H' p [v', .bl go, .bl ov] → GateV K H' g gt' → LogV K H' m (es ++ lg) → Q (.ref p) H'
theorem ok_passed (T : Tx K mg w) : ∃ fd, FunD K "passed" "Gate.passed" (defArgs s_Gate_passed) (defBody s_Gate_passed) (defScope s_Gate_passed) [] [] (ma K (cG K) "passed") fd ∧
    FnOk P w K mg base CX0 4 (ma K (cG K) "passed") fd ["self", "value", "caller"] (spPassed K) := by
  have nd := sc_Gate_passed.nd
  obtain ⟨fb, Fb, Gb⟩ := ok_behind (P := P) (base := base) T
  obtain ⟨ft, Ft, Gt0⟩ := ok_is_true (P := P) (base := base) T
  refine T.d_Gate_passed.mk sc_Gate_passed (fun vs H Q E h => ?_) (fun cdv A outer s H vs Q E hr h => ?_)
  · obtain ⟨g, r, m, gt, F, ns, v, es, rfl, _⟩ := h
    rfl
  · obtain ⟨g, r, m, gt, F, ns, v, es, rfl, ⟨dx, x, d, hg, hx⟩, ⟨ho, hl, hns⟩, hR, hL, hv, hz, ne1, ne2, q⟩ := h
    refine ⟨_, pss_cons (ps_par (i := 3) (j := 4) (by rfl) nd rfl rfl (by decide) rfl rfl (pa_cons (pe_kind T (hr.mono (by decide)) (pe_fld (pv 0) rfl)) (pa_cons (pe_detail T (hr.mono (by decide)) (pe_fld (pv 0) rfl)) pa_nil)) (by rfl))
      (pss_cons (ps_fldaug (pv 0) pe_int in_add)
      (pss_cons (ps_if (pt_cmpR op_eq (pv 3) pe_str (nomark _)) (pss_one (ps_ret (pe_tup (pa_cons (pe_meth (pv 2) T.cl_Runner T.m_Runner_behind Gb (hr.mono (by decide)) (Fb.bindsN fun _ _ _ _ _ _ us hl => match us, hl with | [_, _, _], _ => rfl) .nil pass0 (pa_cons (pv 4) (pa_cons (pv 1) pa_nil))) (pa_cons pe_bl (pa_cons pe_bl pa_nil)))))) pss_nil)
      (pss_cons (ps_if (pt_cmpR op_in_seq (pv 3) (pe_glob (v := .ref _) (by rfl) T.g_COUNTED rfl) (by rfl)) (pss_one (ps_ret (pe_tup (pa_cons (pv 1) (pa_cons (pe_g (ok_is_counted_in T) (hr.mono (by decide)) (pa_cons (pv 3) (pa_cons (pv 4) (pa_cons (pe_fld (pv 0) rfl) pa_nil))))
          (pa_cons (pe_and (pe_cmpR op_eq (pv 3) pe_str (nomark _)) (pe_one (pe_cmpR op_eq (pe_fld (pv 0) rfl) (pv 4) (nomark _)))) pa_nil)))))) pss_nil)
      (pss_cons (ps_if (pt_val (pe_fld (pv 0) rfl)) (pss_one (ps_ret (pe_tup (pa_cons (pv 1) (pa_cons pe_bl (pa_cons pe_bl pa_nil)))))) pss_nil)
      (pss_cons (ps_set (i := 5) nd rfl (.inl rfl) (pe_meth (pv 2) T.cl_Runner T.m_Runner_is_true Gt0 hr (Ft.bindsN fun _ _ _ _ _ _ us hl => match us, hl with | [_, _, _], _ => rfl) .nil pass0 (pa_cons (pv 4) (pa_cons (pv 1) pa_nil))))
      (pss_cons (ps_if (pt_cmpR op_eq (pv 3) pe_str (nomark _)) (pss_cons (ps_fld (pv 0) (pe_not (pv 5)) rfl) (pss_one (ps_ret (pe_tup (pa_cons (pv 1) (pa_cons (pe_not (pv 5)) (pa_cons pe_bl pa_nil))))))) pss_nil)
      (pss_one (ps_ret (pe_tup (pa_cons (pv 1) (pa_cons (pe_cmpR op_eq (pv 5) (pe_cmpR op_ne (pv 3) pe_str (nomark _)) (nomark _)) (pa_cons (pe_and (pe_cmpR op_eq (pv 3) pe_str (nomark _)) (pe_one (pe_not (pv 5)))) pa_nil)))))))))))), ?_⟩
    obtain ⟨sg, seen, op⟩ := gt
    obtain ⟨ys, hm, hys⟩ := id hL
    have hgm : g ≠ m := fun z => by rw [z, hm] at hg; cases hg
    refine ⟨_, rfl, g, cG K, dx, _, _, rfl, hg, T.cl_Gate, T.n_Gate_stage, rfl, stGet hx ⟨_, rfl, g, cG K, dx, _, _, rfl, hg, T.cl_Gate, T.n_Gate_stage, rfl, stGet hx ⟨_, _, rfl, ?_⟩⟩⟩
    refine ⟨_, rfl, g, cG K, dx, _, _, rfl, hg, T.cl_Gate, T.n_Gate_seen, rfl, (seen : Int), 1, rfl, rfl, dx, _, hg, by show 3 < 1000; decide, ?_⟩
    have efs : putF "seen" (.int ((seen : Int) + 1)) (gFs x seen op) = gFs x (seen + 1) op := by
      show [_, _, _] = [_, _, _]
      rw [show ((seen + 1 : Nat) : Int) = (seen : Int) + 1 by omega]
    have k1 : Kp (fun b => b = g ∨ b = m) H (upd H g (.ins (cG K) dx (putF "seen" (.int ((seen : Int) + 1)) (gFs x seen op)))) := kp_set (.inl rfl) hg ns_ins
    have g1 : SmG K H (upd H g (.ins (cG K) dx (putF "seen" (.int ((seen : Int) + 1)) (gFs x seen op)))) := SmG.put hg
    have hg1 : (upd H g (.ins (cG K) dx (putF "seen" (.int ((seen : Int) + 1)) (gFs x seen op)))) g = some (.ins (cG K) dx (gFs x (seen + 1) op)) := by rw [upd_same, efs]
    have hm1 : (upd H g (.ins (cG K) dx (putF "seen" (.int ((seen : Int) + 1)) (gFs x seen op)))) m = some (.lst ys) := by rw [upd_ne (Ne.symm hgm)]; exact hm
    generalize upd H g (.ins (cG K) dx (putF "seen" (.int ((seen : Int) + 1)) (gFs x seen op))) = H1 at k1 g1 hg1 hm1
    have hx1 := g1.stage ne1 hx
    have hR1 := g1.run ne2 hR
    have hL1 : LogV K H1 m es := ⟨ys, hm1, g1.evs hys⟩
    obtain ⟨_, _, _, _, hd⟩ := id hx1
    -- what a plain answer gives
    have fin : ∀ (H2 : Hp) (v' : V) (go ov : Bool) (lg : List Ev) (rr : Option V) (gt' : Gt Nm), gstep (WF F) ⟨sg, seen, op⟩ v = (lg, rr, gt', ov) → (rr = some v' ∧ go = true ∧ VOk v' ∨ rr = none ∧ go = false) → lg.length ≤ 4 → Kp (fun b => b = g ∨ b = m) H1 H2 → SmG K H1 H2 → GateV K H2 g gt' → LogV K H2 m (es ++ lg) →
        3 ≤ sizeLine ∧ ∀ p, H2 p = none → Q (.ref p) (upd H2 p (.tup [v', .bl go, .bl ov])) := fun H2 v' go ov lg rr gt' e1 e2 e3 k2 g2 hg2 hl2 => ⟨by decide, fun p np => by
      have sp := same_new (o := .tup [v', .bl go, .bl ov]) np
      obtain ⟨dx2, x2, d2, a1, a2⟩ := hg2
      obtain ⟨ys2, b1, b2⟩ := hl2
      exact q _ p v' go ov lg rr gt' e1 e2 e3 ((k1.trans k2).trans (Same.kp sp)) ((g1.trans g2).trans (SmG.of (SmL.of sp))) (SqT.of upd_same) ⟨dx2, x2, d2, sp _ _ a1, a2.same sp⟩ ⟨ys2, sp _ _ b1, b2.sml (SmL.of sp)⟩⟩
    have hg1' : GateV K H1 g ⟨sg, seen + 1, op⟩ := ⟨dx, x, d, hg1, hx1⟩
    have hc := in_COUNTED sg
    obtain ⟨dxr, fdr, hr1, _⟩ := id hR1
    have kfin : ∀ (H2 : Hp) (v' : V) (go ov : Bool) (lg : List Ev) (rr : Option V) (gt' : Gt Nm), gstep (WF F) ⟨sg, seen, op⟩ v = (lg, rr, gt', ov) → (rr = some v' ∧ go = true ∧ VOk v' ∨ rr = none ∧ go = false) → lg.length ≤ 4 → Kp (· = m) H1 H2 → gt' = ⟨sg, seen + 1, op⟩ → LogV K H2 m (es ++ lg) →
        3 ≤ sizeLine ∧ ∀ p, H2 p = none → Q (.ref p) (upd H2 p (.tup [v', .bl go, .bl ov])) := fun H2 v' go ov lg rr gt' e1 e2 e3 k2 e4 hl2 => by
      have sl := kp_sml hm1 k2
      refine fin H2 v' go ov lg rr gt' e1 e2 e3 (k2.mono fun b z => .inr z) (SmG.of sl) ?_ hl2
      rw [e4]
      exact ⟨dx, x, d, k2 g _ hg1 (.inl hgm), hx1.sml' sl⟩
    have pfin : ∀ (go ov : Bool) (rr : Option V), gstep (WF F) ⟨sg, seen, op⟩ v = ([], rr, ⟨sg, seen + 1, op⟩, ov) → (rr = some v ∧ go = true ∨ rr = none ∧ go = false) →
        3 ≤ sizeLine ∧ ∀ p, H1 p = none → Q (.ref p) (upd H1 p (.tup [v, .bl go, .bl ov])) := fun go ov rr e1 e2 => by
      refine kfin H1 v go ov [] rr _ e1 (e2.imp (fun z => ⟨z.1, z.2, hv⟩) id) (Nat.zero_le _) (Kp.refl _ _) rfl ?_
      rw [List.append_nil]
      exact hL1
    cases sg with
    | last a => cases hl
    | but a => cases hl
    | turned => cases hl
    | each wd b =>
      obtain ⟨a, rfl, hS⟩ := hd
      refine ⟨_, rfl, rfl, _, rfl, ?_⟩
      refine ifT (by show decide (V.str (Str.ofString "each") = V.str (Str.ofString "each")) = true; decide +kernel) ?_
      refine ⟨_, rfl, r, dxr, _, rfl, hr1, rfl, _, rfl, _, rfl, r, m, a, F, ns, wd, v, es, rfl, hR1, hL1, hS, hns, hv, (by have := ho.2; omega), fun H2 k2 hl2 => ?_⟩
      have hbo := behF_ok (F := F) (ns := wd) (fun n hn => by obtain ⟨_, _, _, hd⟩ := hR1; exact fns_ok hd n (hns n hn)) hv
      exact kfin H2 _ true false _ _ _ rfl (.inl ⟨rfl, rfl, hbo⟩) (by show (behF F wd v).2.length ≤ 4; rw [behF_len]; have := ho.2; omega) k2 rfl hl2
    | first n b =>
      cases hd
      refine ⟨_, rfl, rfl, _, rfl, ?_⟩
      refine ifF (by show decide (V.str (Str.ofString "first") = V.str (Str.ofString "each")) = false; decide +kernel) ?_
      refine ⟨_, rfl, _, _, rfl, .inr (T.t_COUNTED H1), rfl, by decide +kernel, _, rfl, ?_⟩
      refine ifT hc ?_
      refine ⟨_, rfl, _, rfl, _, rfl, _, rfl, g, cG K, dx, _, _, rfl, hg1, T.cl_Gate, T.n_Gate_seen, rfl, .first n b, .int n, seen + 1, rfl, rfl, ho, rfl, _, rfl, rfl, _, rfl, ?_⟩
      refine ifT (by show decide (V.str (Str.ofString "first") = V.str (Str.ofString "first")) = true; decide +kernel) ?_
      refine ⟨_, rfl, g, cG K, dx, _, _, rfl, hg1, T.cl_Gate, T.n_Gate_seen, rfl, _, rfl, rfl, ?_⟩
      have e : decide (V.int ((seen + 1 : Nat) : Int) = V.int (n : Int)) = (seen + 1 == n) := by
        by_cases h : seen + 1 = n
        · rw [h, beq_self_eq_true]; exact decide_eq_true rfl
        · rw [beq_eq_false_iff_ne.mpr h]; exact decide_eq_false (fun z => by injection z with z; omega)
      refine pfin (counted (.first n b) (seen + 1)) _ (if seen + 1 ≤ n then some v else none) ?_ ?_
      · show ([], _, _, seen + 1 == n) = ([], _, _, decide (V.int ((seen + 1 : Nat) : Int) = V.int (n : Int)))
        rw [e]
      · by_cases h : seen + 1 ≤ n
        · exact .inl ⟨if_pos h, decide_eq_true h⟩
        · exact .inr ⟨if_neg h, decide_eq_false h⟩
    | skip n b =>
      cases hd
      refine ⟨_, rfl, rfl, _, rfl, ?_⟩
      refine ifF (by show decide (V.str (Str.ofString "skip") = V.str (Str.ofString "each")) = false; decide +kernel) ?_
      refine ⟨_, rfl, _, _, rfl, .inr (T.t_COUNTED H1), rfl, by decide +kernel, _, rfl, ?_⟩
      refine ifT hc ?_
      refine ⟨_, rfl, _, rfl, _, rfl, _, rfl, g, cG K, dx, _, _, rfl, hg1, T.cl_Gate, T.n_Gate_seen, rfl, .skip n b, .int n, seen + 1, rfl, rfl, ho, rfl, _, rfl, rfl, _, rfl, ?_⟩
      refine ifF (by show decide (V.str (Str.ofString "skip") = V.str (Str.ofString "first")) = false; decide +kernel) ?_
      refine pfin (counted (.skip n b) (seen + 1)) _ (if n < seen + 1 then some v else none) rfl ?_
      by_cases h : n < seen + 1
      · exact .inl ⟨if_pos h, decide_eq_true h⟩
      · exact .inr ⟨if_neg h, decide_eq_false h⟩
    | every k r' b =>
      obtain ⟨a, rfl, hS⟩ := hd
      refine ⟨_, rfl, rfl, _, rfl, ?_⟩
      refine ifF (by show decide (V.str (Str.ofString "every") = V.str (Str.ofString "each")) = false; decide +kernel) ?_
      refine ⟨_, rfl, _, _, rfl, .inr (T.t_COUNTED H1), rfl, by decide +kernel, _, rfl, ?_⟩
      refine ifT hc ?_
      refine ⟨_, rfl, _, rfl, _, rfl, _, rfl, g, cG K, dx, _, _, rfl, hg1, T.cl_Gate, T.n_Gate_seen, rfl, .every k r' b, .ref a, seen + 1, rfl, ⟨a, rfl, hS⟩, ho, rfl, _, rfl, rfl, _, rfl, ?_⟩
      refine ifF (by show decide (V.str (Str.ofString "every") = V.str (Str.ofString "first")) = false; decide +kernel) ?_
      refine pfin (counted (.every k r' b) (seen + 1)) _ (if r' < seen + 1 ∧ (seen + 1 - 1 - r') % k = 0 then some v else none) rfl ?_
      by_cases h : r' < seen + 1 ∧ (seen + 1 - 1 - r') % k = 0
      · exact .inl ⟨if_pos h, decide_eq_true h⟩
      · exact .inr ⟨if_neg h, decide_eq_false h⟩
    | ask kk t b =>
      obtain ⟨a, rfl, hS⟩ := hd
      have hk : decide (V.str (kindS (.ask kk t b)) = V.str (Str.ofString "each")) = false := by
        cases kk
        · exact (by decide +kernel : decide (V.str (Str.ofString "keep") = V.str (Str.ofString "each")) = false)
        · exact (by decide +kernel : decide (V.str (Str.ofString "drop") = V.str (Str.ofString "each")) = false)
        · exact (by decide +kernel : decide (V.str (Str.ofString "while") = V.str (Str.ofString "each")) = false)
        · exact (by decide +kernel : decide (V.str (Str.ofString "from") = V.str (Str.ofString "each")) = false)
      refine ⟨_, rfl, rfl, _, rfl, ?_⟩
      refine ifF hk ?_
      refine ⟨_, rfl, _, _, rfl, .inr (T.t_COUNTED H1), rfl, by decide +kernel, _, rfl, ?_⟩
      refine ifF hc ?_
      refine ⟨_, rfl, g, cG K, dx, _, _, rfl, hg1, T.cl_Gate, T.n_Gate_is_open, rfl, _, rfl, ?_⟩
      cases op with
      | true =>
        refine iteT ?_
        exact ⟨_, rfl, pfin true false (some v) rfl (.inl ⟨rfl, rfl⟩)⟩
      | false =>
        refine iteF ?_
        refine ⟨_, rfl, r, dxr, _, rfl, hr1, rfl, _, rfl, _, rfl, r, m, a, F, ns, t, v, es, rfl, hR1, hL1, hS, hns, hv, (by have := ho.2.2; omega), fun H2 k2 hl2 => ?_⟩
        have hlen : (behF F t v).2.length ≤ 4 := by rw [behF_len]; exact ho.2.2
        have kf := fun go ov rr (e1 : gstep (WF F) ⟨.ask kk t b, seen, false⟩ v = ((behF F t v).2, rr, ⟨.ask kk t b, seen + 1, false⟩, ov)) e2 => kfin H2 v go ov _ rr _ e1 e2 hlen k2 rfl hl2
        have hgs : ∀ X, gstep (WF F) ⟨.ask kk t b, seen, false⟩ v = X ↔ (match kk with
          | .frm => ((behF F t v).2, if truV (behF F t v).1 = true then none else some v, ⟨.ask kk t b, seen + 1, !truV (behF F t v).1⟩, false)
          | .keep => ((behF F t v).2, if truV (behF F t v).1 = true then some v else none, ⟨.ask kk t b, seen + 1, false⟩, false)
          | .drop => ((behF F t v).2, if truV (behF F t v).1 = true then none else some v, ⟨.ask kk t b, seen + 1, false⟩, false)
          | .whl => ((behF F t v).2, if truV (behF F t v).1 = true then some v else none, ⟨.ask kk t b, seen + 1, false⟩, !truV (behF F t v).1)) = X := fun X => by cases kk <;> exact Iff.rfl
        generalize truV (behF F t v).1 = B at hgs
        cases kk with
        | frm =>
          refine ⟨_, rfl, rfl, _, rfl, ?_⟩
          refine ifT (by show decide (V.str (Str.ofString "from") = V.str (Str.ofString "from")) = true; decide +kernel) ?_
          have hg2 := k2 g _ hg1 (.inl hgm)
          refine ⟨_, rfl, B, rfl, _, rfl, g, cG K, dx, _, rfl, hg2, T.cl_Gate, T.n_Gate_is_open, by show 3 < 1000; decide, ?_⟩
          refine ⟨_, rfl, _, rfl, B, rfl, ?_⟩
          have sl := kp_sml hm1 k2
          obtain ⟨ys2, b1, b2⟩ := hl2
          have gp : SmG K H2 (upd H2 g (.ins (cG K) dx (putF "is_open" (.bl (!B)) (gFs x (seen + 1) false)))) := SmG.put hg2
          refine fin _ v (!B) false _ (if B = true then none else some v) ⟨.ask .frm t b, seen + 1, !B⟩ ((hgs _).mpr rfl) ?_ hlen ((k2.mono fun b z => .inr z).trans (kp_set (.inl rfl) hg2 ns_ins)) ((SmG.of sl).trans gp) ⟨dx, x, _, upd_same, gp.stage ne1 (hx1.sml' sl)⟩ ⟨ys2, by rw [upd_ne (Ne.symm hgm)]; exact b1, gp.evs b2⟩
          cases B
          · exact .inl ⟨rfl, rfl, hv⟩
          · exact .inr ⟨rfl, rfl⟩
        | keep =>
          refine ⟨_, rfl, rfl, _, rfl, ?_⟩
          refine ifF (by show decide (V.str (Str.ofString "keep") = V.str (Str.ofString "from")) = false; decide +kernel) ?_
          refine ⟨_, rfl, _, rfl, _, rfl, rfl, rfl, _, rfl, rfl, _, rfl, ?_⟩
          refine ifF (by show decide (V.str (Str.ofString "keep") = V.str (Str.ofString "while")) = false; decide +kernel) ?_
          refine kf _ false (if B = true then some v else none) ((hgs _).mpr rfl) ?_
          cases B
          · exact .inr ⟨rfl, by show decide (V.bl false = V.bl (!decide (V.str (Str.ofString "keep") = V.str (Str.ofString "drop")))) = false; decide +kernel⟩
          · exact .inl ⟨rfl, by show decide (V.bl true = V.bl (!decide (V.str (Str.ofString "keep") = V.str (Str.ofString "drop")))) = true; decide +kernel, hv⟩
        | drop =>
          refine ⟨_, rfl, rfl, _, rfl, ?_⟩
          refine ifF (by show decide (V.str (Str.ofString "drop") = V.str (Str.ofString "from")) = false; decide +kernel) ?_
          refine ⟨_, rfl, _, rfl, _, rfl, rfl, rfl, _, rfl, rfl, _, rfl, ?_⟩
          refine ifF (by show decide (V.str (Str.ofString "drop") = V.str (Str.ofString "while")) = false; decide +kernel) ?_
          refine kf _ false (if B = true then none else some v) ((hgs _).mpr rfl) ?_
          cases B
          · exact .inl ⟨rfl, by show decide (V.bl false = V.bl (!decide (V.str (Str.ofString "drop") = V.str (Str.ofString "drop")))) = true; decide +kernel, hv⟩
          · exact .inr ⟨rfl, by show decide (V.bl true = V.bl (!decide (V.str (Str.ofString "drop") = V.str (Str.ofString "drop")))) = false; decide +kernel⟩
        | whl =>
          refine ⟨_, rfl, rfl, _, rfl, ?_⟩
          refine ifF (by show decide (V.str (Str.ofString "while") = V.str (Str.ofString "from")) = false; decide +kernel) ?_
          refine ⟨_, rfl, _, rfl, _, rfl, rfl, rfl, _, rfl, rfl, _, rfl, ?_⟩
          refine ifT (by show decide (V.str (Str.ofString "while") = V.str (Str.ofString "while")) = true; decide +kernel) ?_
          refine ⟨_, rfl, B, rfl, ?_⟩
          refine kf _ (!B) (if B = true then some v else none) ((hgs _).mpr rfl) ?_
          cases B
          · exact .inr ⟨rfl, by show decide (V.bl false = V.bl (!decide (V.str (Str.ofString "while") = V.str (Str.ofString "drop")))) = false; decide +kernel⟩
          · exact .inl ⟨rfl, by show decide (V.bl true = V.bl (!decide (V.str (Str.ofString "while") = V.str (Str.ofString "drop")))) = true; decide +kernel, hv⟩
end
end K

set_option Elab.async false
set_option linter.all false
set_option maxRecDepth 100000
set_option maxHeartbeats 4000000
/-! KF14: callflows.playing: played_part. -/
namespace K
open PySem PySem.Spec PyProof.Rows L2 He TL LamX
theorem GateV.sml {K : PySem.W.Frag} {H H' : Hp} {g : Addr} {gt : Gt Nm} (e : SmL H H') (h : GateV K H g gt) : GateV K H' g gt := by
  obtain ⟨dx, x, v, h1, h2⟩ := h
  exact ⟨dx, x, v, e _ _ h1 (fun _ z => by cases z), e.stage h2⟩
/-- gates stand in a row -/
structure GatesV (K : PySem.W.Frag) (H : Hp) (as : List Addr) (gts : List (Gt Nm)) : Prop where
  len : as.length = gts.length
  nd : as.Nodup
  at_ : ∀ (i : Nat) (a : Addr) (gt : Gt Nm), as[i]? = some a → gts[i]? = some gt → GateV K H a gt
theorem GatesV.sml {K : PySem.W.Frag} {H H' : Hp} {as : List Addr} {gts : List (Gt Nm)} (e : SmL H H') (h : GatesV K H as gts) : GatesV K H' as gts := ⟨h.len, h.nd, fun i a gt x y => (h.at_ i a gt x y).sml e⟩
theorem GatesV.snoc {K : PySem.W.Frag} {H : Hp} {as : List Addr} {gts : List (Gt Nm)} {a : Addr} {gt : Gt Nm} (h : GatesV K H as gts) (ha : a ∉ as) (hg : GateV K H a gt) : GatesV K H (as ++ [a]) (gts ++ [gt]) := by
  refine ⟨by simp [h.len], List.nodup_append.mpr ⟨h.nd, by simp, fun x hx y hy => fun z => ha (by rw [List.mem_singleton.mp hy] at z; rw [← z]; exact hx)⟩, fun i z r e1 e2 => ?_⟩
  have hl := h.len
  by_cases hi : i < as.length
  · rw [List.getElem?_append_left hi] at e1
    rw [List.getElem?_append_left (by omega)] at e2
    exact h.at_ i z r e1 e2
  · rw [List.getElem?_append_right (by omega)] at e1
    rw [List.getElem?_append_right (by omega), ← hl] at e2
    cases hj : i - as.length with
    | zero => rw [hj] at e1 e2; cases e1; cases e2; exact hg
    | succ k => rw [hj] at e1; simp at e1
/-- one gate moved on -/
theorem GatesV.step {K : PySem.W.Frag} {H H' : Hp} {as : List Addr} {dn rs : List (Gt Nm)} {g g' : Gt Nm} {a m : Addr} {ys : List V} (ne : cG K ≠ cS K) (h : GatesV K H as (dn ++ g :: rs)) (ha : as[dn.length]? = some a) (hm : H m = some (.lst ys))
    (k : Kp (fun b => b = a ∨ b = m) H H') (s : SmG K H H') (hg : GateV K H' a g') : GatesV K H' as (dn ++ g' :: rs) := by
  refine ⟨by rw [h.len]; simp, h.nd, fun i b gt e1 e2 => ?_⟩
  by_cases hi : i = dn.length
  · subst hi
    rw [ha] at e1
    cases e1
    rw [List.getElem?_append_right (Nat.le_refl _), Nat.sub_self] at e2
    cases e2
    exact hg
  · have e3 : (dn ++ g :: rs)[i]? = some gt := by
      by_cases hlt : i < dn.length
      · rw [List.getElem?_append_left hlt] at e2 ⊢
        exact e2
      · rw [List.getElem?_append_right (by omega)] at e2 ⊢
        cases hj : i - dn.length with
        | zero => omega
        | succ q => rw [hj] at e2; exact e2
    obtain ⟨dx, x, v, h1, h2⟩ := h.at_ i b gt e1 e3
    have nb : b ≠ a := fun z => by
      subst z
      have h5 : i < as.length := by
        rcases Nat.lt_or_ge i as.length with z | z
        · exact z
        · rw [List.getElem?_eq_none z] at e1; cases e1
      exact hi ((List.getElem?_inj h5 h.nd).mp (e1.trans ha.symm))
    have nm : b ≠ m := fun z => by rw [z, hm] at h1; cases h1
    exact ⟨dx, x, v, k b _ h1 (.inl fun z => z.elim nb nm), s.stage ne h2⟩
section
variable {N V' E' : Type} (W : Wd N V' E')
theorem stepL_none {g g' : Gt N} {gs : List (Gt N)} {v : V'} {l : List E'} {o : Bool} (h : gstep W g v = (l, none, g', o)) : stepL (gstep W) (g :: gs) v = (l, none, g' :: gs, o) := by
  show (match gstep W g v with | (l, none, g', o) => (l, none, g' :: gs, o) | (l, some v1, g', o) => _) = _
  rw [h]
theorem stepL_some {g g' : Gt N} {gs gs2 : List (Gt N)} {v v1 : V'} {l l2 : List E'} {o o2 : Bool} {r : Option V'} (h : gstep W g v = (l, some v1, g', o)) (h2 : stepL (gstep W) gs v1 = (l2, r, gs2, o2)) : stepL (gstep W) (g :: gs) v = (l ++ l2, r, g' :: gs2, o || o2) := by
  show (match gstep W g v with | (l, none, g', o) => (l, none, g' :: gs, o) | (l, some v1, g', o) => (match stepL (gstep W) gs v1 with | (l2, r, gs', o2) => (l ++ l2, r, g' :: gs', o || o2))) = _
  rw [h]
  show (match stepL (gstep W) gs v1 with | (l2, r, gs', o2) => (l ++ l2, r, g' :: gs', o || o2)) = _
  rw [h2]
/-- where the walk along the gates stands -/
def Mid (gts : List (Gt N)) (v : V') (dn rs : List (Gt N)) (now : V') (goes ov : Bool) (lg : List E') : Prop :=
  (goes = true ∧ ∀ l2 r2 gs2 o2, stepL (gstep W) rs now = (l2, r2, gs2, o2) → stepL (gstep W) gts v = (lg ++ l2, r2, dn ++ gs2, ov || o2)) ∨ (goes = false ∧ stepL (gstep W) gts v = (lg, none, dn ++ rs, ov))
theorem Mid.start (gts : List (Gt N)) (v : V') : Mid W gts v [] gts v true false [] := .inl ⟨rfl, fun l2 r2 gs2 o2 h => h⟩
theorem Mid.go {gts dn rs : List (Gt N)} {g g' : Gt N} {v now v1 : V'} {ov o : Bool} {lg l : List E'} {r : Option V'} (h : Mid W gts v dn (g :: rs) now true ov lg) (e : gstep W g now = (l, r, g', o)) {go : Bool} (hr : r = some v1 ∧ go = true ∨ r = none ∧ go = false) :
    Mid W gts v (dn ++ [g']) rs v1 go (ov || o) (lg ++ l) := by
  rcases h with ⟨_, h⟩ | ⟨z, _⟩
  · rcases hr with ⟨rfl, rfl⟩ | ⟨rfl, rfl⟩
    · refine .inl ⟨rfl, fun l2 r2 gs2 o2 e2 => ?_⟩
      rw [h _ _ _ _ (stepL_some W e e2)]
      simp [Bool.or_assoc]
    · refine .inr ⟨rfl, ?_⟩
      rw [h _ _ _ _ (stepL_none W e)]
      simp
  · cases z
theorem Mid.pass {gts dn rs : List (Gt N)} {g : Gt N} {v now : V'} {ov : Bool} {lg : List E'} (h : Mid W gts v dn (g :: rs) now false ov lg) : Mid W gts v (dn ++ [g]) rs now false ov lg := by
  rcases h with ⟨z, _⟩ | ⟨_, h⟩
  · cases z
  · exact .inr ⟨rfl, by rw [h]; simp⟩
theorem Mid.done {gts dn : List (Gt N)} {v now : V'} {goes ov : Bool} {lg : List E'} (h : Mid W gts v dn [] now goes ov lg) : stepL (gstep W) gts v = (lg, if goes = true then some now else none, dn, ov) := by
  rcases h with ⟨rfl, h⟩ | ⟨rfl, h⟩
  · rw [h [] (some now) [] false rfl]
    simp
  · rw [h]
    simp
end
theorem gstep_sg {F : Nm → Act} {g g' : Gt Nm} {v : V} {l : List Ev} {r : Option V} {o : Bool} (h : gstep (WF F) g v = (l, r, g', o)) : g'.sg = g.sg := by
  obtain ⟨sg, n, b⟩ := g
  unfold gstep at h
  cases sg with
  | ask k t c =>
    dsimp only at h
    split at h
    · cases h; rfl
    · cases k <;> (cases h; rfl)
  | _ => cases h; rfl
section
variable {P : Program} {w : World} {K : PySem.W.Frag} {mg : Str → Option Value} {base : Heap}
def PartOk (ns : List Nm) (part : List SgL) : Prop := ∀ sg ∈ part, GOk ns sg
def spPlayedPart (K : PySem.W.Frag) : Sp := fun vs H Q _ => ∃ (l vl r m : Addr) (ss : List V) (part : List SgL) (xs : List V) (F : Nm → Act) (ns : List Nm) (es : List Ev), vs = [.ref l, .ref vl, .ref r] ∧ SqL K H l ss ∧ Sts K H ss part ∧ PartOk ns part ∧ part.length ≤ 8 ∧
  H vl = some (.lst xs) ∧ (∀ x ∈ xs, VOk x) ∧ xs.length ≤ 100 ∧ RunV K H r m F ns ∧ LogV K H m es ∧ vl ≠ m ∧ es.length + 32 * xs.length ≤ 9000 ∧ cG K ≠ cS K ∧ cG K ≠ cR K ∧
  ∀ H' L, Kp (· = m) H H' → L ≠ m → H' L = some (.lst (pushD (WF F) (part.map Gt.new) xs).1) → (∀ x ∈ (pushD (WF F) (part.map Gt.new) xs).1, VOk x) → LogV K H' m (es ++ (pushD (WF F) (part.map Gt.new) xs).2) → (pushD (WF F) (part.map Gt.new) xs).2.length ≤ 32 * xs.length → (pushD (WF F) (part.map Gt.new) xs).1.length ≤ xs.length → Q (.ref L) H'
theorem ok_played_part (T : Tx K mg w) : Ok1 P w K mg base 5 "played_part" ["stages", "values", "caller"] (spPlayedPart K) := by
  have nd := sc_played_part.nd
  obtain ⟨fi, Fi, Gi⟩ := ok_gate_init (P := P) (base := base) T
  obtain ⟨fp, Fp, Gp⟩ := ok_passed (P := P) (base := base) T
  refine T.d_played_part.mk sc_played_part bn_played_part (fun vs H Q E h => ?_) (fun cdv A outer s H vs Q E hr h => ?_)
  · obtain ⟨l, vl, r, m, ss, part, xs, F, ns, es, rfl, _⟩ := h
    rfl
  · obtain ⟨l, vl, r, m, ss, part, xs, F, ns, es, rfl, hl, hS, hP, h8, hvl, hxs, hxl, hR, hL, nvm, hz, ne1, ne2, q⟩ := h
    refine ⟨_, pss_cons (ps_par (i := 3) (j := 4) (by rfl) nd rfl rfl (by decide) rfl rfl (pa_cons (pe_lc (own := [("stage", 11)]) (g := gName 11) (tt := tYes) rfl nd (pi_list (pv 0)) (blkOk_by (N := ["stages", "values", "caller", "gates", "left", "value", "now", "goes", "is_over", "gate", "ends", "stage"]) (sc := defScope s_played_part) (by decide +kernel))
          (fun _ _ _ _ _ => pg_name (i := 11) nd rfl (Or.inl rfl)) (fun _ _ _ _ _ => pts_nil) (fun _ _ _ _ _ => pe_make T.mk_Gate Gi (hr.mono (by decide)) rfl T.g_Gate (Fi.bindsN fun _ _ _ _ _ _ us hl => match us, hl with | [_, _], _ => rfl) .nil pass0 (pa_cons (pv 11) pa_nil))) (pa_cons (pe_lst pa_nil) pa_nil)) (by rfl))
      (pss_cons (ps_if (pt_val (pe_callB (cr_any rfl) (by rfl) T.z_any bt_any (pa_cons (pe_lc (own := [("stage", 11)]) (g := gName 11) (tt := tYes) rfl nd (pi_list (pv 0)) (blkOk_by (N := ["stages", "values", "caller", "gates", "left", "value", "now", "goes", "is_over", "gate", "ends", "stage"]) (sc := defScope s_played_part) (by decide +kernel))
          (fun _ _ _ _ _ => pg_name (i := 11) nd rfl (Or.inl rfl)) (fun _ _ _ _ _ => pts_nil) (fun _ _ _ _ _ => pe_and (pe_cmpR op_eq (pe_kind T (hr.mono (by decide)) (pv 11)) pe_str (nomark _)) (pe_one (pe_cmpR op_eq (pe_detail T (hr.mono (by decide)) (pv 11)) pe_int (nomark _))))) pa_nil)))
          (pss_one (ps_ret (pv 4))) pss_nil)
      (pss_cons (ps_for PassesOwn.never rfl (pi_list (pv 1)) (pg_name (i := 5) nd rfl (.inl rfl))
        (pss_cons (ps_par3 (i := 6) (j := 7) (l := 8) (by rfl) nd rfl rfl rfl (by decide) (by decide) (by decide) rfl rfl rfl (pa_cons (pv 5) (pa_cons pe_bl (pa_cons pe_bl pa_nil))) (by rfl))
        (pss_cons (ps_for PassesOwn.never rfl (pi_list (pv 3)) (pg_name (i := 9) nd rfl (.inl rfl))
          (pss_one (ps_if (pt_val (pv 7)) (pss_cons (ps_asg (pe_meth (pv 9) T.cl_Gate T.m_Gate_passed Gp hr (Fp.bindsN fun _ _ _ _ _ _ us hl => match us, hl with | [_, _, _], _ => rfl) .nil pass0 (pa_cons (pv 6) (pa_cons (pv 2) pa_nil))) (pg_tup (by rfl) (pgs_cons (pg_name (i := 6) nd rfl (.inl rfl)) (pgs_cons (pg_name (i := 7) nd rfl (.inl rfl)) (pgs_cons (pg_name (i := 10) nd rfl (.inl rfl)) pgs_nil)))))
            (pss_one (ps_set (i := 8) nd rfl (.inl rfl) (pe_or (pv 8) (pe_one (pv 10)))))) pss_nil)))
        (pss_cons (ps_if (pt_val (pv 7)) (pss_one (ps_expr (pe_bm PySem.F.plainAttrs_list PySem.F.slot_list_append PySem.F.type_list_append mt_append (pv 4) (pa_cons (pv 6) pa_nil)))) pss_nil)
        (pss_one (ps_if (pt_val (pv 8)) (pss_one ps_break) pss_nil))))))
      (pss_one (ps_ret (pv 4))))), ?_⟩
    have hx0 := hR
    obtain ⟨ys0, hm0, hys0⟩ := id hL
    have hSl := hS.1
    refine ⟨_, rfl, l, rfl, ⟨ss, hl⟩, fun G nG => ?_⟩
    -- the gates
    refine lc_it (walk_list (xs := ss)) (fun i H' => Same H H' ∧ ∃ as : List Addr, H' G = some (.lst (as.map V.ref)) ∧ GatesV K H' as ((part.take i).map Gt.new) ∧ ∀ a ∈ as, H a = none)
      ⟨same_new nG, [], upd_same, ⟨rfl, by simp, fun i a gt h => by simp at h⟩, fun a ha => by cases ha⟩ (fun i H' _ h => sql_same h.1 hl) (fun i y H1 H2 hi hp hy => ?_) (fun H1 hp => ?_)
    · obtain ⟨s1, as, hG, hgs, hna⟩ := hp
      obtain ⟨rfl, hy⟩ := hy
      have hlt : i < part.length := by omega
      have hsg : part[i]? = some part[i] := List.getElem?_eq_getElem hlt
      generalize part[i] = sg at hsg
      obtain ⟨z, v, rfl, hz⟩ := hS.2 i y sg hy hsg
      refine ⟨rfl, ?_⟩
      refine yes_if ?_
      refine ⟨_, rfl, fun g dx ng ndx nedx => ⟨g, dx, z, rfl, upd_same, rfl, ?_⟩⟩
      have hz1 := hz.same s1
      generalize hH3 : upd (upd (upd (upd (upd H2 dx (.own g)) g (.ins (cG K) dx [])) g (.ins (cG K) dx (putF "stage" (.ref z) []))) g (.ins (cG K) dx (putF "seen" (.int 0) (putF "stage" (.ref z) [])))) g (.ins (cG K) dx (gFs z 0 false)) = H3
      have hg3 : H3 g = some (.ins (cG K) dx (gFs z 0 false)) := by rw [← hH3]; exact upd_same
      have s3 : Same H2 H3 := fun b o e => by
        have nb := ne_of_none e ng
        rw [← hH3, upd_ne nb, upd_ne nb, upd_ne nb, upd_ne nb, upd_ne (ne_of_none e ndx)]
        exact e
      have hG3 := s3 _ _ hG
      have hlen := hgs.len
      rw [List.length_map, List.length_take] at hlen
      refine ⟨as.map V.ref, hG3, small1000 (by rw [List.length_map]; omega), fun b o e => ?_, as ++ [g], by rw [upd_same, List.map_append]; rfl, ?_⟩
      · rw [upd_ne (ne_of_none e nG)]
        exact s3 _ _ (s1 _ _ e)
      · have et : (part.take (i + 1)).map Gt.new = (part.take i).map Gt.new ++ [Gt.new sg] := by rw [List.take_add_one, hsg, List.map_append]; rfl
        rw [et]
        refine ⟨(hgs.sml ((SmL.of s3).trans (SmL.put hG3))).snoc (fun hin => ?_) ⟨dx, z, v, ?_, (SmL.put hG3).stage (hz1.same s3)⟩, fun a ha => ?_⟩
        · obtain ⟨j, hj, ej⟩ := List.getElem_of_mem hin
          have hj2 : j < ((part.take i).map Gt.new).length := by rw [← hgs.len]; exact hj
          obtain ⟨dx', x', v', h1, _⟩ := hgs.at_ j g _ (by rw [List.getElem?_eq_getElem hj, ej]) (List.getElem?_eq_getElem hj2)
          rw [ng] at h1
          cases h1
        · rw [upd_ne (fun z => by rw [z, hG3] at hg3; cases hg3)]
          exact hg3
        · rcases List.mem_append.mp ha with z | z
          · exact hna a z
          · rw [List.mem_singleton.mp z]
            cases e : H g with
            | none => rfl
            | some o => rw [s1 _ _ e] at ng; cases ng
    obtain ⟨s1, as, hG, hgs, hna⟩ := hp
    rw [List.take_of_length_le (by omega)] at hgs
    generalize hp0 : part.map Gt.new = p0 at hgs q
    refine ⟨by decide, fun L nL => ⟨_, _, rfl, ?_⟩⟩
    have sL := same_new (o := .lst []) nL
    have s1L := s1.trans sL
    -- is one dead?
    refine ⟨_, rfl, l, rfl, ⟨ss, sql_same s1L hl⟩, fun D nD => ?_⟩
    refine lc_pure (walk_list (xs := ss)) (part.map fun sg => V.bl (Gt.new sg).dead) (by rw [List.length_map]; omega) (small1000 (by omega)) nD (fun H2 s2 => sql_same (s1L.trans s2) hl) (fun i y H2 H3 R N hi s2 hy hR2 => ?_) (fun H2 s2 eD => ?_)
    · obtain ⟨rfl, hy⟩ := hy
      have hlt : i < part.length := by omega
      have hsg : part[i]? = some part[i] := List.getElem?_eq_getElem hlt
      generalize part[i] = sg at hsg
      obtain ⟨z, v, rfl, hz⟩ := hS.2 i y sg hy hsg
      have hz1 := hz.same (s1L.trans s2)
      have hRR : ∀ b, b = (Gt.new sg).dead → R (.bl b) H3 := fun b hb => hR2 _ _ (by rw [List.getElem?_map, hsg, hb]; rfl) (Same.refl _)
      refine ⟨rfl, ?_⟩
      refine yes_if ?_
      refine ⟨_, rfl, stGet hz1 ⟨rfl, _, rfl, ?_⟩⟩
      obtain ⟨_, _, _, _, hd⟩ := id hz1
      cases sg with
      | first n b =>
        refine ifT (by show decide (V.str (Str.ofString "first") = V.str (Str.ofString "first")) = true; decide +kernel) ?_
        cases hd
        refine ⟨_, rfl, stGet hz1 ⟨rfl, hRR _ ?_⟩⟩
        show decide (V.int (n : Int) = V.int 0) = (n == 0)
        by_cases h : n = 0
        · rw [h]; rfl
        · rw [beq_eq_false_iff_ne.mpr h]; exact decide_eq_false (fun z => by injection z with z; omega)
      | ask k t b => cases k <;> exact ifF (decide_eq_false (fun z => by injection z with z; exact absurd z (by show ¬ (Str.ofString _ = Str.ofString _); decide +kernel))) (hRR _ rfl)
      | each w b => exact ifF (by show decide (V.str (Str.ofString "each") = V.str (Str.ofString "first")) = false; decide +kernel) (hRR _ rfl)
      | skip n b => exact ifF (by show decide (V.str (Str.ofString "skip") = V.str (Str.ofString "first")) = false; decide +kernel) (hRR _ rfl)
      | every k r b => exact ifF (by show decide (V.str (Str.ofString "every") = V.str (Str.ofString "first")) = false; decide +kernel) (hRR _ rfl)
      | last n => exact ifF (by show decide (V.str (Str.ofString "last") = V.str (Str.ofString "first")) = false; decide +kernel) (hRR _ rfl)
      | but n => exact ifF (by show decide (V.str (Str.ofString "but last") = V.str (Str.ofString "first")) = false; decide +kernel) (hRR _ rfl)
      | turned => exact ifF (by show decide (V.str (Str.ofString "turned") = V.str (Str.ofString "first")) = false; decide +kernel) (hRR _ rfl)
    refine ⟨D, part.map fun sg => (Gt.new sg).dead, rfl, SqL.of (by rw [eD, List.map_map]; rfl), _, rfl, ?_⟩
    have s2H := s1L.trans s2
    have hL2 := s2 L (.lst []) upd_same
    have hG2 := s2 _ _ (sL _ _ hG)
    have hgs2 := hgs.sml (SmL.of (sL.trans s2))
    have hm2 := s2H _ _ hm0
    have hR2 := hR.sml (SmL.of s2H)
    have hys2 := hys0.sml (SmL.of s2H)
    have nLm : L ≠ m := fun z => by rw [z, s1 _ _ hm0] at nL; cases nL
    have nLG : L ≠ G := fun z => by rw [z, hG] at nL; cases nL
    have nGm : G ≠ m := fun z => by rw [z, hm0] at nG; cases nG
    have nLv : L ≠ vl := fun z => by rw [z, s1 _ _ hvl] at nL; cases nL
    have eany : (part.map fun sg => (Gt.new sg).dead).any id = p0.any Gt.dead := by rw [← hp0, List.any_map, List.any_map]; rfl
    rw [eany]
    cases hdd : p0.any Gt.dead with
    | true =>
      refine iteT ?_
      have epd : pushD (WF F) p0 xs = ([], []) := by unfold pushD; rw [if_pos hdd]
      rw [epd] at q
      exact ⟨_, rfl, q H2 L (Same.kp s2H) nLm hL2 (fun x hx => by cases hx) (by rw [List.append_nil]; exact ⟨ys0, hm2, hys2⟩) (Nat.zero_le _) (Nat.zero_le _)⟩
    | false =>
      refine iteF ?_
      have epd : pushD (WF F) p0 xs = push (stepL (gstep (WF F))) p0 xs := by unfold pushD; rw [if_neg (by rw [hdd]; exact Bool.false_ne_true)]
      rw [epd] at q
      have gok : ∀ gt ∈ p0, GOk ns gt.sg := fun gt hgt => by
        rw [← hp0] at hgt
        obtain ⟨sg, hsg, rfl⟩ := List.mem_map.mp hgt
        exact hP sg hsg
      have nas : as.length ≤ 8 := by rw [hgs.len, ← hp0, List.length_map]; exact h8
      have hgen := hgs.len
      refine ⟨_, rfl, vl, rfl, ⟨xs, SqL.of (s2H _ _ hvl)⟩, ?_⟩
      refine for_list (xs := xs) (fun i σ H' => Kp (· = m) H H' ∧ SmG K H2 H' ∧ H' vl = some (.lst xs) ∧ H' G = some (.lst (as.map V.ref)) ∧ ∃ (out : List V) (gts : List (Gt Nm)) (lg : List Ev) (o5 o6 o7 o8 o9 o10 : Option V), σ = [some (.ref l), some (.ref vl), some (.ref r), some (.ref G), some (.ref L), o5, o6, o7, o8, o9, o10, none] ∧
          H' L = some (.lst out) ∧ (∀ x ∈ out, VOk x) ∧ GatesV K H' as gts ∧ (∀ gt ∈ gts, GOk ns gt.sg) ∧ LogV K H' m (es ++ lg) ∧ lg.length ≤ 32 * i ∧ out.length ≤ i ∧
          push (stepL (gstep (WF F))) p0 xs = (out ++ (push (stepL (gstep (WF F))) gts (xs.drop i)).1, lg ++ (push (stepL (gstep (WF F))) gts (xs.drop i)).2))
        ⟨Same.kp s2H, SmG.refl _, s2H _ _ hvl, hG2, [], p0, [], none, none, none, none, none, none, rfl, hL2, (fun x hx => by cases hx), hgs2, gok, by rw [List.append_nil]; exact ⟨ys0, hm2, hys2⟩, Nat.le_refl _, Nat.le_refl _, rfl⟩
        (fun i σ H' _ h => SqL.of h.2.2.1) (fun i v σ H3 hv hp => ?_) (fun σ H3 hp => ?_)
      · obtain ⟨k3, g3, hv3, hG3, out, gts, lg, o5, o6, o7, o8, o9, o10, rfl, hL3, hout, hgs3, gok3, hl3, hlg, hol, hpu⟩ := hp
        have hlt : i < xs.length := by
          rcases Nat.lt_or_ge i xs.length with z | z
          · exact z
          · rw [List.getElem?_eq_none z] at hv; cases hv
        have hvo : VOk v := hxs v (List.mem_of_getElem? hv)
        have edrop : xs.drop i = v :: xs.drop (i + 1) := by
          rw [List.drop_eq_getElem_cons hlt]
          rw [List.getElem?_eq_getElem hlt] at hv
          rw [Option.some.inj hv]
        refine ⟨_, rfl, _, _, _, rfl, ?_⟩
        refine ⟨_, rfl, G, rfl, ⟨_, SqL.of hG3⟩, ?_⟩
        refine for_list (xs := as.map V.ref) (fun j σ H' => Kp (· = m) H H' ∧ SmG K H2 H' ∧ H' vl = some (.lst xs) ∧ H' G = some (.lst (as.map V.ref)) ∧ H' L = some (.lst out) ∧ ∃ (dn : List (Gt Nm)) (now : V) (goes ov : Bool) (lgi : List Ev) (o9 o10 : Option V), σ = [some (.ref l), some (.ref vl), some (.ref r), some (.ref G), some (.ref L), some v, some now, some (.bl goes), some (.bl ov), o9, o10, none] ∧
            GatesV K H' as (dn ++ gts.drop j) ∧ dn.length = j ∧ (∀ gt ∈ dn, GOk ns gt.sg) ∧ LogV K H' m ((es ++ lg) ++ lgi) ∧ lgi.length ≤ 4 * j ∧ (goes = true → VOk now) ∧ Mid (WF F) gts v dn (gts.drop j) now goes ov lgi)
          ⟨k3, g3, hv3, hG3, hL3, [], v, true, false, [], o9, o10, rfl, hgs3, rfl, (fun x hx => by cases hx), by rw [List.append_nil]; exact hl3, Nat.zero_le _, fun _ => hvo, Mid.start _ _ _⟩
          (fun j σ H' _ h => SqL.of h.2.2.2.1) (fun j y σ H4 hy hp => ?_) (fun σ H4 hp => ?_)
        · obtain ⟨k4, g4, hv4, hG4, hL4, dn, now, goes, ov, lgi, o9, o10, rfl, hgs4, hdn, gokd, hl4, hli, hno, hmid⟩ := hp
          have hja : j < as.length := by
            rcases Nat.lt_or_ge j as.length with z | z
            · exact z
            · rw [List.getElem?_eq_none (by rw [List.length_map]; exact z)] at hy; cases hy
          have haj : as[j]? = some as[j] := List.getElem?_eq_getElem hja
          generalize as[j] = a at haj
          rw [List.getElem?_map, haj] at hy
          cases hy
          have hjg : j < gts.length := by rw [← hgs3.len]; exact hja
          have egd : gts.drop j = gts[j] :: gts.drop (j + 1) := List.drop_eq_getElem_cons hjg
          have hgm : gts[j] ∈ gts := List.getElem_mem hjg
          generalize gts[j] = gt at egd hgm
          rw [egd] at hgs4 hmid
          have hga := hgs4.at_ j a gt haj (by rw [List.getElem?_append_right (by omega), hdn, Nat.sub_self]; rfl)
          have hga0 := hga
          obtain ⟨dxa, xa, va, ha1, _⟩ := hga
          refine ⟨_, rfl, goes, rfl, ?_⟩
          have hdn2 : (dn ++ [gt]).length = j + 1 := by rw [List.length_append, hdn]; rfl
          cases goes with
          | false =>
            refine iteF ?_
            refine ⟨k4, g4, hv4, hG4, hL4, dn ++ [gt], now, false, ov, lgi, _, _, rfl, ?_, hdn2, fun g hg => ?_, hl4, by omega, (fun z => by cases z), hmid.pass⟩
            · rw [List.append_assoc]; exact hgs4
            · rcases List.mem_append.mp hg with z | z
              · exact gokd g z
              · rw [List.mem_singleton.mp z]; exact gok3 gt hgm
          | true =>
            refine iteT ?_
            have hR4 := g4.run ne2 hR2
            obtain ⟨ys4, hm4, hys4⟩ := id hl4
            refine ⟨_, rfl, a, dxa, _, rfl, ha1, rfl, _, rfl, _, rfl, a, r, m, gt, F, ns, now, (es ++ lg) ++ lgi, rfl, hga0, gok3 gt hgm, hR4, hl4, hno rfl, by simp only [List.length_append]; omega, ne1, ne2, fun H5 p v' go o l2 rr gt' e1 e2 e3 k5 s5 hT hg5 hl5 => ?_⟩
            refine ⟨p, _, rfl, hT, rfl, _, _, rfl, _, _, rfl, _, _, rfl, rfl, ?_⟩
            have nea : ∀ b xs', H4 b = some (.lst xs') → b ≠ m → H5 b = some (.lst xs') := fun b xs' e nb => k5 b _ e (.inl fun z => z.elim (fun z => by rw [z, ha1] at e; cases e) nb)
            have kH : Kp (· = m) H H5 := fun b o e n => by
              refine k5 b o (k4 b o e n) ?_
              rcases n with n | n
              · exact .inl fun z => z.elim (fun z => by rw [z, hna a (List.mem_of_getElem? haj)] at e; cases e) n
              · exact .inr n
            have hgs5 : GatesV K H5 as ((dn ++ [gt']) ++ gts.drop (j + 1)) := by
              rw [List.append_assoc]
              exact GatesV.step ne1 hgs4 (by rw [hdn]; exact haj) hm4 k5 s5 hg5
            have gok5 : ∀ g ∈ dn ++ [gt'], GOk ns g.sg := fun g hg => by
              rcases List.mem_append.mp hg with z | z
              · exact gokd g z
              · rw [List.mem_singleton.mp z, gstep_sg e1]; exact gok3 gt hgm
            have res : ∀ ov2, ov2 = (ov || o) → Kp (· = m) H H5 ∧ SmG K H2 H5 ∧ H5 vl = some (.lst xs) ∧ H5 G = some (.lst (as.map V.ref)) ∧ H5 L = some (.lst out) ∧ ∃ (dn : List (Gt Nm)) (now : V) (goes ov : Bool) (lgi : List Ev) (o9 o10 : Option V), [some (.ref l), some (.ref vl), some (.ref r), some (.ref G), some (.ref L), some v, some v', some (.bl go), some (.bl ov2), some (V.ref a), some (V.bl o), none] = [some (.ref l), some (.ref vl), some (.ref r), some (.ref G), some (.ref L), some v, some now, some (.bl goes), some (.bl ov), o9, o10, none] ∧
                GatesV K H5 as (dn ++ gts.drop (j + 1)) ∧ dn.length = j + 1 ∧ (∀ gt ∈ dn, GOk ns gt.sg) ∧ LogV K H5 m ((es ++ lg) ++ lgi) ∧ lgi.length ≤ 4 * (j + 1) ∧ (goes = true → VOk now) ∧ Mid (WF F) gts v dn (gts.drop (j + 1)) now goes ov lgi := fun ov2 hov => by
              subst hov
              refine ⟨kH, g4.trans s5, nea _ _ hv4 nvm, nea _ _ hG4 nGm, nea _ _ hL4 nLm, dn ++ [gt'], v', go, _, lgi ++ l2, _, _, rfl, hgs5, by rw [List.length_append, hdn]; rfl, gok5, by rw [← List.append_assoc]; exact hl5, by rw [List.length_append]; omega, fun z => ?_, hmid.go _ e1 (e2.imp (fun z => ⟨z.1, z.2.1⟩) id)⟩
              rcases e2 with ⟨_, _, e⟩ | ⟨_, e⟩
              · exact e
              · rw [e] at z; cases z
            refine ⟨_, rfl, ov, rfl, ?_⟩
            cases ov with
            | true => exact iteT (res true rfl)
            | false => exact iteF ⟨_, rfl, res o rfl⟩
        · obtain ⟨k4, g4, hv4, hG4, hL4, dn, now, goes, ov, lgi, o9, o10, rfl, hgs4, hdn, gokd, hl4, hli, hno, hmid⟩ := hp
          rw [List.length_map] at hdn hli hmid hgs4
          rw [List.drop_of_length_le (by rw [← hgs3.len]; exact Nat.le_refl _)] at hmid hgs4
          rw [List.append_nil] at hgs4
          have hst := hmid.done
          have hl4' : LogV K H4 m (es ++ (lg ++ lgi)) := by rw [← List.append_assoc]; exact hl4
          have hpc := push_cons (rest := xs.drop (i + 1)) hst
          rw [← edrop] at hpc
          -- behind «if goes»
          have rest : ∀ (H5 : Hp) (out' : List V), Kp (· = m) H H5 → SmG K H2 H5 → H5 vl = some (.lst xs) → H5 G = some (.lst (as.map V.ref)) → H5 L = some (.lst out') → (∀ x ∈ out', VOk x) → GatesV K H5 as dn → LogV K H5 m (es ++ (lg ++ lgi)) → out' = out ++ (if goes = true then some now else none).toList →
              (ov = true → Q (.ref L) H5) ∧ (ov = false → Kp (· = m) H H5 ∧ SmG K H2 H5 ∧ H5 vl = some (.lst xs) ∧ H5 G = some (.lst (as.map V.ref)) ∧ ∃ (out : List V) (gts : List (Gt Nm)) (lg : List Ev) (p5 p6 p7 p8 p9 p10 : Option V), [some (V.ref l), some (.ref vl), some (.ref r), some (.ref G), some (.ref L), some v, some now, some (.bl goes), some (.bl ov), o9, o10, none] = [some (.ref l), some (.ref vl), some (.ref r), some (.ref G), some (.ref L), p5, p6, p7, p8, p9, p10, none] ∧
                H5 L = some (.lst out) ∧ (∀ x ∈ out, VOk x) ∧ GatesV K H5 as gts ∧ (∀ gt ∈ gts, GOk ns gt.sg) ∧ LogV K H5 m (es ++ lg) ∧ lg.length ≤ 32 * (i + 1) ∧ out.length ≤ i + 1 ∧
                push (stepL (gstep (WF F))) p0 xs = (out ++ (push (stepL (gstep (WF F))) gts (xs.drop (i + 1))).1, lg ++ (push (stepL (gstep (WF F))) gts (xs.drop (i + 1))).2)) := fun H5 out' k5 g5 hv5 hG5 hL5 ho5 hgs5 hl5 eo => by
            have hol' : out'.length ≤ i + 1 := by
              rw [eo, List.length_append]
              split
              · simp; omega
              · simp; omega
            refine ⟨fun hov => ?_, fun hov => ⟨k5, g5, hv5, hG5, out', dn, lg ++ lgi, _, _, _, _, _, _, rfl, hL5, ho5, hgs5, gokd, hl5, by rw [List.length_append]; omega, hol', ?_⟩⟩
            · rw [if_pos hov] at hpc
              rw [hpc] at hpu
              rw [hpu, ← eo] at q
              exact q H5 L k5 nLm hL5 ho5 hl5 (by show (lg ++ lgi).length ≤ 32 * xs.length; rw [List.length_append]; omega) (by show out'.length ≤ xs.length; omega)
            · rw [if_neg (by rw [hov]; exact Bool.false_ne_true)] at hpc
              rw [hpu, hpc, eo, List.append_assoc, List.append_assoc]
          refine ⟨_, rfl, goes, rfl, ?_⟩
          cases goes with
          | true =>
            refine iteT ?_
            refine ⟨_, rfl, .inl ⟨rfl, out, SqL.of hL4⟩, _, rfl, L, out, now, rfl, rfl, hL4, small1000 (by omega), ?_⟩
            have sl : SmL H4 (upd H4 L (.lst (out ++ [now]))) := SmL.put hL4
            obtain ⟨ys4, hm4, hys4⟩ := id hl4'
            have hk5 : Kp (· = m) H (upd H4 L (.lst (out ++ [now]))) := fun b o e n => by
              have nb : b ≠ L := fun z => by
                rw [z] at e
                exact absurd (s1 _ _ e) (by rw [nL]; simp)
              rw [upd_ne nb]
              exact k4 b o e n
            have ho5 : ∀ x ∈ out ++ [now], VOk x := fun x hx => by
              rcases List.mem_append.mp hx with z | z
              · exact hout x z
              · rw [List.mem_singleton.mp z]; exact hno rfl
            obtain ⟨r1, r2⟩ := rest (upd H4 L (.lst (out ++ [now]))) (out ++ [now]) hk5 (g4.trans (SmG.of sl)) (by rw [upd_ne (Ne.symm nLv)]; exact hv4) (by rw [upd_ne (Ne.symm nLG)]; exact hG4) upd_same ho5 (hgs4.sml sl) ⟨ys4, by rw [upd_ne (Ne.symm nLm)]; exact hm4, hys4.sml sl⟩ rfl
            refine ⟨_, rfl, ov, rfl, ?_⟩
            cases ov with
            | true => exact iteT ⟨_, rfl, r1 rfl⟩
            | false => exact iteF (r2 rfl)
          | false =>
            refine iteF ?_
            obtain ⟨r1, r2⟩ := rest H4 out k4 g4 hv4 hG4 hL4 hout hgs4 hl4' (by simp)
            refine ⟨_, rfl, ov, rfl, ?_⟩
            cases ov with
            | true => exact iteT ⟨_, rfl, r1 rfl⟩
            | false => exact iteF (r2 rfl)
      · obtain ⟨k3, g3, hv3, hG3, out, gts, lg, o5, o6, o7, o8, o9, o10, rfl, hL3, hout, hgs3, gok3, hl3, hlg, hol, hpu⟩ := hp
        rw [List.drop_length] at hpu
        have hpu' : push (stepL (gstep (WF F))) p0 xs = (out, lg) := by rw [hpu]; show (out ++ [], lg ++ []) = _; rw [List.append_nil, List.append_nil]
        rw [hpu'] at q
        exact ⟨_, rfl, q H3 L k3 nLm hL3 hout hl3 hlg hol⟩
end
end K

set_option Elab.async false
set_option linter.all false
set_option maxRecDepth 100000
set_option maxHeartbeats 4000000
/-! K3Math: parts, one by one. -/
namespace K
section
variable {V' E' : Type} (W : Wd Nm V' E')
def goP : List SgL → List SgL → List (List SgL)
  | [], p => [p]
  | sg :: r, p => if sg.isList = true then p :: [sg] :: goP r [] else if sg.now = true then (p ++ [sg]) :: goP r [] else goP r (p ++ [sg])
theorem raw_go : ∀ (sgs : List SgL) (f : List (List SgL)) (p : List SgL), (sgs.foldl stp (f, p)).1 ++ [(sgs.foldl stp (f, p)).2] = f ++ goP sgs p
  | [], f, p => rfl
  | sg :: r, f, p => by
    rw [List.foldl_cons]
    unfold goP
    by_cases h : sg.isList = true
    · rw [if_pos h, show stp (f, p) sg = (f ++ [p, [sg]], []) by unfold stp; rw [if_pos h], raw_go r]
      simp
    · by_cases h2 : sg.now = true
      · rw [if_neg h, if_pos h2, show stp (f, p) sg = (f ++ [p ++ [sg]], []) by unfold stp; rw [if_neg h, if_pos h2], raw_go r]
        simp
      · rw [if_neg h, if_neg h2, show stp (f, p) sg = (f, p ++ [sg]) by unfold stp; rw [if_neg h, if_neg h2], raw_go r]
theorem parts_go (sgs : List SgL) : parts sgs = (goP sgs []).filter fun p => decide (0 < p.length) := by
  unfold parts rawP
  rw [raw_go]
  rfl
def playP (p : List SgL) (xs : List V') : List V' × List E' := match p with
  | [] => (xs, [])
  | sg :: _ => if sg.isList = true then (sg.cut xs, []) else pushD W (p.map Gt.new) xs
def playPs : List (List SgL) → List V' → List V' × List E'
  | [], xs => (xs, [])
  | p :: r, xs => ((playPs r (playP W p xs).1).1, (playP W p xs).2 ++ (playPs r (playP W p xs).1).2)
theorem playPs_filter : ∀ (ps : List (List SgL)) (xs : List V'), playPs W (ps.filter fun p => decide (0 < p.length)) xs = playPs W ps xs
  | [], xs => rfl
  | [] :: r, xs => by
    rw [List.filter_cons]
    show playPs W (r.filter _) xs = ((playPs W r xs).1, [] ++ (playPs W r xs).2)
    rw [playPs_filter r]
    rfl
  | (sg :: p) :: r, xs => by
    rw [List.filter_cons, if_pos (by simp)]
    show (_, _) = (_, _)
    rw [playPs_filter r]
theorem playP_push {p : List SgL} (h : ∀ sg ∈ p, sg.isList = false) (xs : List V') : playP W p xs = pushD W (p.map Gt.new) xs := by
  cases p with
  | nil => show (xs, []) = pushD W [] xs; rw [pushD_nil]
  | cons sg p =>
    show (if sg.isList = true then _ else _) = _
    rw [if_neg (by rw [h sg List.mem_cons_self]; exact Bool.false_ne_true)]
theorem play_ps : ∀ (sgs p : List SgL) (xs : List V'), (∀ sg ∈ p, sg.isList = false) → playPs W (goP sgs p) xs = ps W sgs (p.map Gt.new) xs
  | [], p, xs, h => by
    show ((playP W p xs).1, (playP W p xs).2 ++ []) = pushD W (p.map Gt.new) xs
    rw [playP_push W h, List.append_nil]
  | sg :: r, p, xs, h => by
    unfold goP ps
    by_cases hl : sg.isList = true
    · rw [if_pos hl, if_pos hl]
      show ((playPs W (goP r []) (playP W [sg] (playP W p xs).1).1).1, (playP W p xs).2 ++ ((playP W [sg] (playP W p xs).1).2 ++ (playPs W (goP r []) (playP W [sg] (playP W p xs).1).1).2)) = _
      have e : ∀ ys : List V', playP W [sg] ys = (sg.cut ys, []) := fun ys => by
        show (if sg.isList = true then _ else _) = _
        rw [if_pos hl]
      rw [e, playP_push W h, play_ps r [] _ (fun _ h => by cases h)]
      rfl
    · have hf : sg.isList = false := by cases hh : sg.isList with
        | true => exact absurd hh hl
        | false => rfl
      have hp : ∀ s ∈ p ++ [sg], s.isList = false := fun s hs => by
        rcases List.mem_append.mp hs with z | z
        · exact h s z
        · rw [List.mem_singleton.mp z]; exact hf
      have em : (p ++ [sg]).map Gt.new = p.map Gt.new ++ [Gt.new sg] := by rw [List.map_append]; rfl
      by_cases hn : sg.now = true
      · rw [if_neg hl, if_pos hn, if_neg hl, if_pos hn]
        show ((playPs W (goP r []) (playP W (p ++ [sg]) xs).1).1, (playP W (p ++ [sg]) xs).2 ++ (playPs W (goP r []) (playP W (p ++ [sg]) xs).1).2) = _
        rw [playP_push W hp, play_ps r [] _ (fun _ h => by cases h), em]
        rfl
      · rw [if_neg hl, if_neg hn, if_neg hl, if_neg hn, play_ps r (p ++ [sg]) xs hp, em]
theorem play_parts (sgs : List SgL) (xs : List V') : playPs W (parts sgs) xs = ps W sgs [] xs := by
  rw [parts_go, playPs_filter, play_ps W sgs [] xs (fun _ h => by cases h)]
  rfl
end
theorem goP_mem : ∀ (sgs q p : List SgL), p ∈ goP sgs q → (∀ sg ∈ q, sg.isList = false) → ((∃ sg, p = [sg] ∧ sg.isList = true ∧ sg ∈ sgs) ∨ ∀ sg ∈ p, sg.isList = false ∧ (sg ∈ sgs ∨ sg ∈ q)) ∧ p.length ≤ q.length + sgs.length
  | [], q, p, h, hq => by
    rw [List.mem_singleton.mp h]
    exact ⟨.inr fun sg hs => ⟨hq sg hs, .inr hs⟩, Nat.le_refl _⟩
  | s :: r, q, p, h, hq => by
    unfold goP at h
    have up : ((∃ sg, p = [sg] ∧ sg.isList = true ∧ sg ∈ r) ∨ ∀ sg ∈ p, sg.isList = false ∧ (sg ∈ r ∨ sg ∈ ([] : List SgL))) ∧ p.length ≤ 0 + r.length → ((∃ sg, p = [sg] ∧ sg.isList = true ∧ sg ∈ s :: r) ∨ ∀ sg ∈ p, sg.isList = false ∧ (sg ∈ s :: r ∨ sg ∈ q)) ∧ p.length ≤ q.length + (s :: r).length := fun ⟨z, l⟩ => by
      refine ⟨?_, by rw [List.length_cons]; omega⟩
      rcases z with ⟨sg, a, b, c⟩ | z
      · exact .inl ⟨sg, a, b, List.mem_cons_of_mem _ c⟩
      · refine .inr fun sg hs => ⟨(z sg hs).1, .inl ?_⟩
        rcases (z sg hs).2 with y | y
        · exact List.mem_cons_of_mem _ y
        · cases y
    by_cases hl : s.isList = true
    · rw [if_pos hl] at h
      rcases List.mem_cons.mp h with e | h
      · rw [e]
        exact ⟨.inr fun sg hs => ⟨hq sg hs, .inr hs⟩, by omega⟩
      · rcases List.mem_cons.mp h with e | h
        · rw [e]
          exact ⟨.inl ⟨s, rfl, hl, List.mem_cons_self⟩, by simp; omega⟩
        · exact up (goP_mem r [] p h (fun _ h => by cases h))
    · have hf : s.isList = false := by cases hh : s.isList with
        | true => exact absurd hh hl
        | false => rfl
      have hq2 : ∀ x ∈ q ++ [s], x.isList = false := fun x hx => by
        rcases List.mem_append.mp hx with z | z
        · exact hq x z
        · rw [List.mem_singleton.mp z]; exact hf
      rw [if_neg hl] at h
      by_cases hn : s.now = true
      · rw [if_pos hn] at h
        rcases List.mem_cons.mp h with e | h
        · rw [e]
          refine ⟨.inr fun sg hs => ⟨hq2 sg hs, ?_⟩, by simp <;> omega⟩
          rcases List.mem_append.mp hs with z | z
          · exact .inr z
          · rw [List.mem_singleton.mp z]; exact .inl List.mem_cons_self
        · exact up (goP_mem r [] p h (fun _ h => by cases h))
      · rw [if_neg hn] at h
        obtain ⟨z, l⟩ := goP_mem r (q ++ [s]) p h hq2
        refine ⟨?_, by rw [List.length_append] at l; simp at l ⊢; omega⟩
        rcases z with ⟨sg, a, b, c⟩ | z
        · exact .inl ⟨sg, a, b, List.mem_cons_of_mem _ c⟩
        · refine .inr fun sg hs => ⟨(z sg hs).1, ?_⟩
          rcases (z sg hs).2 with y | y
          · exact .inl (List.mem_cons_of_mem _ y)
          · rcases List.mem_append.mp y with y | y
            · exact .inr y
            · rw [List.mem_singleton.mp y]; exact .inl List.mem_cons_self
theorem goP_len : ∀ (sgs q : List SgL), (goP sgs q).length ≤ 2 * sgs.length + 1
  | [], q => Nat.le_refl _
  | s :: r, q => by
    unfold goP
    have h1 := goP_len r []
    have h2 := goP_len r (q ++ [s])
    split
    · simp; omega
    · split
      · simp; omega
      · simp; omega
end K

set_option Elab.async false
set_option linter.all false
set_option maxRecDepth 100000
set_option maxHeartbeats 4000000
/-! KF15: callflows.playing: played; callflows.running: names_of, run. -/
namespace K
open PySem PySem.Spec PyProof.Rows L2 He TL LamX
/-- the stages are well formed, their names known -/
def AllOk (ns : List Nm) (sgs : List SgL) : Prop := ∀ sg ∈ sgs, SgOk sg ∧ (match sg with | .each w _ => ∀ n ∈ w, n ∈ ns | .ask _ t _ => ∀ n ∈ t, n ∈ ns | _ => True)
theorem cut_len {sg : SgL} (xs : List V) : (sg.cut xs).length ≤ xs.length := by
  cases sg with
  | last n => show (xs.drop _).length ≤ _; rw [List.length_drop]; omega
  | but n => show (xs.take _).length ≤ _; rw [List.length_take]; omega
  | turned => show xs.reverse.length ≤ _; rw [List.length_reverse]; exact Nat.le_refl _
  | _ => exact Nat.le_refl _
theorem cut_mem {sg : SgL} {xs : List V} {x : V} (h : x ∈ sg.cut xs) : x ∈ xs := by
  cases sg with
  | last n => exact List.mem_of_mem_drop h
  | but n => exact List.mem_of_mem_take h
  | turned => exact List.mem_reverse.mp h
  | _ => exact h
section
variable {P : Program} {w : World} {K : PySem.W.Frag} {mg : Str → Option Value} {base : Heap}
def spPlayed (K : PySem.W.Frag) : Sp := fun vs H Q _ => ∃ (f a r m : Addr) (sgs : List SgL) (xs : List V) (F : Nm → Act) (ns : List Nm), vs = [.ref f, .ref a, .ref r] ∧ FlowV K H f sgs ∧ sgs.length ≤ 8 ∧ AllOk ns sgs ∧ SqT K H a xs ∧ (∀ x ∈ xs, VOk x) ∧ xs.length ≤ 14 ∧
  RunV K H r m F ns ∧ LogV K H m [] ∧ cG K ≠ cS K ∧ cG K ≠ cR K ∧
  ∀ H' L, Kp (· = m) H H' → H' L = some (.lst (ps (WF F) sgs [] xs).1) → (∀ x ∈ (ps (WF F) sgs [] xs).1, VOk x) → (ps (WF F) sgs [] xs).1.length ≤ 14 → LogV K H' m (ps (WF F) sgs [] xs).2 → (ps (WF F) sgs [] xs).2.length ≤ 9000 → Q (.ref L) H'
theorem ok_played (T : Tx K mg w) : Ok1 P w K mg base 6 "played" ["flow", "values", "caller"] (spPlayed K) := by
  have nd := sc_played.nd
  refine T.d_played.mk sc_played bn_played (fun vs H Q E h => ?_) (fun cdv A outer s H vs Q E hr h => ?_)
  · obtain ⟨f, a, r, m, sgs, xs, F, ns, rfl, _⟩ := h
    rfl
  · obtain ⟨f, a, r, m, sgs, xs, F, ns, rfl, hf, h8, hok, ha, hxs, hxl, hR, hL, ne1, ne2, q⟩ := h
    refine ⟨_, pss_cons (ps_set (i := 3) nd rfl (.inl rfl) (pe_callTy call_list_of (by rfl) T.z_list bt_list (pa_cons (pv 1) pa_nil)))
      (pss_cons (ps_for PassesOwn.never rfl (pi_list (pe_g (ok_parts_of T) (hr.mono (by decide)) (pa_cons (pv 0) pa_nil))) (pg_name (i := 4) nd rfl (.inl rfl))
        (pss_one (ps_set (i := 3) nd rfl (.inl rfl) (pe_ifExp (pt_cmpR op_in_seq (pe_kind T (hr.mono (by decide)) (pe_ix ix_list (pv 4) pe_int (fun _ _ => rfl))) (pe_glob (v := .ref _) (by rfl) T.g_LIST_KINDS rfl) (by rfl))
          (pe_g (ok_left_of T) (hr.mono (by decide)) (pa_cons (pe_ix ix_list (pv 4) pe_int (fun _ _ => rfl)) (pa_cons (pv 3) pa_nil))) (pe_g (ok_played_part T) hr (pa_cons (pv 4) (pa_cons (pv 3) (pa_cons (pv 2) pa_nil))))))))
      (pss_one (ps_ret (pv 3)))), ?_⟩
    refine ⟨_, rfl, a, xs, rfl, .inr ha, fun L0 nL0 => ?_⟩
    have s0 := same_new (o := .lst xs) nL0
    refine ⟨_, rfl, f, sgs, rfl, hf.sml (SmL.of s0), h8, fun H1 G fs s1 nG hG hps => ⟨G, rfl, ⟨_, SqL.of hG⟩, ?_⟩⟩
    have s01 := s0.trans s1
    obtain ⟨ys0, hm0, hys0⟩ := id hL
    have hm1 := s01 _ _ hm0
    have n0m : L0 ≠ m := fun z => by rw [z, hm0] at nL0; cases nL0
    have hpl : (parts sgs).length ≤ 17 := by
      rw [parts_go]
      have h1 := List.length_filter_le (fun p : List SgL => decide (0 < p.length)) (goP sgs [])
      have h2 := goP_len sgs []
      omega
    have hev := play_parts (WF F) sgs xs
    rw [← hev] at q
    generalize hPP : parts sgs = pp at hps hpl q
    have hpm : ∀ p ∈ pp, ((∃ sg, p = [sg] ∧ sg.isList = true ∧ sg ∈ sgs) ∨ ∀ sg ∈ p, sg.isList = false ∧ sg ∈ sgs) ∧ p.length ≤ 8 ∧ 0 < p.length := fun p hp => by
      rw [← hPP, parts_go] at hp
      obtain ⟨h1, h2⟩ := List.mem_filter.mp hp
      obtain ⟨h3, h4⟩ := goP_mem sgs [] p h1 (fun _ h => by cases h)
      refine ⟨h3.imp id fun z sg hs => ⟨(z sg hs).1, (z sg hs).2.elim id fun y => by cases y⟩, ?_, of_decide_eq_true h2⟩
      have : ([] : List SgL).length = 0 := rfl
      omega
    have hgl := hps.1
    have hGm : G ≠ m := fun z => by rw [z, s0 _ _ hm0] at nG; cases nG
    refine for_list (xs := fs) (fun i σ H' => Kp (· = m) H1 H' ∧ H' G = some (.lst fs) ∧ RunV K H' r m F ns ∧ ∃ (L : Addr) (o4 : Option V) (zs : List V) (lg : List Ev), σ = [some (.ref f), some (.ref a), some (.ref r), some (.ref L), o4] ∧ H' L = some (.lst zs) ∧ L ≠ m ∧ (∀ z ∈ zs, VOk z) ∧ zs.length ≤ 14 ∧
        LogV K H' m lg ∧ lg.length ≤ 448 * i ∧ playPs (WF F) pp xs = ((playPs (WF F) (pp.drop i) zs).1, lg ++ (playPs (WF F) (pp.drop i) zs).2))
      ⟨Kp.refl _ _, hG, hR.sml (SmL.of s01), L0, none, xs, [], rfl, s1 _ _ upd_same, n0m, hxs, hxl, ⟨ys0, hm1, hys0.sml (SmL.of s01)⟩, Nat.le_refl _, rfl⟩
      (fun i σ H' _ h => SqL.of h.2.1) (fun i y σ H2 hy hp => ?_) (fun σ H2 hp => ?_)
    · obtain ⟨k2, hG2, hR2, L, o4, zs, lg, rfl, hL2, nLm, hzs, hzl, hlg, hll, hpl2⟩ := hp
      have hlt : i < pp.length := by
        rcases Nat.lt_or_ge i fs.length with z | z
        · omega
        · rw [List.getElem?_eq_none z] at hy; cases hy
      have hpi : pp[i]? = some pp[i] := List.getElem?_eq_getElem hlt
      have hdr : pp.drop i = pp[i] :: pp.drop (i + 1) := List.drop_eq_getElem_cons hlt
      generalize pp[i] = p at hpi hdr
      obtain ⟨hp1, hp8, hp0⟩ := hpm p (List.mem_of_getElem? hpi)
      obtain ⟨l, ss, rfl, hl, hS⟩ := hps.2 i y p hy hpi
      obtain ⟨sg, p', rfl⟩ : ∃ sg p', p = sg :: p' := by
        cases p with
        | nil => cases hp0
        | cons a b => exact ⟨a, b, rfl⟩
      have sl2 : SmL H1 H2 := kp_sml hm1 k2
      have hlm : l ≠ m := fun z => by rw [z, s0 _ _ hm0] at hl; cases hl.1
      have hl2 : SqL K H2 l ss := SqL.of (k2 _ _ hl.2 (.inl hlm))
      have hS2 := hS.sml sl2
      have hSl := hS.1
      obtain ⟨s0', ss', rfl⟩ : ∃ s0' ss', ss = s0' :: ss' := by
        cases ss with
        | nil => simp at hSl
        | cons a b => exact ⟨a, b, rfl⟩
      obtain ⟨z, v, rfl, hz⟩ := hS2.2 0 s0' sg rfl rfl
      rw [hdr] at hpl2
      have eL := in_LIST sg
      have nxt : ∀ (H3 : Hp) (L3 : Addr) (zs3 : List V) (l3 : List Ev), Kp (· = m) H2 H3 → H3 L3 = some (.lst zs3) → L3 ≠ m → (∀ z ∈ zs3, VOk z) → zs3.length ≤ 14 → LogV K H3 m (lg ++ l3) → l3.length ≤ 448 → playP (WF F) (sg :: p') zs = (zs3, l3) →
          Kp (· = m) H1 H3 ∧ H3 G = some (.lst fs) ∧ RunV K H3 r m F ns ∧ ∃ (L : Addr) (o4 : Option V) (zs : List V) (lg : List Ev), [some (V.ref f), some (.ref a), some (.ref r), some (.ref L3), some (.ref l)] = [some (.ref f), some (.ref a), some (.ref r), some (.ref L), o4] ∧ H3 L = some (.lst zs) ∧ L ≠ m ∧ (∀ z ∈ zs, VOk z) ∧ zs.length ≤ 14 ∧
            LogV K H3 m lg ∧ lg.length ≤ 448 * (i + 1) ∧ playPs (WF F) pp xs = ((playPs (WF F) (pp.drop (i + 1)) zs).1, lg ++ (playPs (WF F) (pp.drop (i + 1)) zs).2) := fun H3 L3 zs3 l3 k3 h1 h2 h3 h4 h5 h6 h7 => by
        obtain ⟨ys2, hm2, _⟩ := id hlg
        refine ⟨k2.trans k3, k3 _ _ hG2 (.inl hGm), hR2.sml (kp_sml hm2 k3), L3, _, zs3, lg ++ l3, rfl, h1, h2, h3, h4, h5, by rw [List.length_append]; omega, ?_⟩
        rw [hpl2]
        show ((playPs (WF F) (pp.drop (i + 1)) (playP (WF F) (sg :: p') zs).1).1, lg ++ ((playP (WF F) (sg :: p') zs).2 ++ (playPs (WF F) (pp.drop (i + 1)) (playP (WF F) (sg :: p') zs).1).2)) = _
        rw [h7, List.append_assoc]
      refine ⟨_, rfl, l, _, 0, _, rfl, rfl, hl2, atI_nat (j := 0) rfl, stGet hz ⟨ga K "LIST_KINDS", _, rfl, .inr (T.t_LIST_KINDS H2), rfl, by decide +kernel, _, rfl, ?_⟩⟩
      cases hb : sg.isList with
      | true =>
        refine ifT (eL.trans hb) ?_
        have hso : SgOk sg := by
          rcases hp1 with ⟨sg2, e, _, hin⟩ | z
          · injection e with e _
            rw [e]; exact (hok sg2 hin).1
          · rw [(z sg List.mem_cons_self).1] at hb; cases hb
        refine ⟨_, rfl, l, _, 0, _, rfl, rfl, hl2, atI_nat (j := 0) rfl, _, rfl, z, L, sg, v, zs, rfl, hz, hso, hb, SqL.of hL2, fun p2 np2 => ?_⟩
        obtain ⟨ys2, hm2, hys2⟩ := id hlg
        have sp2 := same_new (o := .lst (sg.cut zs)) np2
        refine nxt _ p2 (sg.cut zs) [] (Same.kp sp2) upd_same (fun z => by rw [z, hm2] at np2; cases np2) (fun z hz => hzs z (cut_mem hz)) (Nat.le_trans (cut_len zs) hzl) ⟨ys2, sp2 _ _ hm2, by rw [List.append_nil]; exact hys2.sml (SmL.of sp2)⟩ (Nat.zero_le _) ?_
        show (if sg.isList = true then _ else _) = _
        rw [if_pos hb]
      | false =>
        refine ifF (eL.trans hb) ?_
        have hall : ∀ s ∈ sg :: p', s.isList = false ∧ s ∈ sgs := by
          rcases hp1 with ⟨sg2, e, h2, _⟩ | z
          · injection e with e _
            rw [← e, hb] at h2; cases h2
          · exact z
        have hpo : PartOk ns (sg :: p') := fun s hs => by
          obtain ⟨h1, h2⟩ := hall s hs
          exact ⟨(hok s h2).1, h1, (hok s h2).2⟩
        have epp : playP (WF F) (sg :: p') zs = pushD (WF F) ((sg :: p').map Gt.new) zs := playP_push (WF F) (fun s hs => (hall s hs).1) zs
        refine ⟨_, rfl, _, rfl, _, rfl, l, L, r, m, _, sg :: p', zs, F, ns, lg, rfl, hl2, hS2, hpo, hp8, hL2, hzs, by omega, hR2, hlg, nLm, by omega, ne1, ne2, fun H3 L3 k3 n3 h1 h2 h3 h4 h5 => ?_⟩
        exact nxt H3 L3 _ _ k3 h1 n3 h2 (Nat.le_trans h5 hzl) h3 (by omega) epp
    · obtain ⟨k2, hG2, hR2, L, o4, zs, lg, rfl, hL2, nLm, hzs, hzl, hlg, hll, hpl2⟩ := hp
      rw [List.drop_of_length_le (by omega)] at hpl2
      have : playPs (WF F) pp xs = (zs, lg) := by rw [hpl2]; show (zs, lg ++ []) = _; rw [List.append_nil]
      rw [this] at q
      exact ⟨_, rfl, q H2 L ((Same.kp s01).trans k2) hL2 hzs hzl hlg (by show lg.length ≤ 9000; omega)⟩
end
end K

set_option Elab.async false
set_option linter.all false
set_option maxRecDepth 100000
set_option maxHeartbeats 4000000
/-! KF16: callflows.running: names_of, run. -/
namespace K
open PySem PySem.Spec PyProof.Rows L2 He TL LamX
def sgNames : SgL → List Nm
  | .each w _ => w
  | .ask _ t _ => t
  | _ => []
def namesOf (sgs : List SgL) : List Nm := (sgs.map sgNames).flatten
theorem all_names {ns : List Nm} {sgs : List SgL} (h : AllOk ns sgs) : ∀ n ∈ namesOf sgs, n ∈ ns := fun n hn => by
  obtain ⟨l, hl, hn⟩ := List.mem_flatten.mp hn
  obtain ⟨sg, hs, rfl⟩ := List.mem_map.mp hl
  have := (h sg hs).2
  cases sg with
  | each w b => exact this n hn
  | ask k t b => exact this n hn
  | _ => cases hn
theorem sgNames_len {sg : SgL} (h : SgOk sg) : (sgNames sg).length ≤ 4 := by
  cases sg with
  | each w b => have := h.2; show w.length ≤ 4; omega
  | ask k t b => exact h.2.2
  | _ => exact Nat.zero_le _
section
variable {P : Program} {w : World} {K : PySem.W.Frag} {mg : Str → Option Value} {base : Heap}
def spNamesOf (K : PySem.W.Frag) : Sp := fun vs H Q _ => ∃ (f : Addr) (sgs : List SgL), vs = [.ref f] ∧ FlowV K H f sgs ∧ sgs.length ≤ 8 ∧ (∀ sg ∈ sgs, SgOk sg) ∧ ∀ H' p, Same H H' → SqT K H' p ((namesOf sgs).map fun n => V.str (mk n)) → Q (.ref p) H'
theorem ok_names_of (T : Tx K mg w) : Ok1 P w K mg base 3 "names_of" ["flow"] (spNamesOf K) := by
  have nd := sc_names_of.nd
  refine T.d_names_of.mk sc_names_of bn_names_of (fun vs H Q E h => ?_) (fun cdv A outer s H vs Q E hr h => ?_)
  · obtain ⟨f, sgs, rfl, _⟩ := h
    rfl
  · obtain ⟨f, sgs, rfl, ⟨dx, t, ts, hx, ht, hS⟩, h8, ho, q⟩ := h
    refine ⟨_, pss_cons (ps_set (i := 1) nd rfl (.inl rfl) (pe_tup pa_nil))
      (pss_cons (ps_for PassesOwn.never rfl (pi_tup (pe_stages T hr (pv 0))) (pg_name (i := 2) nd rfl (.inl rfl))
        (pss_one (ps_if (PW.pt (pw_or (pt_cmpR op_eq (pe_kind T hr (pv 2)) pe_str (nomark _)) (pw_or1 (pt_cmpR op_in_seq (pe_kind T hr (pv 2)) (pe_glob (v := .ref _) (by rfl) T.g_TESTED rfl) (by rfl)))))
          (pss_one (ps_set (i := 1) nd rfl (.inl rfl) (pe_op op_catA (pv 1) (pe_detail T hr (pv 2))))) pss_nil)))
      (pss_one (ps_ret (pv 1)))), ?_⟩
    refine ⟨by decide, fun p np => ?_⟩
    have sp := same_new (o := .tup []) np
    refine ⟨_, rfl, f, dx, _, rfl, sp _ _ hx, f, dx, t, rfl, sp _ _ hx, t, rfl, ⟨ts, same_seqT sp ht⟩, ?_⟩
    have hl := hS.1
    refine for_tup (xs := ts) (fun i σ H' => Same H H' ∧ ∃ p o2, σ = [some (.ref f), some (.ref p), o2] ∧ SqT K H' p ((namesOf (sgs.take i)).map fun n => V.str (mk n)) ∧ (namesOf (sgs.take i)).length ≤ 4 * i)
      ⟨sp, p, none, rfl, SqT.of upd_same, Nat.le_refl _⟩ (fun i σ H' _ h => same_seqT h.1 ht) (fun i y σ H1 hy hp => ?_) (fun σ H1 hp => ?_)
    · obtain ⟨s1, p, o2, rfl, hpp, hll⟩ := hp
      have hlt : i < sgs.length := by
        rcases Nat.lt_or_ge i ts.length with z | z
        · omega
        · rw [List.getElem?_eq_none z] at hy; cases hy
      have hsg : sgs[i]? = some sgs[i] := List.getElem?_eq_getElem hlt
      have hso := ho sgs[i] (List.getElem_mem hlt)
      generalize sgs[i] = sg at hsg hso
      obtain ⟨z, v, rfl, hz⟩ := hS.2 i y sg hy hsg
      have hz1 := hz.same s1
      have en : namesOf (sgs.take (i + 1)) = namesOf (sgs.take i) ++ sgNames sg := by
        unfold namesOf
        rw [List.take_add_one, hsg, List.map_append, List.flatten_append]
        simp
      have hsl := sgNames_len hso
      rw [en]
      obtain ⟨_, _, _, _, hd⟩ := id hz1
      have add : ∀ a, SqT K H1 a ((sgNames sg).map fun n => V.str (mk n)) → ∃ a' b xs ys, V.ref p = .ref a' ∧ V.ref a = .ref b ∧ SqT K H1 a' xs ∧ SqT K H1 b ys ∧ xs.length + ys.length ≤ sizeLine ∧
          (xs = [] → Same H H1 ∧ ∃ p' o2, [some (V.ref f), some (.ref b), some (.ref z)] = [some (.ref f), some (.ref p'), o2] ∧ SqT K H1 p' ((namesOf (sgs.take i) ++ sgNames sg).map fun n => V.str (mk n)) ∧ (namesOf (sgs.take i) ++ sgNames sg).length ≤ 4 * (i + 1)) ∧
          (xs ≠ [] → ys = [] → Same H H1 ∧ ∃ p' o2, [some (V.ref f), some (.ref a'), some (.ref z)] = [some (.ref f), some (.ref p'), o2] ∧ SqT K H1 p' ((namesOf (sgs.take i) ++ sgNames sg).map fun n => V.str (mk n)) ∧ (namesOf (sgs.take i) ++ sgNames sg).length ≤ 4 * (i + 1)) ∧
          (xs ≠ [] → ys ≠ [] → ∀ q, H1 q = none → Same H (upd H1 q (.tup (xs ++ ys))) ∧ ∃ p' o2, [some (V.ref f), some (.ref q), some (.ref z)] = [some (.ref f), some (.ref p'), o2] ∧ SqT K (upd H1 q (.tup (xs ++ ys))) p' ((namesOf (sgs.take i) ++ sgNames sg).map fun n => V.str (mk n)) ∧ (namesOf (sgs.take i) ++ sgNames sg).length ≤ 4 * (i + 1)) := fun a ha => by
        have hz2 : (namesOf (sgs.take i) ++ sgNames sg).length ≤ 4 * (i + 1) := by rw [List.length_append]; omega
        refine ⟨p, a, _, _, rfl, rfl, hpp, ha, by simp only [List.length_map]; exact Nat.le_trans (show _ ≤ 100 by omega) (by decide), fun e => ⟨s1, a, _, rfl, ?_, hz2⟩, fun _ e => ⟨s1, p, _, rfl, ?_, hz2⟩, fun _ _ q nq => ⟨s1.trans (same_new nq), q, _, rfl, ?_, hz2⟩⟩
        · rw [List.map_append, e]; exact ha
        · rw [List.map_append, e, List.append_nil]; exact hpp
        · rw [List.map_append]; exact SqT.of upd_same
      have skip : sgNames sg = [] → Same H H1 ∧ ∃ p' o2, [some (V.ref f), some (.ref p), some (.ref z)] = [some (.ref f), some (.ref p'), o2] ∧ SqT K H1 p' ((namesOf (sgs.take i) ++ sgNames sg).map fun n => V.str (mk n)) ∧ (namesOf (sgs.take i) ++ sgNames sg).length ≤ 4 * (i + 1) := fun e => by
        rw [e, List.append_nil]
        exact ⟨s1, p, _, rfl, hpp, by omega⟩
      have eT := in_TESTED sg
      have askd : ∀ b : Bool, decide (V.str (kindS sg) = V.str (Str.ofString "each")) = b → (b = true → ∃ w n, sg = .each w n) ∧ (b = false → ∀ w n, sg ≠ .each w n) := fun b e => by
        refine ⟨fun hb => ?_, fun hb w n z => ?_⟩
        · rw [hb] at e
          have e2 := of_decide_eq_true e
          injection e2 with e2
          cases sg with
          | each w n => exact ⟨w, n, rfl⟩
          | ask k t c => cases k <;> exact absurd e2 (by show ¬ (Str.ofString _ = Str.ofString _); decide +kernel)
          | first n c => exact absurd e2 (by show ¬ (Str.ofString "first" = Str.ofString "each"); decide +kernel)
          | skip n c => exact absurd e2 (by show ¬ (Str.ofString "skip" = Str.ofString "each"); decide +kernel)
          | every k r c => exact absurd e2 (by show ¬ (Str.ofString "every" = Str.ofString "each"); decide +kernel)
          | last n => exact absurd e2 (by show ¬ (Str.ofString "last" = Str.ofString "each"); decide +kernel)
          | but n => exact absurd e2 (by show ¬ (Str.ofString "but last" = Str.ofString "each"); decide +kernel)
          | turned => exact absurd e2 (by show ¬ (Str.ofString "turned" = Str.ofString "each"); decide +kernel)
        · rw [z, hb] at e
          exact of_decide_eq_false e rfl
      refine ⟨_, rfl, stGet hz1 ⟨rfl, _, rfl, ?_⟩⟩
      cases hb : decide (V.str (kindS sg) = V.str (Str.ofString "each")) with
      | true =>
        obtain ⟨w', n', rfl⟩ := (askd _ hb).1 rfl
        obtain ⟨a, rfl, ha⟩ := hd
        refine ifT hb ?_
        exact ⟨_, rfl, _, rfl, stGet hz1 (add a ha)⟩
      | false =>
        have hne := (askd _ hb).2 rfl
        refine ifF rfl ?_
        refine ⟨_, rfl, stGet hz1 ⟨ga K "TESTED", _, rfl, .inr (T.t_TESTED H1), rfl, by decide +kernel, _, rfl, ?_⟩⟩
        cases sg with
        | each w n => exact absurd rfl (hne w n)
        | ask k t b =>
          obtain ⟨a, rfl, ha⟩ := hd
          refine ifT eT ?_
          exact ⟨_, rfl, _, rfl, stGet hz1 (add a ha)⟩
        | first n c => exact ifF eT (skip rfl)
        | skip n c => exact ifF eT (skip rfl)
        | every k r c => exact ifF eT (skip rfl)
        | last n => exact ifF eT (skip rfl)
        | but n => exact ifF eT (skip rfl)
        | turned => exact ifF eT (skip rfl)
    · obtain ⟨s1, p, o2, rfl, hpp, hll⟩ := hp
      rw [List.take_of_length_le (by omega)] at hpp
      exact ⟨_, rfl, q H1 p s1 hpp⟩
/-- what run gives -/
def ResV (K : PySem.W.Frag) (H : Hp) (y : V) (r : List V × List Ev) : Prop := ∃ p a b ys, y = .ref p ∧ SqT K H p [.ref a, .ref b] ∧ SqT K H a r.1 ∧ SqT K H b ys ∧ EvsV K H ys r.2
def spRun (K : PySem.W.Frag) : Sp := fun vs H Q _ => ∃ (f a d : Addr) (sgs : List SgL) (xs : List V) (F : Nm → Act) (ns : List Nm), vs = [.ref f, .ref a, .ref d] ∧ FlowV K H f sgs ∧ sgs.length ≤ 8 ∧ AllOk ns sgs ∧ SqT K H a xs ∧ (∀ x ∈ xs, VOk x) ∧ xs.length ≤ 14 ∧ FnsV H d F ns ∧ cG K ≠ cS K ∧ cG K ≠ cR K ∧
  ∀ H' y, Same H H' → ResV K H' y (ps (WF F) sgs [] xs) → (∀ x ∈ (ps (WF F) sgs [] xs).1, VOk x) → (ps (WF F) sgs [] xs).1.length ≤ 14 → (ps (WF F) sgs [] xs).2.length ≤ 9000 → Q y H'
theorem ok_runM (T : Tx K mg w) : ∃ fd, FunD K "run" "run" (defArgs s_run) (defBody s_run) (defScope s_run) [] [] (ga K "run") fd ∧ FnOk P w K mg base CX0 7 (ga K "run") fd ["flow", "entries", "functions"] (spRun K) := by
  have nd := sc_run.nd
  obtain ⟨fi, Fi, Gi⟩ := ok_runner_init (P := P) (base := base) T
  have GR : Mf K "run" "run" s_run [] [] (ga K "run") := T.d_run.2
  refine GR.mk sc_run (fun vs H Q E h => ?_) (fun cdv A outer s H vs Q E hr h => ?_)
  · obtain ⟨f, a, d, sgs, xs, F, ns, rfl, _⟩ := h
    rfl
  · obtain ⟨f, a, d, sgs, xs, F, ns, rfl, hf, h8, hok, ha, hxs, hxl, hF, ne1, ne2, q⟩ := h
    refine ⟨_, pss_cons (ps_expr (pe_g (ok_check_flow T) (hr.mono (by decide)) (pa_cons (pv 0) pa_nil)))
      (pss_cons (ps_if (pt_not (pt_val (pe_callB call_isi (by rfl) T.z_isinstance bt_isinstance (pa_cons (pv 1) (pa_cons (pe_bltn (v := .ty "tuple") (by rfl) T.z_tuple bt_tuple rfl) pa_nil))))) pss_never pss_nil)
      (pss_cons (ps_if (PW.pt (pw_or (pt_not (pt_val (pe_callB call_isi (by rfl) T.z_isinstance bt_isinstance (pa_cons (pv 2) (pa_cons (pe_bltn (v := .ty "dict") (by rfl) T.z_dict bt_dict rfl) pa_nil)))))
          (pw_or1 (pt_not (pt_val (pe_callB (cr_all rfl) (by rfl) T.z_all bt_all (pa_cons
            (pe_lock (pe_lc (own := [("name", 3)]) (g := gName 3) (tt := tYes) rfl nd (pi_keys (pv 2)) (blkOk_by (N := ["flow", "entries", "functions", "name", "runner", "left"]) (sc := defScope s_run) (by decide +kernel))
              (fun _ _ _ _ _ => pg_name (i := 3) nd rfl (Or.inl rfl)) (fun _ _ _ _ _ => pts_nil) (fun _ _ _ _ _ => pe_g (ok_is_name T) (hr.mono (by decide)) (pa_cons (pv 3) pa_nil)))) pa_nil))))))) pss_never pss_nil)
      (pss_cons (ps_for PassesOwn.never rfl (pi_tup (pe_g (ok_names_of T) (hr.mono (by decide)) (pa_cons (pv 0) pa_nil))) (pg_name (i := 3) nd rfl (.inl rfl))
        (pss_one (ps_if (pt_cmp (pc_dnotin (hu_of hr) (pv 3) (pv 2))) pss_never pss_nil)))
      (pss_cons (ps_set (i := 4) nd rfl (.inl rfl) (pe_make T.mk_Runner Gi (hr.mono (by decide)) rfl T.g_Runner (Fi.bindsN fun _ _ _ _ _ _ us hl => match us, hl with | [_, _], _ => rfl) .nil pass0 (pa_cons (pv 2) pa_nil)))
      (pss_cons (ps_set (i := 5) nd rfl (.inl rfl) (pe_g (ok_played T) hr (pa_cons (pv 0) (pa_cons (pv 1) (pa_cons (pv 4) pa_nil)))))
      (pss_one (ps_ret (pe_tup (pa_cons (pe_callTy call_tuple_of (by rfl) T.z_tuple bt_tuple (pa_cons (pv 5) pa_nil)) (pa_cons (pe_callTy call_tuple_of (by rfl) T.z_tuple bt_tuple (pa_cons (pe_fld (pv 4) rfl) pa_nil)) pa_nil)))))))))), ?_⟩
    refine ⟨_, rfl, f, sgs, rfl, hf, ?_⟩
    refine ⟨_, rfl, .ref a, .ty "tuple", .type "tuple", .type "tuple", true, rfl, .ty _, tyx_tup ha, kit_ty (by decide +kernel), true, rfl, ?_⟩
    refine iteF ?_
    have hF0 := hF
    obtain ⟨kvs, hk1, hk2, hk3, hk4⟩ := hF
    refine ⟨_, rfl, .ref d, .ty "dict", .type "dict", .type "dict", true, rfl, .ty _, .base (.dK hk1), kit_ty (by decide +kernel), true, rfl, ?_⟩
    refine iteF ?_
    refine ⟨d, _, hk1, trivial, fun od => ?_⟩
    refine ⟨_, rfl, d, od, rfl, .inl ⟨kvs, upd_same, fun D nD => ?_⟩⟩
    have nDd : D ≠ d := fun z => by rw [z, upd_same] at nD; cases nD
    refine lc_pure (walk_keys (kvs := kvs)) (kvs.map fun _ => V.bl true) (by rw [List.length_map]) (small1000 hk2) nD (fun H1 s1 => s1 _ _ upd_same) (fun i y H1 H2 R N hi s1 hy hR2 => ?_) (fun H1 s1 eD => ?_)
    · obtain ⟨rfl, k, v, hkv, rfl⟩ := hy
      obtain ⟨n, hn1, hn2⟩ := hk3 (k, v) (List.mem_of_getElem? hkv)
      have hn1' : k = Sum.inr (mk n) := hn1
      subst hn1'
      refine ⟨rfl, ?_⟩
      refine yes_if ?_
      refine ⟨_, rfl, mk n, rfl, small_line (by rw [len_mk]; have := (isNameL_len hn2).1; omega), fun H3 s3 => ?_⟩
      rw [show isName (mk n) = true from hn2]
      exact hR2 _ _ (by rw [List.getElem?_map, hkv]; rfl) s3
    refine ⟨s1 _ _ upd_same, ?_⟩
    have s2 : Same H (upd H1 d (.dK kvs)) := fun b o e => by
      by_cases hb : b = d
      · rw [hb, upd_same, ← e, hb, hk1]
      · rw [upd_ne hb]
        exact s1 _ _ (by rw [upd_ne hb]; exact e)
    refine ⟨D, kvs.map fun _ => true, rfl, SqL.of (by rw [upd_ne nDd, eD, List.map_map]; rfl), _, rfl, ?_⟩
    have eall : (kvs.map fun _ => true).all id = true := by
      rw [List.all_map]
      simp
    rw [eall]
    refine iteF ?_
    refine ⟨_, rfl, f, sgs, rfl, hf.sml (SmL.of s2), h8, fun sg hs => (hok sg hs).1, fun H3 p s3 hp => ⟨p, rfl, ⟨_, hp⟩, ?_⟩⟩
    have s23 := s2.trans s3
    refine for_tup (xs := (namesOf sgs).map fun n => V.str (mk n)) (fun i σ H' => H' = H3 ∧ ∃ o3, σ = [some (.ref f), some (.ref a), some (.ref d), o3, none, none]) ⟨rfl, none, rfl⟩ (fun i σ H' _ h => by rw [h.1]; exact hp) (fun i y σ H' hy hpv => ?_) (fun σ H' hpv => ?_)
    · obtain ⟨rfl, o3, rfl⟩ := hpv
      rw [List.getElem?_map] at hy
      cases hn : (namesOf sgs)[i]? with
      | none => rw [hn] at hy; cases hy
      | some n =>
        rw [hn] at hy
        cases hy
        obtain ⟨fa, e1, _⟩ := hk4 n (all_names hok n (List.mem_of_getElem? hn))
        refine ⟨_, rfl, _, rfl, d, some (.ref fa), rfl, .inl ⟨kvs, Sum.inr (mk n), .inl (s23 _ _ hk1), rfl, e1.symm⟩, _, rfl, ?_⟩
        refine ifF rfl ?_
        exact ⟨rfl, _, rfl⟩
    · obtain ⟨rfl, o3, rfl⟩ := hpv
      refine ⟨_, rfl, fun x dx nx ndx nedx => ?_⟩
      have sm0 : Same H' (upd (upd H' dx (.own x)) x (.ins (cR K) dx [])) := fun b y e => by
        rw [upd_ne (ne_of_none e nx), upd_ne (ne_of_none e ndx)]; exact e
      refine ⟨x, dx, d, F, ns, rfl, upd_same, hF0.sml (SmL.of (s23.trans sm0)), fun H4 m k4 nm hR hL => ⟨rfl, ?_⟩⟩
      have s4 : Same H' H4 := same_made nx ndx k4
      have s04 := s23.trans s4
      refine ⟨_, rfl, _, rfl, _, rfl, f, a, x, m, sgs, xs, F, ns, rfl, hf.sml (SmL.of s04), h8, hok, same_seqT s04 ha, hxs, hxl, hR, hL, ne1, ne2, fun H5 L k5 h1 h2 h3 h4 h5 => ?_⟩
      obtain ⟨ys, hm5, hys5⟩ := h4
      obtain ⟨ys0, hm4, _⟩ := id hL
      have sl5 := kp_sml hm4 k5
      have hR5 := hR.sml sl5
      obtain ⟨dx5, d5, hx5, _⟩ := hR5
      have nm0 : H m = none := none_back (s23.trans sm0) nm
      have s05 : Same H H5 := fun b o e => k5 b o (s04 _ _ e) (.inl fun z => by
        have z' : b = m := z
        rw [z', nm0] at e; cases e)
      refine ⟨_, rfl, L, _, rfl, .inl ⟨SqL.of h1, fun p1 np1 => ?_⟩⟩
      have sp1 := same_new (o := .tup (ps (WF F) sgs [] xs).1) np1
      refine ⟨_, rfl, x, cR K, dx5, _, _, rfl, sp1 _ _ hx5, T.cl_Runner, T.n_Runner_made, rfl, m, ys, rfl, .inl ⟨SqL.of (sp1 _ _ hm5), fun p2 np2 => ⟨by show 2 ≤ sizeLine; decide, fun p3 np3 => ?_⟩⟩⟩
      have sp2 := same_new (o := .tup ys) np2
      have sp3 := same_new (o := .tup [V.ref p1, V.ref p2]) np3
      exact q _ (.ref p3) (((s05.trans sp1).trans sp2).trans sp3) ⟨p3, p1, p2, ys, rfl, SqT.of upd_same, SqT.of (sp3 _ _ (sp2 _ _ upd_same)), SqT.of (sp3 _ _ upd_same), hys5.sml (SmL.of ((sp1.trans sp2).trans sp3))⟩ h2 h3 h5
theorem ok_run (T : Tx K mg w) : Ok1 P w K mg base 7 "run" ["flow", "entries", "functions"] (spRun K) := by
  obtain ⟨fd, F, h⟩ := ok_runM (P := P) (base := base) T
  exact ⟨⟨fd, h, F.bindsN bn_run⟩, T.d_run.1, F.kp⟩
end
end K

set_option Elab.async false
set_option linter.all false
set_option maxRecDepth 100000
set_option maxHeartbeats 4000000
/-! KL1: the law's draws: cells, the purse, numbers below a bound. -/
namespace K
open PySem PySem.Spec PyProof.Rows L2 He TL LamX
theorem m31 : (2147483399 : Int) ≠ 0 := by decide
def PurseAt (H : Hp) (p : Addr) : Prop := ∃ s d k : Int, H p = some (.lst [.int s, .int d, .int k]) ∧ 0 ≤ s ∧ s < 2147483399 ∧ 0 ≤ d
theorem PurseAt.same {H H' : Hp} {p : Addr} (e : Same H H') (h : PurseAt H p) : PurseAt H' p := by
  obtain ⟨s, d, k, a, b⟩ := h
  exact ⟨s, d, k, e _ _ a, b⟩
section
variable {P : Program} {w : World} {K : PySem.W.Frag} {mg : Str → Option Value} {base : Heap}
def spCell (K : PySem.W.Frag) : Sp := fun vs H Q _ => ∃ (a : Addr) (cs : List Int) (k : Nat), vs = [.ref a, .int k] ∧ SqL K H a (cs.map V.int) ∧ k ≤ 1000 ∧ ∀ H' i, Same H H' → Q (.int i) H'
theorem ok_law_cell (T : Tx K mg w) : Ok1 P w K mg base 1 "_law_cell" ["_law_cells", "_law_k"] (spCell K) := by
  have nd := sc_law_cell.nd
  refine T.d_law_cell.mk sc_law_cell bn_law_cell (fun vs H Q E h => ?_) (fun cdv A outer s H vs Q E hr h => ?_)
  · obtain ⟨a, cs, k, rfl, _⟩ := h
    rfl
  · obtain ⟨a, cs, k, rfl, ha, hk, q⟩ := h
    refine ⟨_, pss_cons (ps_if (pt_cmpR op_lt (pv 1) (pe_callB call_len_seq (by rfl) T.z_len bt_len (pa_cons (pv 0) pa_nil)) (nomark _)) (pss_one (ps_ret (pe_ix ix_list (pv 0) (pv 1) (fun _ _ => rfl)))) pss_nil)
      (pss_cons (ps_set (i := 2) nd rfl (.inl rfl) (pe_op op_modN (pe_callTy call_int1 (by rfl) T.z_int bt_int (pa_cons (pe_op op_mul pe_int (pe_op op_add (pe_op op_add (pe_op op_mul (pv 1) (pv 1)) (pe_op op_mul pe_int (pv 1))) pe_int)) pa_nil)) pe_int))
      (pss_cons (ps_for PassesOwn.never rfl (pi_list (pe_slice sl_list (pv 0) po_none (po_some pe_int))) (pg_name (i := 3) nd rfl (.inl rfl))
        (pss_one (ps_set (i := 2) nd rfl (.inl rfl) (pe_op op_modN (pe_callTy call_int1 (by rfl) T.z_int bt_int (pa_cons (pe_op op_add (pe_op op_mul (pv 2) pe_int) (pv 3)) pa_nil)) pe_int))))
      (pss_one (ps_ret (pv 2))))), ?_⟩
    refine ⟨_, rfl, _, rfl, a, _, rfl, .inl ha, _, _, rfl, rfl, _, rfl, ?_⟩
    rw [List.length_map]
    by_cases hlt : k < cs.length
    · refine ifT (decide_eq_true (by omega)) ?_
      refine ⟨_, rfl, _, rfl, a, _, k, .int cs[k], rfl, rfl, ha, atI_nat (j := k) (by rw [List.getElem?_map, List.getElem?_eq_getElem hlt]; rfl), q H _ (Same.refl H)⟩
    · refine ifF (decide_eq_false (by omega)) ?_
      refine ⟨_, rfl, _, rfl, (k : Int), (k : Int), rfl, rfl, .inl ⟨by omega, by omega⟩, _, rfl, 11, (k : Int), rfl, rfl, .inl ⟨by decide, by decide⟩, _, _, rfl, rfl, _, _, rfl, rfl, 69497, _, rfl, rfl, .inl ⟨by decide, by decide⟩, .inl ⟨_, rfl, _, _, rfl, rfl, m31, ?_⟩⟩
      refine ⟨_, rfl, _, rfl, a, _, rfl, ha, fun p np => ⟨p, rfl, ⟨_, SqL.of upd_same⟩, ?_⟩⟩
      have sp := same_new (o := .lst (cutV (cs.map V.int) none (some 3))) np
      have hcut : ∀ (i : Nat) (y : V), (cutV (cs.map V.int) none (some 3))[i]? = some y → ∃ c : Int, y = .int c := fun i y hy => by
        have h1 := List.mem_of_getElem? hy
        unfold cutV at h1
        have h2 := List.mem_of_mem_drop (List.mem_of_mem_take h1)
        obtain ⟨c, _, e⟩ := List.mem_map.mp h2
        exact ⟨c, e.symm⟩
      have h0 : ∀ x : Int, 0 ≤ x.fmod 2147483399 ∧ x.fmod 2147483399 < 2147483399 := fun x => ⟨Int.fmod_nonneg_of_pos _ (by decide), Int.fmod_lt_of_pos _ (by decide)⟩
      refine for_list (xs := cutV (cs.map V.int) none (some 3)) (fun i σ H' => Same H H' ∧ SqL K H' p (cutV (cs.map V.int) none (some 3)) ∧ ∃ (sd : Int) (o3 : Option V), σ = [some (.ref a), some (.int (k : Int)), some (.int sd), o3] ∧ 0 ≤ sd ∧ sd < 2147483399)
        ⟨sp, SqL.of upd_same, _, none, rfl, h0 _⟩ (fun i σ H' _ h => h.2.1) (fun i y σ H1 hy hp => ?_) (fun σ H1 hp => ?_)
      · obtain ⟨s1, hp1, sd, o3, rfl, h1, h2⟩ := hp
        obtain ⟨c, rfl⟩ := hcut i y hy
        refine ⟨_, rfl, sd, 52391, rfl, rfl, .inl ⟨by omega, by omega⟩, _, rfl, _, c, rfl, rfl, .inl ⟨_, rfl, _, _, rfl, rfl, m31, ?_⟩⟩
        exact ⟨s1, hp1, _, _, rfl, h0 _⟩
      · obtain ⟨s1, hp1, sd, o3, rfl, h1, h2⟩ := hp
        exact ⟨_, rfl, q H1 sd s1⟩
def spPurse : Sp := fun vs H Q _ => ∃ i : Int, vs = [.int i] ∧ ∀ H' p, Same H H' → H p = none → PurseAt H' p → Q (.ref p) H'
theorem ok_law_purse (T : Tx K mg w) : Ok1 P w K mg base 1 "_law_purse" ["_law_cell_here"] spPurse := by
  have nd := sc_law_purse.nd
  refine T.d_law_purse.mk sc_law_purse bn_law_purse (fun vs H Q E h => ?_) (fun cdv A outer s H vs Q E hr h => ?_)
  · obtain ⟨i, rfl, _⟩ := h
    rfl
  · obtain ⟨i, rfl, q⟩ := h
    refine ⟨_, pss_cons (ps_set (i := 1) nd rfl (.inl rfl) (pe_ifExp (PW.pt (pw_or (pt_cmpR op_lt (pv 0) pe_int (nomark _)) (pw_or1 (pt_cmpR op_ge (pv 0) (pe_op op_pow pe_int pe_int) (nomark _))))) (pe_callB call_abs (by rfl) T.z_abs bt_abs (pa_cons (pv 0) pa_nil)) pe_int))
      (pss_one (ps_ret (pe_lst (pa_cons (pe_op op_modN (pe_callTy call_int1 (by rfl) T.z_int bt_int (pa_cons (pv 0) pa_nil)) pe_int) (pa_cons (pv 1) (pa_cons pe_int pa_nil)))))), ?_⟩
    have go : ∀ d : Int, 0 ≤ d → 3 ≤ sizeLine ∧ ∀ p, H p = none → Q (.ref p) (upd H p (.lst [.int (i.fmod 2147483399), .int d, .int 0])) := fun d hd =>
      ⟨by decide, fun p np => q _ p (same_new np) np ⟨_, d, 0, upd_same, Int.fmod_nonneg_of_pos _ (by decide), Int.fmod_lt_of_pos _ (by decide), hd⟩⟩
    refine ⟨_, rfl, i, 0, rfl, rfl, _, rfl, ?_⟩
    by_cases h0 : i < 0
    · refine ifT (decide_eq_true h0) ?_
      refine iteT ⟨_, rfl, i, rfl, ?_⟩
      exact ⟨_, rfl, .inl ⟨i, rfl, i, 2147483399, rfl, rfl, m31, _, rfl, go _ (by split <;> omega)⟩⟩
    · refine ifF (decide_eq_false h0) ?_
      refine ⟨_, rfl, 10, 18, rfl, rfl, ⟨by decide, by decide, by decide⟩, i, _, rfl, rfl, _, rfl, ?_⟩
      by_cases h1 : i ≥ 10 ^ (18 : Int).toNat
      · refine ifT (decide_eq_true h1) ⟨_, rfl, i, rfl, ?_⟩
        exact ⟨_, rfl, .inl ⟨i, rfl, i, 2147483399, rfl, rfl, m31, _, rfl, go _ (by split <;> omega)⟩⟩
      · refine ifF (decide_eq_false h1) ?_
        exact ⟨_, rfl, .inl ⟨i, rfl, i, 2147483399, rfl, rfl, m31, _, rfl, go _ (by decide)⟩⟩
def spTake : Sp := fun vs H Q _ => ∃ (p : Addr) (m : Int), vs = [.ref p, .int m] ∧ PurseAt H p ∧ 0 < m ∧ m ≤ 1000 ∧ ∀ H' (r : Nat), Kp (· = p) H H' → PurseAt H' p → (r : Int) < m → Q (.int r) H'
theorem ok_law_take (T : Tx K mg w) : Ok1 P w K mg base 1 "_law_take" ["_law_purse_here", "_law_many"] spTake := by
  have nd := sc_law_take.nd
  refine T.d_law_take.mk sc_law_take bn_law_take (fun vs H Q E h => ?_) (fun cdv A outer s H vs Q E hr h => ?_)
  · obtain ⟨p, m, rfl, _⟩ := h
    rfl
  · obtain ⟨p, m, rfl, ⟨s0, d0, k0, hp, h1, h2, h3⟩, hm, hm2, q⟩ := h
    refine ⟨_, pss_cons (ps_asg (pe_op op_add (pe_ix ix_list (pv 0) pe_int (fun _ _ => rfl)) pe_int) (pg_sub (pv 0) pe_int set_list (fun _ => rfl)))
      (pss_cons (ps_set (i := 2) nd rfl (.inl rfl) (pe_callTy call_int1 (by rfl) T.z_int bt_int (pa_cons (pe_ix ix_list (pv 0) pe_int (fun _ _ => rfl)) pa_nil)))
      (pss_cons (ps_set (i := 3) nd rfl (.inl rfl) (pe_op op_mul (pv 2) (pe_op op_add (pe_op op_modN (pe_callTy call_int1 (by rfl) T.z_int bt_int (pa_cons (pv 2) pa_nil)) pe_int) pe_int)))
      (pss_cons (ps_asg (pe_op op_modN (pe_callTy call_int1 (by rfl) T.z_int bt_int (pa_cons (pe_op op_add (pe_op op_add (pv 3) (pe_op op_mul pe_int (pe_ix ix_list (pv 0) pe_int (fun _ _ => rfl)))) pe_int) pa_nil)) pe_int) (pg_sub (pv 0) pe_int set_list (fun _ => rfl)))
      (pss_cons (ps_if (pt_cmpR op_gt (pe_ix ix_list (pv 0) pe_int (fun _ _ => rfl)) pe_int (nomark _))
        (pss_cons (ps_asg (pe_callB call_divmod (by rfl) T.z_divmod bt_divmod (pa_cons (pe_ix ix_list (pv 0) pe_int (fun _ _ => rfl)) (pa_cons (pv 1) pa_nil))) (pg_tup (by rfl) (pgs_cons (pg_sub (pv 0) pe_int set_list (fun _ => rfl)) (pgs_cons (pg_name (i := 4) nd rfl (.inl rfl)) pgs_nil))))
        (pss_one (ps_ret (pv 4)))) pss_nil)
      (pss_one (ps_ret (pe_op op_modN (pe_callTy call_int1 (by rfl) T.z_int bt_int (pa_cons (pe_op op_fdivN (pe_ix ix_list (pv 0) pe_int (fun _ _ => rfl)) pe_int) pa_nil)) (pv 1)))))))), ?_⟩
    refine ⟨_, rfl, p, _, 2, _, rfl, rfl, SqL.of hp, atI_nat (j := 2) rfl, _, _, rfl, rfl, ?_⟩
    refine ⟨_, rfl, p, _, 2, 2, rfl, rfl, hp, rfl, ?_⟩
    have hq1 : (upd H p (.lst ([V.int s0, .int d0, .int k0].set 2 (.int (k0 + 1))))) p = some (.lst [.int s0, .int d0, .int (k0 + 1)]) := upd_same
    have k1 : Kp (· = p) H (upd H p (.lst ([V.int s0, .int d0, .int k0].set 2 (.int (k0 + 1))))) := kp_set (M := (· = p)) rfl hp ns_lst
    generalize upd H p (.lst ([V.int s0, .int d0, .int k0].set 2 (.int (k0 + 1)))) = H1 at hq1 k1
    refine ⟨_, rfl, p, _, 0, _, rfl, rfl, SqL.of hq1, atI_nat (j := 0) rfl, .inl ⟨s0, rfl, ?_⟩⟩
    refine ⟨_, rfl, _, rfl, .inl ⟨s0, rfl, s0, 40009, rfl, rfl, (show (40009 : Int) ≠ 0 by decide), _, _, rfl, rfl, s0, _, rfl, rfl, .inl ⟨by omega, by omega⟩, ?_⟩⟩
    refine ⟨_, rfl, _, rfl, p, _, 2, _, rfl, rfl, SqL.of hq1, atI_nat (j := 2) rfl, 91033, (k0 + 1), rfl, rfl, .inl ⟨by decide, by decide⟩, _, _, rfl, rfl, _, _, rfl, rfl, .inl ⟨_, rfl, _, 2147483399, rfl, rfl, m31, ?_⟩⟩
    have hs0 := fun x : Int => Int.fmod_nonneg_of_pos x (show (0 : Int) < 2147483399 by decide)
    have hs1 := fun x : Int => Int.fmod_lt_of_pos x (show (0 : Int) < 2147483399 by decide)
    refine ⟨_, rfl, p, _, 0, 0, rfl, rfl, hq1, rfl, ?_⟩
    have hq2 : (upd H1 p (.lst ([V.int s0, .int d0, .int (k0 + 1)].set 0 (.int ((s0 * (s0.fmod 40009 + 28001) + 91033 * (k0 + 1) + 17).fmod 2147483399))))) p = some (.lst [.int ((s0 * (s0.fmod 40009 + 28001) + 91033 * (k0 + 1) + 17).fmod 2147483399), .int d0, .int (k0 + 1)]) := upd_same
    have k2 : Kp (· = p) H (upd H1 p (.lst ([V.int s0, .int d0, .int (k0 + 1)].set 0 (.int ((s0 * (s0.fmod 40009 + 28001) + 91033 * (k0 + 1) + 17).fmod 2147483399))))) := k1.trans (kp_set (M := (· = p)) rfl hq1 ns_lst)
    refine ⟨_, rfl, p, _, 1, _, rfl, rfl, SqL.of hq2, atI_nat (j := 1) rfl, _, _, rfl, rfl, _, rfl, ?_⟩
    by_cases hd : d0 > 0
    · refine ifT (decide_eq_true hd) ?_
      refine ⟨_, rfl, p, _, 1, _, rfl, rfl, SqL.of hq2, atI_nat (j := 1) rfl, _, rfl, d0, m, rfl, ⟨hm, by omega⟩, fun t nt => ?_⟩
      have st := same_new (o := .tup [.int (d0 / m), .int (d0 % m)]) nt
      refine ⟨t, _, rfl, SqT.of upd_same, rfl, _, _, rfl, ?_⟩
      refine ⟨_, rfl, p, _, 1, 1, rfl, rfl, st _ _ hq2, rfl, _, _, rfl, rfl, ?_⟩
      have e : d0 % m = ((d0 % m).toNat : Int) := (Int.toNat_of_nonneg (Int.emod_nonneg _ (by omega))).symm
      have fin := q _ (d0 % m).toNat ((k2.trans (Same.kp st)).trans (kp_set (M := (· = p)) rfl (st _ _ hq2) ns_lst)) ⟨((s0 * (s0.fmod 40009 + 28001) + 91033 * (k0 + 1) + 17).fmod 2147483399), d0 / m, k0 + 1, upd_same, hs0 _, hs1 _, Int.ediv_nonneg h3 (by omega)⟩ (by rw [← e]; exact Int.emod_lt_of_pos _ hm)
      rw [← e] at fin
      exact ⟨_, rfl, fin⟩
    · refine ifF (decide_eq_false hd) ?_
      refine ⟨_, rfl, p, _, 0, _, rfl, rfl, SqL.of hq2, atI_nat (j := 0) rfl, ((s0 * (s0.fmod 40009 + 28001) + 91033 * (k0 + 1) + 17).fmod 2147483399), 64, rfl, rfl, ⟨by decide, by decide⟩, .inl ⟨_, rfl, _, rfl, _, m, rfl, rfl, by omega, ?_⟩⟩
      have h0 := Int.fmod_nonneg_of_pos (((s0 * (s0.fmod 40009 + 28001) + 91033 * (k0 + 1) + 17).fmod 2147483399).fdiv 64) hm
      have h1 := Int.fmod_lt_of_pos (((s0 * (s0.fmod 40009 + 28001) + 91033 * (k0 + 1) + 17).fmod 2147483399).fdiv 64) hm
      have fin := q _ ((((s0 * (s0.fmod 40009 + 28001) + 91033 * (k0 + 1) + 17).fmod 2147483399).fdiv 64).fmod m).toNat k2 ⟨((s0 * (s0.fmod 40009 + 28001) + 91033 * (k0 + 1) + 17).fmod 2147483399), d0, k0 + 1, hq2, hs0 _, hs1 _, h3⟩ (by rw [Int.toNat_of_nonneg h0]; exact h1)
      rw [Int.toNat_of_nonneg h0] at fin
      exact fin
end
end K

set_option Elab.async false
set_option linter.all false
set_option maxRecDepth 100000
set_option maxHeartbeats 4000000
/-! KL2: the law's draws: names, tags, labels. -/
namespace K
open PySem PySem.Spec PyProof.Rows L2 He TL LamX
theorem kp_none {H H' : Hp} {p x : Addr} (k : Kp (· = p) H H') (hx : H' x = none) (hp : PurseAt H p) (hp' : PurseAt H' p) : H x = none := by
  cases e : H x with
  | none => rfl
  | some o =>
    by_cases z : x = p
    · obtain ⟨_, _, _, h, _⟩ := hp'
      rw [z, h] at hx; cases hx
    · have := k x o e (.inl z)
      rw [hx] at this; cases this
theorem Kp.trans' {H H1 : Hp} {p D : Addr} {xs : List V} (a : Kp (· = p) H H1) (nD : H D = none) : Kp (· = p) H (upd H1 D (.lst xs)) := fun b o e n => by
  rw [upd_ne (ne_of_none e nD)]
  exact a b o e n
theorem lc_draw {J : It} {n : Nat} {Y : Nat → Hp → V → Hp → Prop} (w : Walk J n (fun _ => True) Y) {g : TG} {tt : TT} {te : TE} {vs : List Nat} {σ : L2.St} {H1 : Hp} {D p : Addr} {Qd : Hp → Prop} (Ry : Nat → V → Prop) (hz : n < sizeLine) (nD : H1 D = none) (hp : PurseAt H1 p)
    (hs : ∀ i x H H' (R : V → Hp → Prop) (N : Hp → Prop), i < n → Kp (· = p) H1 H → PurseAt H p → Y i H x H' → (∀ y H4, Kp (· = p) H H4 → PurseAt H4 p → Ry i y → R y H4) →
      g x (wipe σ vs) H' fun σ2 H2 => wipe σ2 vs = wipe σ vs ∧ tt σ2 H2 fun b H3 => if b = true then te σ2 H3 R else N H3)
    (hd : ∀ H ys, Kp (· = p) H1 H → PurseAt H p → H D = some (.lst ys) → ys.length = n → (∀ (i : Nat) (y : V), ys[i]? = some y → Ry i y) → Qd H) :
    ∃ W : Nat → Nat → Hp → Prop, (∃ m, W 0 m (upd H1 D (.lst []))) ∧ ∀ i m H, W i m H →
      (J.stop i H ∧ Qd H) ∨ (J.go i H ∧ ∃ Nx : Hp → Prop, (∀ H', Nx H' → ∃ m', m' < m ∧ W (i + 1) m' H') ∧ ∀ x H', J.yld i H x H' → g x (wipe σ vs) H' fun σ2 H2 => wipe σ2 vs = wipe σ vs ∧ tt σ2 H2 fun b H3 =>
        if b = true then te σ2 H3 fun y H4 => ∃ acc, H4 D = some (.lst acc) ∧ acc.length < sizeLine ∧ Nx (upd H4 D (.lst (acc ++ [y]))) else Nx H3) := by
  have neD : D ≠ p := fun z => by
    obtain ⟨_, _, _, h, _⟩ := hp
    rw [z, h] at nD; cases nD
  refine lc_it w (fun i H => Kp (· = p) H1 H ∧ PurseAt H p ∧ ∃ acc, H D = some (.lst acc) ∧ acc.length = i ∧ ∀ (j : Nat) (y : V), acc[j]? = some y → Ry j y) ⟨Same.kp (same_new nD), hp.same (same_new nD), [], upd_same, rfl, fun i y h => by simp at h⟩ (fun _ _ _ _ => trivial) (fun i x H H' hi q y => ?_) (fun H q => ?_)
  · obtain ⟨q1, q2, acc, q3, q4, q5⟩ := q
    refine hs i x H H' _ _ hi q1 q2 y fun v H4 k4 p4 ry => ?_
    have hD4 := k4 _ _ q3 (.inl neD)
    refine ⟨acc, hD4, by omega, ((q1.trans k4)).trans' nD, ?_, acc ++ [v], upd_same, by simp [q4], fun j z hj => ?_⟩
    · obtain ⟨s, d, k, a, b⟩ := p4
      exact ⟨s, d, k, by rw [upd_ne (Ne.symm neD)]; exact a, b⟩
    · by_cases hlt : j < acc.length
      · rw [List.getElem?_append_left hlt] at hj
        exact q5 j z hj
      · rw [List.getElem?_append_right (by omega)] at hj
        cases hjj : j - acc.length with
        | zero => rw [hjj] at hj; cases hj; have : j = i := by omega
                  subst this; exact ry
        | succ k => rw [hjj] at hj; simp at hj
  · obtain ⟨q1, q2, acc, q3, q4, q5⟩ := q
    exact hd H acc q1 q2 q3 q4 q5
theorem joinL_nil : ∀ ps : List (List Nat), joinL [] ps = ps.flatten
  | [] => rfl
  | [p] => by simp [joinL]
  | p :: q :: r => by
    show p ++ ([] ++ joinL [] (q :: r)) = _
    rw [List.nil_append, joinL_nil (q :: r)]
    rfl
theorem join_digits (ds : List Nat) : Txt.join (Str.ofString "") (ds.map fun d => mk [d]) = mk ds := by
  refine ext_tl ?_
  rw [join_eq, tl_join, tl_lit, show L "" = [] by decide +kernel, joinL_nil, List.map_map, tl_mk']
  induction ds with
  | nil => rfl
  | cons d ds ih => simp only [List.map_cons, List.flatten_cons, ih]; rfl
theorem lets (r : Nat) (h : r < 25) : ∃ c, lettersL[r]? = some c ∧ c ∈ lettersL := by
  have hl : lettersL.length = 25 := by decide +kernel
  exact ⟨lettersL[r], List.getElem?_eq_getElem (by omega), List.getElem_mem _⟩
theorem digs (r : Nat) (h : r < 10) : ∃ c, digitsL[r]? = some c ∧ c ∈ digitsL := by
  have hl : digitsL.length = 10 := by decide +kernel
  exact ⟨digitsL[r], List.getElem?_eq_getElem (by omega), List.getElem_mem _⟩
theorem isName_mk {c : Nat} {ds : List Nat} (h1 : c ∈ lettersL) (h2 : ds.length ≤ 3) (h3 : ∀ d ∈ ds, d ∈ digitsL) : isNameL (c :: ds) = true := by
  show (decide (ds.length ≤ 3) && (decide (c ∈ lettersL) && ds.all fun d => decide (d ∈ digitsL))) = true
  rw [decide_eq_true h2, decide_eq_true h1]
  simp only [Bool.true_and, List.all_eq_true, decide_eq_true_eq]
  exact h3
/-- a list of values that are each of some kind, as a list of that kind -/
theorem vals_map {α : Type} {f : α → V} {p : α → Prop} : ∀ {ys : List V}, (∀ (i : Nat) (y : V), ys[i]? = some y → ∃ a, p a ∧ y = f a) → ∃ as : List α, ys = as.map f ∧ ∀ a ∈ as, p a
  | [], _ => ⟨[], rfl, fun a h => by cases h⟩
  | y :: ys, h => by
    obtain ⟨a, pa, rfl⟩ := h 0 y rfl
    obtain ⟨as, e, pas⟩ := vals_map (ys := ys) fun i y hy => h (i + 1) y hy
    exact ⟨a :: as, by rw [e]; rfl, fun b hb => by
      rcases List.mem_cons.mp hb with z | z
      · rw [z]; exact pa
      · exact pas b z⟩
theorem ix_listK {X : Cx} {Kf : PySem.W.Frag} (hK : X.K = Kf := by rfl) : IxR X (fun x y H Q => ∃ p xs i v, x = .ref p ∧ y = .int i ∧ SqL Kf H p xs ∧ (atI xs i = some v) ∧ Q v H) := by
  subst hK
  exact ix_list
section
variable {P : Program} {w : World} {K : PySem.W.Frag} {mg : Str → Option Value} {base : Heap}
def spName : Sp := fun vs H Q _ => ∃ p : Addr, vs = [.ref p] ∧ PurseAt H p ∧ ∀ H' (n : Nm), Kp (· = p) H H' → PurseAt H' p → isNameL n = true → Q (.str (mk n)) H'
theorem ok_law_name (T : Tx K mg w) : Ok1 P w K mg base 2 "_law_name" ["_law_purse_here"] spName := by
  have nd := sc_law_name.nd
  refine T.d_law_name.mk sc_law_name bn_law_name (fun vs H Q E h => ?_) (fun cdv A outer s H vs Q E hr h => ?_)
  · obtain ⟨p, rfl, _⟩ := h
    rfl
  · obtain ⟨p, rfl, hp, q⟩ := h
    refine ⟨_, pss_cons (ps_set (i := 1) nd rfl (.inl rfl) (pe_ix ix_str pe_str (pe_g (ok_law_take T) hr (pa_cons (pv 0) (pa_cons pe_int pa_nil))) (fun _ _ => rfl)))
      (pss_cons (ps_if (pt_cmpR op_eq (pe_g (ok_law_take T) hr (pa_cons (pv 0) (pa_cons pe_int pa_nil))) pe_int (nomark _)) (pss_one (ps_ret (pv 1))) pss_nil)
      (pss_cons (ps_set (i := 2) nd rfl (.inl rfl) (pe_op op_add pe_int (pe_g (ok_law_take T) hr (pa_cons (pv 0) (pa_cons pe_int pa_nil)))))
      (pss_one (ps_ret (pe_op op_add_str (pv 1) (pe_join pe_str (pe_lc (own := [("_law_k", 3)]) (g := gName 3) (tt := tYes) rfl nd (pi_range1 rfl T.z_range (pa_cons (pv 2) pa_nil)) (blkOk_by (N := ["_law_purse_here", "_law_letter", "_law_many", "_law_k"]) (sc := defScope s_law_name) (by decide +kernel))
          (fun _ _ _ _ _ => pg_name (i := 3) nd rfl (Or.inl rfl)) (fun _ _ _ _ _ => pts_nil) (fun _ _ _ _ _ => pe_ix ix_str pe_str (pe_g (ok_law_take T) hr (pa_cons (pv 0) (pa_cons pe_int pa_nil))) (fun _ _ => rfl))))))))), ?_⟩
    refine ⟨_, rfl, p, 25, rfl, hp, by decide, by decide, fun H1 r1 k1 p1 h1 => ?_⟩
    obtain ⟨c, hc1, hc2⟩ := lets r1 (by omega)
    refine ⟨Str.ofString "abcdefghijklmnopqrstuvwyz", r1, c, rfl, rfl, by decide +kernel, atI_nat (j := r1) hc1, ?_⟩
    refine ⟨_, rfl, p, 2, rfl, p1, by decide, by decide, fun H2 r2 k2 p2 h2 => ?_⟩
    have k02 := k1.trans k2
    refine ⟨rfl, _, rfl, ?_⟩
    by_cases hr0 : r2 = 0
    · subst hr0
      refine ifT (by decide +kernel) ?_
      exact ⟨_, rfl, q H2 [c] k02 p2 (isName_mk hc2 (by decide) (fun d h => by cases h))⟩
    · refine ifF (decide_eq_false fun z => by injection z with z; omega) ?_
      refine ⟨_, rfl, p, 3, rfl, p2, by decide, by decide, fun H3 r3 k3 p3 h3 => ?_⟩
      have k03 := k02.trans k3
      refine ⟨1, (r3 : Int), rfl, rfl, ?_⟩
      refine ⟨_, rfl, ⟨_, rfl⟩, _, rfl, 1 + (r3 : Int), rfl, by omega, by omega, fun D nD => ?_⟩
      refine lc_draw walk_range (fun _ y => ∃ d, d ∈ digitsL ∧ y = .str (mk [d])) (small1000 (by omega)) nD p3 (fun i x H4 H5 R N hi k4 p4 hy hR => ?_) (fun H4 ys k4 p4 hD hl hat => ?_)
      · obtain ⟨rfl, rfl⟩ := hy
        refine ⟨rfl, ?_⟩
        refine yes_if ?_
        refine ⟨_, rfl, p, 10, rfl, p4, by decide, by decide, fun H6 r6 k6 p6 h6 => ?_⟩
        obtain ⟨d, hd1, hd2⟩ := digs r6 (by omega)
        exact ⟨Str.ofString "0123456789", r6, d, rfl, rfl, by decide +kernel, atI_nat (j := r6) hd1, hR _ _ k6 p6 ⟨d, hd2, rfl⟩⟩
      · obtain ⟨ds, rfl, hds⟩ := vals_map hat
        rw [List.length_map] at hl
        have hl3 : ds.length ≤ 3 := by omega
        have e : ds.map (fun d => V.str (mk [d])) = (ds.map fun d => mk [d]).map V.str := by rw [List.map_map]; rfl
        rw [e] at hD
        refine ⟨Str.ofString "", D, ds.map fun d => mk [d], rfl, rfl, .inl (SqL.of hD), ?_, ?_⟩
        · rw [List.map_map, List.length_map, show (Str.ofString "").length = 0 by decide +kernel, Nat.mul_zero, Nat.add_zero]
          have : ∀ l : List Nat, (l.map (Str.length ∘ fun d => mk [d])).sum = l.length := fun l => by
            induction l with
            | nil => rfl
            | cons a l ih =>
              rw [List.map_cons, List.sum_cons, ih, List.length_cons]
              show (mk [a]).length + l.length = l.length + 1
              rw [len_mk]; simp; omega
          rw [this]; omega
        · rw [join_digits]
          refine ⟨mk [c], mk ds, rfl, rfl, ?_, ?_⟩
          · rw [len_mk, len_mk]
            exact small_line (show 1 + ds.length ≤ 1000 by omega)
          · show Q (.str (mk [c] ++ mk ds)) H4
            rw [mk_app]
            exact q H4 (c :: ds) (k03.trans k4) p4 (isName_mk hc2 hl3 hds)
/-- the tags stand in a list of their own -/
def TagsAt (H : Hp) (t p : Addr) (tags : List Nm) : Prop := t ≠ p ∧ H t = some (.lst (tags.map fun n => V.str (mk n))) ∧ NamesL tags ∧ 1 ≤ tags.length ∧ tags.length ≤ 4
theorem TagsAt.kp {H H' : Hp} {t p : Addr} {tags : List Nm} (k : Kp (· = p) H H') (h : TagsAt H t p tags) : TagsAt H' t p tags := ⟨h.1, k _ _ h.2.1 (.inl h.1), h.2.2⟩
def spTags : Sp := fun vs H Q _ => ∃ p : Addr, vs = [.ref p] ∧ PurseAt H p ∧ ∀ H' t tags, Kp (· = p) H H' → PurseAt H' p → H t = none → TagsAt H' t p tags → Q (.ref t) H'
theorem ok_law_tags (T : Tx K mg w) : Ok1 P w K mg base 3 "_law_tags" ["_law_purse_here"] spTags := by
  have nd := sc_law_tags.nd
  refine T.d_law_tags.mk sc_law_tags bn_law_tags (fun vs H Q E h => ?_) (fun cdv A outer s H vs Q E hr h => ?_)
  · obtain ⟨p, rfl, _⟩ := h
    rfl
  · obtain ⟨p, rfl, hp, q⟩ := h
    refine ⟨_, pss_cons (ps_par (i := 1) (j := 2) (by rfl) nd rfl rfl (by decide) rfl rfl (pa_cons (pe_op op_add pe_int (pe_g (ok_law_take T) (hr.mono (by decide)) (pa_cons (pv 0) (pa_cons pe_int pa_nil)))) (pa_cons (pe_cmpR op_eq (pe_g (ok_law_take T) (hr.mono (by decide)) (pa_cons (pv 0) (pa_cons pe_int pa_nil))) pe_int (nomark _)) pa_nil)) (by rfl))
      (pss_cons (ps_set (i := 3) nd rfl (.inr rfl) (pe_lc (own := [("_law_k", 4)]) (g := gName 4) (tt := tYes) rfl nd (pi_range1 rfl T.z_range (pa_cons (pv 1) pa_nil)) (blkOk_by (N := ["_law_purse_here", "_law_many", "_law_alike", "_law_tags_here", "_law_k", "_law_tag"]) (sc := defScope s_law_tags) (by decide +kernel))
          (fun _ _ _ _ _ => pg_name (i := 4) nd rfl (Or.inl rfl)) (fun _ _ _ _ _ => pts_nil) (fun _ _ _ _ _ => pe_g (ok_law_name T) hr (pa_cons (pv 0) pa_nil))))
      (pss_one (ps_ret (pe_ifExp (pt_val (pv 2)) (pe_lc (own := [("_law_tag", 5)]) (g := gName 5) (tt := tYes) rfl nd (pi_list (pv 3)) (blkOk_by (N := ["_law_purse_here", "_law_many", "_law_alike", "_law_tags_here", "_law_k", "_law_tag"]) (sc := defScope s_law_tags) (by decide +kernel))
          (fun _ _ _ _ _ => pg_name (i := 5) nd rfl (Or.inl rfl)) (fun _ _ _ _ _ => pts_nil) (fun _ _ _ _ _ => pe_op op_add_str (pe_ix ix_str (pe_ix (ix_listK (Kf := K)) (pv 3) pe_int (fun _ _ => rfl)) pe_int (fun _ _ => rfl)) (pe_slice sl_str (pv 5) (po_some pe_int) po_none))) (pv 3))))), ?_⟩
    refine ⟨_, rfl, p, 4, rfl, hp, by decide, by decide, fun H1 r1 k1 p1 h1 => ⟨1, (r1 : Int), rfl, rfl, ?_⟩⟩
    refine ⟨_, rfl, p, 3, rfl, p1, by decide, by decide, fun H2 r2 k2 p2 h2 => ⟨rfl, _, _, rfl, ?_⟩⟩
    have k02 := k1.trans k2
    refine ⟨_, rfl, 1 + (r1 : Int), rfl, by omega, by omega, fun D nD => ?_⟩
    refine lc_draw walk_range (fun _ y => ∃ n, isNameL n = true ∧ y = .str (mk n)) (small1000 (by omega)) nD p2 (fun i x H4 H5 R N hi k4 p4 hy hR => ?_) (fun H4 ys k4 p4 hD hl hat => ?_)
    · obtain ⟨rfl, rfl⟩ := hy
      refine ⟨rfl, ?_⟩
      refine yes_if ?_
      exact ⟨_, rfl, p, rfl, p4, fun H6 n k6 p6 hn => hR _ _ k6 p6 ⟨n, hn, rfl⟩⟩
    · obtain ⟨tags, rfl, ht⟩ := vals_map hat
      rw [List.length_map] at hl
      have k04 := k02.trans k4
      have nDp : D ≠ p := fun z => by
        obtain ⟨_, _, _, h, _⟩ := p2
        rw [z, h] at nD; cases nD
      have nD0 : H D = none := kp_none k02 nD hp p2
      refine ⟨_, rfl, _, rfl, ?_⟩
      cases hb : decide (V.int (r2 : Int) = V.int 0) with
      | false =>
        refine iteF ?_
        exact ⟨_, rfl, q H4 D tags k04 p4 nD0 ⟨nDp, hD, ht, by omega, by omega⟩⟩
      | true =>
        refine iteT ?_
        obtain ⟨n0, tl0, e0⟩ : ∃ n0 tl0, tags = n0 :: tl0 := by
          cases tags with
          | nil => simp at hl; omega
          | cons a b => exact ⟨a, b, rfl⟩
        have hn0 := ht n0 (by rw [e0]; exact List.mem_cons_self)
        obtain ⟨c, ds, rfl⟩ : ∃ c ds, n0 = c :: ds := by
          cases n0 with
          | nil => cases hn0
          | cons a b => exact ⟨a, b, rfl⟩
        have hc : c ∈ lettersL := by
          unfold isNameL at hn0
          simp only [Bool.and_eq_true, decide_eq_true_eq] at hn0
          exact hn0.2.1
        refine ⟨_, rfl, D, rfl, ⟨_, SqL.of hD⟩, fun D2 nD2 => ?_⟩
        have nDD : D2 ≠ D := fun z => by rw [z, hD] at nD2; cases nD2
        have nD2p : D2 ≠ p := fun z => by
          obtain ⟨_, _, _, h, _⟩ := p4
          rw [z, h] at nD2; cases nD2
        refine lc_pure (walk_list (xs := tags.map fun n => V.str (mk n))) (tags.map fun n => V.str (mk (c :: n.tail))) (by simp) (by rw [List.length_map]; exact small1000 (by omega)) nD2 (fun H5 s5 => SqL.of (s5 _ _ hD)) (fun i y H5 H6 R N hi s5 hy hR => ?_) (fun H5 s5 eD => ?_)
        · obtain ⟨rfl, hy⟩ := hy
          rw [List.getElem?_map] at hy
          cases hti : tags[i]? with
          | none => rw [hti] at hy; cases hy
          | some n =>
            rw [hti] at hy
            cases hy
            have hn := ht n (List.mem_of_getElem? hti)
            have hnl := (isNameL_len hn).1
            refine ⟨rfl, ?_⟩
            refine yes_if ?_
            refine ⟨_, rfl, D, _, 0, .str (mk (c :: ds)), rfl, rfl, SqL.of (s5 _ _ hD), atI_nat (j := 0) (by rw [e0]; rfl), ?_⟩
            refine ⟨mk (c :: ds), 0, c, rfl, rfl, by rw [len_mk]; exact small_line (by have := (isNameL_len hn0).1; omega), atI_nat (j := 0) rfl, ?_⟩
            refine ⟨_, rfl, 1, rfl, mk n, rfl, by rw [len_mk]; exact small_line (by omega), ?_⟩
            have ecut : cutS (mk n) (some 1) none = mk n.tail := by
              refine ext_tl ?_
              have hz : 1 ≤ n.length := by cases n with
                | nil => cases hn
                | cons a b => simp
              have h1 : HT.sIx (mk n).length 0 (some 1) = 1 := by
                rw [show ((1 : Int)) = ((1 : Nat) : Int) from rfl, HT.sIx_nat, len_mk]; omega
              show ((tl (mk n)).drop (HT.sIx (mk n).length 0 (some 1))).take (HT.sIx (mk n).length (mk n).length none - HT.sIx (mk n).length 0 (some 1)) = _
              rw [h1, HT.sIx_none, len_mk, tl_mk', tl_mk']
              rw [List.take_of_length_le (by rw [List.length_drop]; omega), List.drop_one]
            rw [ecut]
            refine ⟨mk [c], mk n.tail, rfl, rfl, ?_, ?_⟩
            · rw [len_mk, len_mk, List.length_tail]
              exact small_line (show 1 + (n.length - 1) ≤ 1000 by omega)
            · refine hR _ _ ?_ (Same.refl _)
              rw [List.getElem?_map, hti]
              show some (V.str (mk (c :: n.tail))) = some (V.str (mk [c] ++ mk n.tail))
              rw [mk_app]; rfl
        · refine q H5 D2 (tags.map fun n => c :: n.tail) (k04.trans (Same.kp s5)) (p4.same s5) (kp_none k04 nD2 hp p4) ⟨nD2p, by rw [eD, List.map_map]; rfl, fun n hn => ?_, by rw [List.length_map]; omega, by rw [List.length_map]; omega⟩
          obtain ⟨m, hm, rfl⟩ := List.mem_map.mp hn
          have hm1 := ht m hm
          cases m with
          | nil => cases hm1
          | cons a b =>
            unfold isNameL at hm1
            simp only [Bool.and_eq_true, decide_eq_true_eq, List.all_eq_true] at hm1
            exact isName_mk hc hm1.1 hm1.2.2
def spLabels : Sp := fun vs H Q _ => vs = [] ∧ ∀ H' l, Same H H' → H' l = some (.lst (kindsAll.map V.str)) → Q (.ref l) H'
theorem ok_law_labels (T : Tx K mg w) : Ok1 P w K mg base 1 "_law_labels" [] spLabels := by
  refine T.d_law_labels.mk sc_law_labels bn_law_labels (fun vs H Q E h => by rw [h.1]; rfl) (fun cdv A outer s H vs Q E hr h => ?_)
  obtain ⟨rfl, q⟩ := h
  refine ⟨_, pss_one (ps_ret (pe_lst (pa_cons pe_str (pa_cons pe_str (pa_cons pe_str (pa_cons pe_str (pa_cons pe_str (pa_cons pe_str (pa_cons pe_str (pa_cons pe_str (pa_cons pe_str (pa_cons pe_str (pa_cons pe_str pa_nil))))))))))))), ?_⟩
  exact ⟨by decide, fun l nl => q _ l (same_new nl) upd_same⟩
end
end K

set_option Elab.async false
set_option linter.all false
set_option maxRecDepth 100000
set_option maxHeartbeats 4000000
/-! KL3: the law's draws: details, parts. -/
namespace K
open PySem PySem.Spec PyProof.Rows L2 He TL LamX
def setNow (b : Bool) : SgL → SgL
  | .each w _ => .each w b
  | .ask k t _ => .ask k t b
  | .first n _ => .first n b
  | .skip n _ => .skip n b
  | .every k r _ => .every k r b
  | .last n => .last n
  | .but n => .but n
  | .turned => .turned
theorem setNow_kind (b : Bool) (sg : SgL) : kindS (setNow b sg) = kindS sg := by
  cases sg with
  | ask k t c => cases k <;> rfl
  | _ => rfl
theorem setNow_det {K : PySem.W.Frag} {H : Hp} {v : V} (b : Bool) {sg : SgL} (h : DetAt K H sg v) : DetAt K H (setNow b sg) v := by cases sg <;> exact h
theorem setNow_ok (b : Bool) {sg : SgL} (h : SgOk sg) : SgOk (setNow b sg) := by cases sg <;> exact h
theorem setNow_now (b : Bool) (sg : SgL) : (setNow b sg).now = (b || sg.isList) := by cases sg <;> simp [setNow, Sg.now, Sg.isList]
theorem setNow_list (b : Bool) (sg : SgL) : (setNow b sg).isList = sg.isList := by cases sg <;> rfl
theorem setNow_names (b : Bool) (sg : SgL) : sgNames (setNow b sg) = sgNames sg := by cases sg <;> rfl
/-- a sample of each kind -/
def samp : Nat → SgL
  | 0 => .each [] false
  | 1 => .ask .keep [] false
  | 2 => .ask .drop [] false
  | 3 => .ask .whl [] false
  | 4 => .ask .frm [] false
  | 5 => .first 0 false
  | 6 => .skip 0 false
  | 7 => .every 1 0 false
  | 8 => .last 1
  | 9 => .but 1
  | _ => .turned
theorem kinds_at {r : Nat} (h : r < 11) : kindsAll[r]? = some (kindS (samp r)) := by
  match r, h with
  | 0, _ => rfl
  | 1, _ => rfl
  | 2, _ => rfl
  | 3, _ => rfl
  | 4, _ => rfl
  | 5, _ => rfl
  | 6, _ => rfl
  | 7, _ => rfl
  | 8, _ => rfl
  | 9, _ => rfl
  | 10, _ => rfl
section
variable {P : Program} {w : World} {K : PySem.W.Frag} {mg : Str → Option Value} {base : Heap}
def spDetail (K : PySem.W.Frag) : Sp := fun vs H Q _ => ∃ (p t : Addr) (tags : List Nm) (s0 : SgL), vs = [.ref p, .ref t, .str (kindS s0)] ∧ PurseAt H p ∧ TagsAt H t p tags ∧
  ∀ H' v sg, Kp (· = p) H H' → PurseAt H' p → kindS sg = kindS s0 → DetAt K H' sg v → SgOk sg → (∀ n ∈ sgNames sg, n ∈ tags) → Q v H'
theorem ok_law_detail (T : Tx K mg w) : Ok1 P w K mg base 2 "_law_detail" ["_law_purse_here", "_law_tags_here", "_law_label"] (spDetail K) := by
  have nd := sc_law_detail.nd
  refine T.d_law_detail.mk sc_law_detail bn_law_detail (fun vs H Q E h => ?_) (fun cdv A outer s H vs Q E hr h => ?_)
  · obtain ⟨p, t, tags, s0, rfl, _⟩ := h
    rfl
  · obtain ⟨p, t, tags, s0, rfl, hp, ht, q⟩ := h
    have tk := ok_law_take (P := P) (base := base) T
    refine ⟨_, pss_cons (ps_if (pt_cmpR op_eq (pv 2) pe_str (nomark _)) (pss_one (ps_ret pe_non)) pss_nil)
      (pss_cons (ps_set (i := 3) nd rfl (.inl rfl) (pe_cmpR op_gt (pe_g tk hr (pa_cons (pv 0) (pa_cons pe_int pa_nil))) pe_int (nomark _)))
      (pss_cons (ps_if (pt_cmpR op_eq (pv 2) pe_str (nomark _)) (pss_cons (ps_set (i := 4) nd rfl (.inl rfl) (pe_op op_add pe_int (pe_g tk hr (pa_cons (pv 0) (pa_cons (pe_ifExp (pt_val (pv 3)) pe_int pe_int) pa_nil))))) (pss_one (ps_ret (pe_tup (pa_cons (pv 4) (pa_cons (pe_g tk hr (pa_cons (pv 0) (pa_cons (pe_ifExp (pt_val (pv 3)) pe_int pe_int) pa_nil))) pa_nil)))))) pss_nil)
      (pss_cons (ps_if (pt_cmpR op_in_seq (pv 2) (pe_lst (pa_cons pe_str (pa_cons pe_str pa_nil))) (by rfl)) (pss_one (ps_ret (pe_g tk hr (pa_cons (pv 0) (pa_cons (pe_ifExp (pt_val (pv 3)) pe_int pe_int) pa_nil))))) pss_nil)
      (pss_cons (ps_if (pt_cmpR op_in_seq (pv 2) (pe_lst (pa_cons pe_str (pa_cons pe_str pa_nil))) (by rfl)) (pss_one (ps_ret (pe_op op_add pe_int (pe_g tk hr (pa_cons (pv 0) (pa_cons (pe_ifExp (pt_val (pv 3)) pe_int pe_int) pa_nil)))))) pss_nil)
      (pss_cons (ps_set (i := 5) nd rfl (.inl rfl) (pe_op op_add (pe_g tk hr (pa_cons (pv 0) (pa_cons (pe_ifExp (pt_val (pv 3)) pe_int pe_int) pa_nil))) (pe_callTy call_int1 (by rfl) T.z_int bt_int (pa_cons (pe_cmpR op_ne (pv 2) pe_str (nomark _)) pa_nil))))
      (pss_one (ps_ret (pe_callTy call_tuple_of (by rfl) T.z_tuple bt_tuple (pa_cons (pe_lc (own := [("_law_k", 6)]) (g := gName 6) (tt := tYes) rfl nd (pi_range1 rfl T.z_range (pa_cons (pv 5) pa_nil)) (blkOk_by (N := ["_law_purse_here", "_law_tags_here", "_law_label", "_law_small", "_law_by", "_law_many", "_law_k"]) (sc := defScope s_law_detail) (by decide +kernel))
          (fun _ _ _ _ _ => pg_name (i := 6) nd rfl (Or.inl rfl)) (fun _ _ _ _ _ => pts_nil) (fun _ _ _ _ _ => pe_ix (ix_listK (Kf := K)) (pv 1) (pe_g tk hr (pa_cons (pv 0) (pa_cons (pe_callB (len_seqK (Kf := K)) (by rfl) T.z_len bt_len (pa_cons (pv 1) pa_nil)) pa_nil))) (fun _ _ => rfl))) pa_nil))))))))), ?_⟩
    obtain ⟨htp, htl, htn, ht1, ht4⟩ := id ht
    refine ⟨_, rfl, rfl, _, rfl, ?_⟩
    cases hd : decide (V.str (kindS s0) = V.str (Str.ofString "turned")) with
    | true =>
      refine iteT ?_
      have e := of_decide_eq_true hd
      injection e with e
      refine q H .non .turned (Kp.refl _ _) hp (by rw [e]; rfl) rfl trivial (fun n h => by cases h)
    | false =>
      refine iteF ?_
      refine ⟨_, rfl, p, 3, rfl, hp, by decide, by decide, fun H1 r1 k1 p1 h1 => ⟨(r1 : Int), 0, rfl, rfl, ?_⟩⟩
      obtain ⟨sm, hsm⟩ : ∃ b, decide ((r1 : Int) > 0) = b := ⟨_, rfl⟩
      refine ⟨_, rfl, rfl, _, rfl, ?_⟩
      -- the names' branch, from the slots on
      have lst2 : ∀ (H2 : Hp) (a b : V), Kp (· = p) H H2 → PurseAt H2 p → ∀ l, H2 l = none → Kp (· = p) H (upd H2 l (.lst [a, b])) ∧ PurseAt (upd H2 l (.lst [a, b])) p := fun H2 a b k2 p2 l nl => ⟨k2.trans (Same.kp (same_new nl)), p2.same (same_new nl)⟩
      cases s0 with
      | turned => exact absurd hd (by show ¬ decide (V.str (Str.ofString "turned") = V.str (Str.ofString "turned")) = false; decide +kernel)
      | every a b c =>
        refine ifT (by show decide (V.str (Str.ofString "every") = V.str (Str.ofString "every")) = true; decide +kernel) ?_
        refine ⟨_, rfl, _, rfl, sm, congrArg V.bl hsm, ?_⟩
        cases sm
        all_goals
          first
          | refine iteT ?_
          | refine iteF ?_
          refine ⟨p, _, rfl, p1, by decide, by decide, fun H2 r2 k2 p2 h2 => ⟨1, (r2 : Int), rfl, rfl, ?_⟩⟩
          refine ⟨_, rfl, _, rfl, _, rfl, _, congrArg V.bl hsm, ?_⟩
          first
          | refine iteT ?_
          | refine iteF ?_
          refine ⟨p, _, rfl, p2, by decide, by decide, fun H3 r3 k3 p3 h3 => ⟨by show 2 ≤ sizeLine; decide, fun x nx => ?_⟩⟩
          have e1 : (1 : Int) + (r2 : Int) = ((r2 + 1 : Nat) : Int) := by omega
          refine q _ (.ref x) (.every (r2 + 1) r3 false) (((k1.trans k2).trans k3).trans (Same.kp (same_new nx))) (p3.same (same_new nx)) rfl ⟨x, rfl, SqT.of ?_⟩ ⟨by omega, by omega, by omega⟩ (fun n h => by cases h)
          rw [upd_same]
          show some (HO.tup [V.int (1 + (r2 : Int)), V.int (r3 : Int)]) = _
          rw [e1]
      | first a b =>
        refine ifF (by show decide (V.str (Str.ofString "first") = V.str (Str.ofString "every")) = false; decide +kernel) ?_
        refine ⟨_, rfl, by show 2 ≤ sizeLine; decide, fun l nl => ⟨l, _, rfl, .inl (SqL.of upd_same), rfl, rfl, _, rfl, ?_⟩⟩
        obtain ⟨kl, pl⟩ := lst2 H1 (.str "first") (.str "skip") k1 p1 l nl
        refine ifT (by show inV (V.str (Str.ofString "first")) [V.str (Str.ofString "first"), V.str (Str.ofString "skip")] = true; decide +kernel) ?_
        refine ⟨_, rfl, _, rfl, sm, congrArg V.bl hsm, ?_⟩
        cases sm
        all_goals
          first
          | refine iteT ?_
          | refine iteF ?_
          refine ⟨p, _, rfl, pl, by decide, by decide, fun H3 r3 k3 p3 h3 => ?_⟩
          exact q H3 (.int r3) (.first r3 false) (kl.trans k3) p3 rfl rfl (show r3 ≤ 9 by omega) (fun n h => by cases h)
      | skip a b =>
        refine ifF (by show decide (V.str (Str.ofString "skip") = V.str (Str.ofString "every")) = false; decide +kernel) ?_
        refine ⟨_, rfl, by show 2 ≤ sizeLine; decide, fun l nl => ⟨l, _, rfl, .inl (SqL.of upd_same), rfl, rfl, _, rfl, ?_⟩⟩
        obtain ⟨kl, pl⟩ := lst2 H1 (.str "first") (.str "skip") k1 p1 l nl
        refine ifT (by show inV (V.str (Str.ofString "skip")) [V.str (Str.ofString "first"), V.str (Str.ofString "skip")] = true; decide +kernel) ?_
        refine ⟨_, rfl, _, rfl, sm, congrArg V.bl hsm, ?_⟩
        cases sm
        all_goals
          first
          | refine iteT ?_
          | refine iteF ?_
          refine ⟨p, _, rfl, pl, by decide, by decide, fun H3 r3 k3 p3 h3 => ?_⟩
          exact q H3 (.int r3) (.skip r3 false) (kl.trans k3) p3 rfl rfl (show r3 ≤ 9 by omega) (fun n h => by cases h)
      | last a =>
        refine ifF (by show decide (V.str (Str.ofString "last") = V.str (Str.ofString "every")) = false; decide +kernel) ?_
        refine ⟨_, rfl, by show 2 ≤ sizeLine; decide, fun l nl => ⟨l, _, rfl, .inl (SqL.of upd_same), rfl, rfl, _, rfl, ?_⟩⟩
        obtain ⟨kl, pl⟩ := lst2 H1 (.str "first") (.str "skip") k1 p1 l nl
        refine ifF (by show inV (V.str (Str.ofString "last")) [V.str (Str.ofString "first"), V.str (Str.ofString "skip")] = false; decide +kernel) ?_
        refine ⟨_, rfl, by show 2 ≤ sizeLine; decide, fun l2 nl2 => ⟨l2, _, rfl, .inl (SqL.of upd_same), rfl, rfl, _, rfl, ?_⟩⟩
        obtain ⟨kl2, pl2⟩ := lst2 _ (.str "last") (.str "but last") kl pl l2 nl2
        refine ifT (by show inV (V.str (Str.ofString "last")) [V.str (Str.ofString "last"), V.str (Str.ofString "but last")] = true; decide +kernel) ?_
        refine ⟨_, rfl, _, rfl, sm, congrArg V.bl hsm, ?_⟩
        cases sm
        all_goals
          first
          | refine iteT ?_
          | refine iteF ?_
          refine ⟨p, _, rfl, pl2, by decide, by decide, fun H3 r3 k3 p3 h3 => ⟨1, (r3 : Int), rfl, rfl, ?_⟩⟩
          have e1 : (1 : Int) + (r3 : Int) = ((r3 + 1 : Nat) : Int) := by omega
          have fin := q H3 (.int ((r3 + 1 : Nat) : Int)) (.last (r3 + 1)) (kl2.trans k3) p3 rfl rfl ⟨by omega, by omega⟩ (fun n h => by cases h)
          rw [← e1] at fin
          exact fin
      | but a =>
        refine ifF (by show decide (V.str (Str.ofString "but last") = V.str (Str.ofString "every")) = false; decide +kernel) ?_
        refine ⟨_, rfl, by show 2 ≤ sizeLine; decide, fun l nl => ⟨l, _, rfl, .inl (SqL.of upd_same), rfl, rfl, _, rfl, ?_⟩⟩
        obtain ⟨kl, pl⟩ := lst2 H1 (.str "first") (.str "skip") k1 p1 l nl
        refine ifF (by show inV (V.str (Str.ofString "but last")) [V.str (Str.ofString "first"), V.str (Str.ofString "skip")] = false; decide +kernel) ?_
        refine ⟨_, rfl, by show 2 ≤ sizeLine; decide, fun l2 nl2 => ⟨l2, _, rfl, .inl (SqL.of upd_same), rfl, rfl, _, rfl, ?_⟩⟩
        obtain ⟨kl2, pl2⟩ := lst2 _ (.str "last") (.str "but last") kl pl l2 nl2
        refine ifT (by show inV (V.str (Str.ofString "but last")) [V.str (Str.ofString "last"), V.str (Str.ofString "but last")] = true; decide +kernel) ?_
        refine ⟨_, rfl, _, rfl, sm, congrArg V.bl hsm, ?_⟩
        cases sm
        all_goals
          first
          | refine iteT ?_
          | refine iteF ?_
          refine ⟨p, _, rfl, pl2, by decide, by decide, fun H3 r3 k3 p3 h3 => ⟨1, (r3 : Int), rfl, rfl, ?_⟩⟩
          have e1 : (1 : Int) + (r3 : Int) = ((r3 + 1 : Nat) : Int) := by omega
          have fin := q H3 (.int ((r3 + 1 : Nat) : Int)) (.but (r3 + 1)) (kl2.trans k3) p3 rfl rfl ⟨by omega, by omega⟩ (fun n h => by cases h)
          rw [← e1] at fin
          exact fin
      | each a b =>
        refine ifF (by show decide (V.str (Str.ofString "each") = V.str (Str.ofString "every")) = false; decide +kernel) ?_
        refine ⟨_, rfl, by show 2 ≤ sizeLine; decide, fun l nl => ⟨l, _, rfl, .inl (SqL.of upd_same), rfl, rfl, _, rfl, ?_⟩⟩
        obtain ⟨kl, pl⟩ := lst2 H1 (.str "first") (.str "skip") k1 p1 l nl
        refine ifF (by show inV (V.str (Str.ofString "each")) [V.str (Str.ofString "first"), V.str (Str.ofString "skip")] = false; decide +kernel) ?_
        refine ⟨_, rfl, by show 2 ≤ sizeLine; decide, fun l2 nl2 => ⟨l2, _, rfl, .inl (SqL.of upd_same), rfl, rfl, _, rfl, ?_⟩⟩
        obtain ⟨kl2, pl2⟩ := lst2 _ (.str "last") (.str "but last") kl pl l2 nl2
        refine ifF (by show inV (V.str (Str.ofString "each")) [V.str (Str.ofString "last"), V.str (Str.ofString "but last")] = false; decide +kernel) ?_
        refine ⟨_, rfl, _, rfl, sm, congrArg V.bl hsm, ?_⟩
        have eb : (!decide (V.str (Str.ofString "each") = V.str (Str.ofString "each"))) = false := by decide +kernel
        cases sm
        all_goals
          first
          | refine iteT ?_
          | refine iteF ?_
          refine ⟨p, _, rfl, pl2, by decide, by decide, fun H3 r3 k3 p3 h3 => ?_⟩
          refine ⟨_, rfl, rfl, .inr ⟨false, congrArg (fun b => [V.bl b]) eb, (r3 : Int), 0, rfl, rfl, ?_⟩⟩
          refine ⟨_, rfl, (r3 : Int) + 0, rfl, by omega, by omega, fun D nD => ?_⟩
          refine lc_draw walk_range (fun _ y => ∃ n, n ∈ tags ∧ y = .str (mk n)) (small1000 (by omega)) nD p3 (fun i x H4 H5 R N hi k4 p4 hy hR => ?_) (fun H4 ys k4 p4 hD hl hat => ?_)
          · obtain ⟨rfl, rfl⟩ := hy
            refine ⟨rfl, ?_⟩
            refine yes_if ?_
            have htx := (((ht.kp kl2).kp k3).kp k4).2.1
            refine ⟨_, rfl, _, rfl, _, rfl, t, _, rfl, .inl (SqL.of htx), p, (tags.length : Int), by rw [List.length_map]; rfl, p4, by omega, by omega, fun H6 r6 k6 p6 h6 => ?_⟩
            have htx6 := ((((ht.kp kl2).kp k3).kp k4).kp k6).2.1
            have hr6 : r6 < tags.length := by omega
            exact ⟨t, _, r6, .str (mk tags[r6]), rfl, rfl, SqL.of htx6, atI_nat (j := r6) (by rw [List.getElem?_map, List.getElem?_eq_getElem hr6]; rfl), hR _ _ k6 p6 ⟨tags[r6], List.getElem_mem hr6, rfl⟩⟩
          · obtain ⟨nm, rfl, hnm⟩ := vals_map hat
            rw [List.length_map] at hl
            refine ⟨D, _, rfl, .inl ⟨SqL.of hD, fun x nx => ?_⟩⟩
            refine q _ (.ref x) (.each nm false) (((kl2.trans k3).trans k4).trans (Same.kp (same_new nx))) (p4.same (same_new nx)) rfl ⟨x, rfl, SqT.of upd_same⟩ ⟨fun n hn => htn n (hnm n hn), by omega⟩ hnm
      | ask kk a b => cases kk with
       | keep =>
        refine ifF (by show decide (V.str (Str.ofString "keep") = V.str (Str.ofString "every")) = false; decide +kernel) ?_
        refine ⟨_, rfl, by show 2 ≤ sizeLine; decide, fun l nl => ⟨l, _, rfl, .inl (SqL.of upd_same), rfl, rfl, _, rfl, ?_⟩⟩
        obtain ⟨kl, pl⟩ := lst2 H1 (.str "first") (.str "skip") k1 p1 l nl
        refine ifF (by show inV (V.str (Str.ofString "keep")) [V.str (Str.ofString "first"), V.str (Str.ofString "skip")] = false; decide +kernel) ?_
        refine ⟨_, rfl, by show 2 ≤ sizeLine; decide, fun l2 nl2 => ⟨l2, _, rfl, .inl (SqL.of upd_same), rfl, rfl, _, rfl, ?_⟩⟩
        obtain ⟨kl2, pl2⟩ := lst2 _ (.str "last") (.str "but last") kl pl l2 nl2
        refine ifF (by show inV (V.str (Str.ofString "keep")) [V.str (Str.ofString "last"), V.str (Str.ofString "but last")] = false; decide +kernel) ?_
        refine ⟨_, rfl, _, rfl, sm, congrArg V.bl hsm, ?_⟩
        have eb : (!decide (V.str (Str.ofString "keep") = V.str (Str.ofString "each"))) = true := by decide +kernel
        cases sm
        all_goals
          first
          | refine iteT ?_
          | refine iteF ?_
          refine ⟨p, _, rfl, pl2, by decide, by decide, fun H3 r3 k3 p3 h3 => ?_⟩
          refine ⟨_, rfl, rfl, .inr ⟨true, congrArg (fun b => [V.bl b]) eb, (r3 : Int), 1, rfl, rfl, ?_⟩⟩
          refine ⟨_, rfl, (r3 : Int) + 1, rfl, by omega, by omega, fun D nD => ?_⟩
          refine lc_draw walk_range (fun _ y => ∃ n, n ∈ tags ∧ y = .str (mk n)) (small1000 (by omega)) nD p3 (fun i x H4 H5 R N hi k4 p4 hy hR => ?_) (fun H4 ys k4 p4 hD hl hat => ?_)
          · obtain ⟨rfl, rfl⟩ := hy
            refine ⟨rfl, ?_⟩
            refine yes_if ?_
            have htx := (((ht.kp kl2).kp k3).kp k4).2.1
            refine ⟨_, rfl, _, rfl, _, rfl, t, _, rfl, .inl (SqL.of htx), p, (tags.length : Int), by rw [List.length_map]; rfl, p4, by omega, by omega, fun H6 r6 k6 p6 h6 => ?_⟩
            have htx6 := ((((ht.kp kl2).kp k3).kp k4).kp k6).2.1
            have hr6 : r6 < tags.length := by omega
            exact ⟨t, _, r6, .str (mk tags[r6]), rfl, rfl, SqL.of htx6, atI_nat (j := r6) (by rw [List.getElem?_map, List.getElem?_eq_getElem hr6]; rfl), hR _ _ k6 p6 ⟨tags[r6], List.getElem_mem hr6, rfl⟩⟩
          · obtain ⟨nm, rfl, hnm⟩ := vals_map hat
            rw [List.length_map] at hl
            refine ⟨D, _, rfl, .inl ⟨SqL.of hD, fun x nx => ?_⟩⟩
            refine q _ (.ref x) (.ask .keep nm false) (((kl2.trans k3).trans k4).trans (Same.kp (same_new nx))) (p4.same (same_new nx)) rfl ⟨x, rfl, SqT.of upd_same⟩ ⟨fun n hn => htn n (hnm n hn), by omega, by omega⟩ hnm
       | drop =>
        refine ifF (by show decide (V.str (Str.ofString "drop") = V.str (Str.ofString "every")) = false; decide +kernel) ?_
        refine ⟨_, rfl, by show 2 ≤ sizeLine; decide, fun l nl => ⟨l, _, rfl, .inl (SqL.of upd_same), rfl, rfl, _, rfl, ?_⟩⟩
        obtain ⟨kl, pl⟩ := lst2 H1 (.str "first") (.str "skip") k1 p1 l nl
        refine ifF (by show inV (V.str (Str.ofString "drop")) [V.str (Str.ofString "first"), V.str (Str.ofString "skip")] = false; decide +kernel) ?_
        refine ⟨_, rfl, by show 2 ≤ sizeLine; decide, fun l2 nl2 => ⟨l2, _, rfl, .inl (SqL.of upd_same), rfl, rfl, _, rfl, ?_⟩⟩
        obtain ⟨kl2, pl2⟩ := lst2 _ (.str "last") (.str "but last") kl pl l2 nl2
        refine ifF (by show inV (V.str (Str.ofString "drop")) [V.str (Str.ofString "last"), V.str (Str.ofString "but last")] = false; decide +kernel) ?_
        refine ⟨_, rfl, _, rfl, sm, congrArg V.bl hsm, ?_⟩
        have eb : (!decide (V.str (Str.ofString "drop") = V.str (Str.ofString "each"))) = true := by decide +kernel
        cases sm
        all_goals
          first
          | refine iteT ?_
          | refine iteF ?_
          refine ⟨p, _, rfl, pl2, by decide, by decide, fun H3 r3 k3 p3 h3 => ?_⟩
          refine ⟨_, rfl, rfl, .inr ⟨true, congrArg (fun b => [V.bl b]) eb, (r3 : Int), 1, rfl, rfl, ?_⟩⟩
          refine ⟨_, rfl, (r3 : Int) + 1, rfl, by omega, by omega, fun D nD => ?_⟩
          refine lc_draw walk_range (fun _ y => ∃ n, n ∈ tags ∧ y = .str (mk n)) (small1000 (by omega)) nD p3 (fun i x H4 H5 R N hi k4 p4 hy hR => ?_) (fun H4 ys k4 p4 hD hl hat => ?_)
          · obtain ⟨rfl, rfl⟩ := hy
            refine ⟨rfl, ?_⟩
            refine yes_if ?_
            have htx := (((ht.kp kl2).kp k3).kp k4).2.1
            refine ⟨_, rfl, _, rfl, _, rfl, t, _, rfl, .inl (SqL.of htx), p, (tags.length : Int), by rw [List.length_map]; rfl, p4, by omega, by omega, fun H6 r6 k6 p6 h6 => ?_⟩
            have htx6 := ((((ht.kp kl2).kp k3).kp k4).kp k6).2.1
            have hr6 : r6 < tags.length := by omega
            exact ⟨t, _, r6, .str (mk tags[r6]), rfl, rfl, SqL.of htx6, atI_nat (j := r6) (by rw [List.getElem?_map, List.getElem?_eq_getElem hr6]; rfl), hR _ _ k6 p6 ⟨tags[r6], List.getElem_mem hr6, rfl⟩⟩
          · obtain ⟨nm, rfl, hnm⟩ := vals_map hat
            rw [List.length_map] at hl
            refine ⟨D, _, rfl, .inl ⟨SqL.of hD, fun x nx => ?_⟩⟩
            refine q _ (.ref x) (.ask .drop nm false) (((kl2.trans k3).trans k4).trans (Same.kp (same_new nx))) (p4.same (same_new nx)) rfl ⟨x, rfl, SqT.of upd_same⟩ ⟨fun n hn => htn n (hnm n hn), by omega, by omega⟩ hnm
       | whl =>
        refine ifF (by show decide (V.str (Str.ofString "while") = V.str (Str.ofString "every")) = false; decide +kernel) ?_
        refine ⟨_, rfl, by show 2 ≤ sizeLine; decide, fun l nl => ⟨l, _, rfl, .inl (SqL.of upd_same), rfl, rfl, _, rfl, ?_⟩⟩
        obtain ⟨kl, pl⟩ := lst2 H1 (.str "first") (.str "skip") k1 p1 l nl
        refine ifF (by show inV (V.str (Str.ofString "while")) [V.str (Str.ofString "first"), V.str (Str.ofString "skip")] = false; decide +kernel) ?_
        refine ⟨_, rfl, by show 2 ≤ sizeLine; decide, fun l2 nl2 => ⟨l2, _, rfl, .inl (SqL.of upd_same), rfl, rfl, _, rfl, ?_⟩⟩
        obtain ⟨kl2, pl2⟩ := lst2 _ (.str "last") (.str "but last") kl pl l2 nl2
        refine ifF (by show inV (V.str (Str.ofString "while")) [V.str (Str.ofString "last"), V.str (Str.ofString "but last")] = false; decide +kernel) ?_
        refine ⟨_, rfl, _, rfl, sm, congrArg V.bl hsm, ?_⟩
        have eb : (!decide (V.str (Str.ofString "while") = V.str (Str.ofString "each"))) = true := by decide +kernel
        cases sm
        all_goals
          first
          | refine iteT ?_
          | refine iteF ?_
          refine ⟨p, _, rfl, pl2, by decide, by decide, fun H3 r3 k3 p3 h3 => ?_⟩
          refine ⟨_, rfl, rfl, .inr ⟨true, congrArg (fun b => [V.bl b]) eb, (r3 : Int), 1, rfl, rfl, ?_⟩⟩
          refine ⟨_, rfl, (r3 : Int) + 1, rfl, by omega, by omega, fun D nD => ?_⟩
          refine lc_draw walk_range (fun _ y => ∃ n, n ∈ tags ∧ y = .str (mk n)) (small1000 (by omega)) nD p3 (fun i x H4 H5 R N hi k4 p4 hy hR => ?_) (fun H4 ys k4 p4 hD hl hat => ?_)
          · obtain ⟨rfl, rfl⟩ := hy
            refine ⟨rfl, ?_⟩
            refine yes_if ?_
            have htx := (((ht.kp kl2).kp k3).kp k4).2.1
            refine ⟨_, rfl, _, rfl, _, rfl, t, _, rfl, .inl (SqL.of htx), p, (tags.length : Int), by rw [List.length_map]; rfl, p4, by omega, by omega, fun H6 r6 k6 p6 h6 => ?_⟩
            have htx6 := ((((ht.kp kl2).kp k3).kp k4).kp k6).2.1
            have hr6 : r6 < tags.length := by omega
            exact ⟨t, _, r6, .str (mk tags[r6]), rfl, rfl, SqL.of htx6, atI_nat (j := r6) (by rw [List.getElem?_map, List.getElem?_eq_getElem hr6]; rfl), hR _ _ k6 p6 ⟨tags[r6], List.getElem_mem hr6, rfl⟩⟩
          · obtain ⟨nm, rfl, hnm⟩ := vals_map hat
            rw [List.length_map] at hl
            refine ⟨D, _, rfl, .inl ⟨SqL.of hD, fun x nx => ?_⟩⟩
            refine q _ (.ref x) (.ask .whl nm false) (((kl2.trans k3).trans k4).trans (Same.kp (same_new nx))) (p4.same (same_new nx)) rfl ⟨x, rfl, SqT.of upd_same⟩ ⟨fun n hn => htn n (hnm n hn), by omega, by omega⟩ hnm
       | frm =>
        refine ifF (by show decide (V.str (Str.ofString "from") = V.str (Str.ofString "every")) = false; decide +kernel) ?_
        refine ⟨_, rfl, by show 2 ≤ sizeLine; decide, fun l nl => ⟨l, _, rfl, .inl (SqL.of upd_same), rfl, rfl, _, rfl, ?_⟩⟩
        obtain ⟨kl, pl⟩ := lst2 H1 (.str "first") (.str "skip") k1 p1 l nl
        refine ifF (by show inV (V.str (Str.ofString "from")) [V.str (Str.ofString "first"), V.str (Str.ofString "skip")] = false; decide +kernel) ?_
        refine ⟨_, rfl, by show 2 ≤ sizeLine; decide, fun l2 nl2 => ⟨l2, _, rfl, .inl (SqL.of upd_same), rfl, rfl, _, rfl, ?_⟩⟩
        obtain ⟨kl2, pl2⟩ := lst2 _ (.str "last") (.str "but last") kl pl l2 nl2
        refine ifF (by show inV (V.str (Str.ofString "from")) [V.str (Str.ofString "last"), V.str (Str.ofString "but last")] = false; decide +kernel) ?_
        refine ⟨_, rfl, _, rfl, sm, congrArg V.bl hsm, ?_⟩
        have eb : (!decide (V.str (Str.ofString "from") = V.str (Str.ofString "each"))) = true := by decide +kernel
        cases sm
        all_goals
          first
          | refine iteT ?_
          | refine iteF ?_
          refine ⟨p, _, rfl, pl2, by decide, by decide, fun H3 r3 k3 p3 h3 => ?_⟩
          refine ⟨_, rfl, rfl, .inr ⟨true, congrArg (fun b => [V.bl b]) eb, (r3 : Int), 1, rfl, rfl, ?_⟩⟩
          refine ⟨_, rfl, (r3 : Int) + 1, rfl, by omega, by omega, fun D nD => ?_⟩
          refine lc_draw walk_range (fun _ y => ∃ n, n ∈ tags ∧ y = .str (mk n)) (small1000 (by omega)) nD p3 (fun i x H4 H5 R N hi k4 p4 hy hR => ?_) (fun H4 ys k4 p4 hD hl hat => ?_)
          · obtain ⟨rfl, rfl⟩ := hy
            refine ⟨rfl, ?_⟩
            refine yes_if ?_
            have htx := (((ht.kp kl2).kp k3).kp k4).2.1
            refine ⟨_, rfl, _, rfl, _, rfl, t, _, rfl, .inl (SqL.of htx), p, (tags.length : Int), by rw [List.length_map]; rfl, p4, by omega, by omega, fun H6 r6 k6 p6 h6 => ?_⟩
            have htx6 := ((((ht.kp kl2).kp k3).kp k4).kp k6).2.1
            have hr6 : r6 < tags.length := by omega
            exact ⟨t, _, r6, .str (mk tags[r6]), rfl, rfl, SqL.of htx6, atI_nat (j := r6) (by rw [List.getElem?_map, List.getElem?_eq_getElem hr6]; rfl), hR _ _ k6 p6 ⟨tags[r6], List.getElem_mem hr6, rfl⟩⟩
          · obtain ⟨nm, rfl, hnm⟩ := vals_map hat
            rw [List.length_map] at hl
            refine ⟨D, _, rfl, .inl ⟨SqL.of hD, fun x nx => ?_⟩⟩
            refine q _ (.ref x) (.ask .frm nm false) (((kl2.trans k3).trans k4).trans (Same.kp (same_new nx))) (p4.same (same_new nx)) rfl ⟨x, rfl, SqT.of upd_same⟩ ⟨fun n hn => htn n (hnm n hn), by omega, by omega⟩ hnm
end
end K

set_option Elab.async false
set_option linter.all false
set_option maxRecDepth 100000
set_option maxHeartbeats 4000000
/-! KSh: how long data are when shown; str of data. -/
namespace K
open PySem PySem.Spec PyProof.Rows L2 He TL LamX
theorem join_le (B : Nat) : ∀ ts : List Str, (∀ t ∈ ts, t.length ≤ B) → (Str.join ", " ts).length ≤ (B + 2) * ts.length
  | [], _ => Nat.zero_le _
  | [t], h => by
    show t.length ≤ _
    have := h t List.mem_cons_self
    simp only [List.length_cons, List.length_nil]
    omega
  | t :: u :: r, h => by
    have ih := join_le B (u :: r) fun x hx => h x (List.mem_cons_of_mem _ hx)
    have := h t List.mem_cons_self
    show (t ++ (", " : Str) ++ Str.join ", " (u :: r)).length ≤ _
    rw [Str.length_append, Str.length_append, List.length_cons, Nat.mul_succ]
    have e : (Str.ofString ", ").length = 2 := by decide +kernel
    show t.length + (Str.ofString ", ").length + _ ≤ _
    rw [e]
    omega
theorem shown_tup_le (B : Nat) {ds : List PyData} (h : ∀ d ∈ ds, d.shown.length ≤ B) : (PyData.tuple ds).shown.length ≤ (B + 2) * ds.length + 3 := by
  have h2 : ∀ t ∈ PyData.shownAll ds, t.length ≤ B := by
    induction ds with
    | nil => intro t ht; cases ht
    | cons d ds ih =>
      intro t ht
      rcases List.mem_cons.mp (show t ∈ d.shown :: PyData.shownAll ds from ht) with e | ht
      · rw [e]; exact h d List.mem_cons_self
      · exact ih (fun x hx => h x (List.mem_cons_of_mem _ hx)) t ht
  have h3 : (PyData.shownAll ds).length = ds.length := by
    have : ∀ l : List PyData, (PyData.shownAll l).length = l.length := fun l => by
      induction l with
      | nil => rfl
      | cons a l ih => show (a.shown :: PyData.shownAll l).length = _; rw [List.length_cons, ih]; rfl
    exact this ds
  have h4 := join_le B _ h2
  rw [h3] at h4
  show (tupleText (PyData.shownAll ds)).length ≤ _
  unfold tupleText
  have e1 : (Str.ofString "(").length = 1 := by decide +kernel
  have e2 : ∀ b : Bool, (Str.ofString (if b = true then ",)" else ")" : String)).length ≤ 2 := fun b => by cases b <;> decide +kernel
  rw [Str.length_append, Str.length_append, e1]
  have := e2 ((PyData.shownAll ds).length == 1)
  omega
theorem shown_int_le {i : Int} (h : i.natAbs < big) : (PyData.int i).shown.length ≤ 41 := by
  have e := int_text_length_le10 (k := 40) (by decide) h
  show (Str.ofString (toString i)).length ≤ 41
  rw [PySem.ofString_length]
  exact e
theorem shown_name_le {n : Nm} (h : isNameL n = true) : (PyData.str (mk n)).shown.length ≤ 42 := by
  have e := PySem.StrLaws.reprText_len (mk n) (fun c hc => by
    rcases name_sign h (show c ∈ n from hc) with q | q <;> omega)
  rw [len_mk] at e
  have := (isNameL_len h).1
  show (reprText (mk n)).length ≤ 42
  omega
theorem showable_names {ns : List Nm} : (nmD ns).showable = true ∧ (nmD ns).hasDict = false ∧ (nmD ns).depth ≤ 1 := by
  have a : ∀ l : List Nm, PyData.showableAll (l.map fun n => .str (mk n)) = true ∧ PyData.hasDictAll (l.map fun n => .str (mk n)) = false ∧ PyData.depthAll (l.map fun n => .str (mk n)) = 0 := fun l => by
    induction l with
    | nil => exact ⟨rfl, rfl, rfl⟩
    | cons n l ih =>
      refine ⟨?_, ?_, ?_⟩
      · show (true && PyData.showableAll (l.map fun n => .str (mk n))) = true
        rw [ih.1]; rfl
      · show (false || PyData.hasDictAll (l.map fun n => .str (mk n))) = false
        rw [ih.2.1]; rfl
      · show max 0 (PyData.depthAll (l.map fun n => .str (mk n))) = 0
        rw [ih.2.2]; rfl
  obtain ⟨h1, h2, h3⟩ := a ns
  exact ⟨h1, h2, by show PyData.depthAll _ + 1 ≤ 1; rw [h3]; exact Nat.le_refl _⟩
theorem shown_names_le {ns : List Nm} (h : NamesL ns) (h4 : ns.length ≤ 4) : (nmD ns).shown.length ≤ 200 := by
  have := shown_tup_le 42 (ds := ns.map fun n => .str (mk n)) fun d hd => by
    obtain ⟨n, hn, rfl⟩ := List.mem_map.mp hd
    exact shown_name_le (h n hn)
  rw [List.length_map] at this
  show (PyData.tuple _).shown.length ≤ 200
  omega
/-- str of an int, of data, where no repr is under way -/
theorem call_strAny {X : Cx} {Kf : PySem.W.Frag} (hg : X.A.guards = some []) (hu : X.A.units + 64 < cLine) (hK : X.K = Kf := by rfl) : CallR X (.type "str") (fun xs H Q => (∃ n : Nat, xs = [.int n] ∧ n ≤ 9 ∧ Q (.str (mk (dig n))) H) ∨ ∃ (a : Addr) (d : PyData), xs = [.ref a] ∧ Dp Kf H (.ref a) d ∧ d.showable = true ∧ d.hasDict = false ∧ d.depth ≤ 8 ∧
    d.shown.length ≤ sizeLine ∧ Q (.str d.shown) H) := by
  subst hK
  intro pins s σ H xs us Q I r h
  rcases h with ⟨n, rfl, hn, q⟩ | ⟨a, d, rfl, hd, h1, h2, h3, h4, q⟩
  · refine call_str_int pins s σ H _ us Q I r ⟨n, rfl, ?_, ?_⟩
    · have : (n : Int).natAbs ≤ 9 := by omega
      exact Nat.lt_of_le_of_lt (Nat.log2_le_self _) (by omega)
    · have e : Str.ofString (toString (n : Int)) = mk (dig n) := by
        match n, hn with
        | 0, _ => decide +kernel
        | 1, _ => decide +kernel
        | 2, _ => decide +kernel
        | 3, _ => decide +kernel
        | 4, _ => decide +kernel
        | 5, _ => decide +kernel
        | 6, _ => decide +kernel
        | 7, _ => decide +kernel
        | 8, _ => decide +kernel
        | 9, _ => decide +kernel
      show Q (.str (Str.ofString (toString (n : Int)))) H
      rw [e]
      exact q
  · obtain ⟨u, rfl, ru⟩ := vals1 r
    obtain ⟨as, hr⟩ := Dp.reads I d (.ref a) u hd ru
    cases ru
    refine str_of_reads hr h1 (fun z => by rw [h2] at z; cases z) hg (by omega) (fun b o e => e) (fun h' t tk k => ?_) h4
    exact ⟨.str _, H, I.kept (t' := tk) k, ⟨_, rfl⟩, q⟩
end K

set_option Elab.async false
set_option linter.all false
set_option maxRecDepth 100000
set_option maxHeartbeats 4000000
/-! KL4: the law's draws: parts, names put on a text, a part's line. -/
namespace K
open PySem PySem.Spec PyProof.Rows L2 He TL LamX
def StepV (K : PySem.W.Frag) (H : Hp) (y : V) (sg : SgL) : Prop := ∃ t v b, y = .ref t ∧ SqT K H t [.str (kindS sg), v, .bl b] ∧ DetAt K H sg v ∧ SgOk sg
theorem StepV.sml {K : PySem.W.Frag} {H H' : Hp} {y : V} {sg : SgL} (e : SmL H H') : StepV K H y sg → StepV K H' y sg := fun ⟨t, v, b, h1, h2, h3, h4⟩ => ⟨t, v, b, h1, e.seqT h2, e.det h3, h4⟩
theorem appl_len2 : ∀ {ns : List Nm} (x : List Nat), NamesL ns → (appl ns x).length ≤ 6 * ns.length + x.length := fun x h => appl_len h x
def lnOf : SgL → Ln
  | .each w b => .comp w [] b
  | .ask .keep t b => .comp [] [(false, t)] b
  | .ask .drop t b => .comp [] [(true, t)] b
  | .ask .whl t b => .cl (.lam true t) b
  | .ask .frm t b => .cl (.lam false t) b
  | .first n b => .cl (.first n) b
  | .skip n b => .cl (.skip n) b
  | .every k r b => .cl (.every k r) b
  | .last n => .last n
  | .but n => .but n
  | .turned => .turned
theorem lnSg_of (sg : SgL) : lnSg (lnOf sg) = [sg] := by
  cases sg with
  | ask k t b => cases k <;> rfl
  | each w b => simp [lnOf, lnSg, compSg, bear]
  | _ => rfl
theorem lnOk_of {sg : SgL} (h : SgOk sg) : LnOk (lnOf sg) := by
  cases sg with
  | each w b => exact ⟨h.1, h.2, by decide, fun c hc => by cases hc⟩
  | ask k t b =>
    have n0 : NamesL [] := fun n hn => by cases hn
    cases k with
    | keep => exact ⟨n0, by decide, by show 1 ≤ 3; decide, fun c hc => by rw [List.mem_singleton.mp hc]; exact h⟩
    | drop => exact ⟨n0, by decide, by show 1 ≤ 3; decide, fun c hc => by rw [List.mem_singleton.mp hc]; exact h⟩
    | whl => exact h
    | frm => exact h
  | first n b => exact h
  | skip n b => exact h
  | every k r b => exact h
  | last n => exact h
  | but n => exact h
  | turned => trivial
section
variable {P : Program} {w : World} {K : PySem.W.Frag} {mg : Str → Option Value} {base : Heap}
def spPart (K : PySem.W.Frag) : Sp := fun vs H Q _ => ∃ (p t : Addr) (tags : List Nm), vs = [.ref p, .ref t] ∧ PurseAt H p ∧ TagsAt H t p tags ∧
  ∀ H' q sg v, Kp (· = p) H H' → PurseAt H' p → SqT K H' q [.str (kindS sg), v, .bl sg.now] → DetAt K H' sg v → SgOk sg → (∀ n ∈ sgNames sg, n ∈ tags) → Q (.ref q) H'
theorem ok_law_part (T : Tx K mg w) : Ok1 P w K mg base 3 "_law_part" ["_law_purse_here", "_law_tags_here"] (spPart K) := by
  have nd := sc_law_part.nd
  refine T.d_law_part.mk sc_law_part bn_law_part (fun vs H Q E h => ?_) (fun cdv A outer s H vs Q E hr h => ?_)
  · obtain ⟨p, t, tags, rfl, _⟩ := h
    rfl
  · obtain ⟨p, t, tags, rfl, hp, ht, q⟩ := h
    refine ⟨_, pss_cons (ps_set (i := 2) nd rfl (.inl rfl) (pe_ix ix_list (pe_g0 (ok_law_labels T) (hr.mono (by decide))) (pe_g (ok_law_take T) (hr.mono (by decide)) (pa_cons (pv 0) (pa_cons pe_int pa_nil))) (fun _ _ => rfl)))
      (pss_cons (ps_set (i := 3) nd rfl (.inl rfl) (pe_g (ok_law_detail T) hr (pa_cons (pv 0) (pa_cons (pv 1) (pa_cons (pv 2) pa_nil)))))
      (pss_one (ps_ret (pe_tup (pa_cons (pv 2) (pa_cons (pv 3) (pa_cons (pe_or (pe_cmpR op_eq (pe_g (ok_law_take T) (hr.mono (by decide)) (pa_cons (pv 0) (pa_cons pe_int pa_nil))) pe_int (nomark _)) (pe_one (pe_cmpR op_in_seq (pv 2) (pe_lst (pa_cons pe_str (pa_cons pe_str (pa_cons pe_str pa_nil)))) (by rfl)))) pa_nil))))))), ?_⟩
    refine ⟨rfl, fun H1 l s1 hl => ?_⟩
    have nlp : l ≠ p := fun z => by
      obtain ⟨_, _, _, h, _⟩ := hp.same s1
      rw [z, h] at hl
      injection hl with hl
      injection hl with hl
      exact absurd (congrArg List.length hl) (by show ¬ 3 = 11; decide)
    refine ⟨_, rfl, p, 11, rfl, hp.same s1, by decide, by decide, fun H2 r2 k2 p2 h2 => ?_⟩
    have hr2 : r2 < 11 := by omega
    refine ⟨l, _, r2, .str (kindS (samp r2)), rfl, rfl, SqL.of (k2 _ _ hl (.inl nlp)), atI_nat (j := r2) (by rw [List.getElem?_map, kinds_at hr2]; rfl), ?_⟩
    have k02 := (Same.kp (M := (· = p)) s1).trans k2
    refine ⟨_, rfl, _, rfl, _, rfl, p, t, tags, samp r2, rfl, p2, ht.kp k02, fun H3 v sg k3 p3 e3 hd ho hn => ?_⟩
    have k03 := k02.trans k3
    refine ⟨_, rfl, _, rfl, _, rfl, p, 2, rfl, p3, by decide, by decide, fun H4 r4 k4 p4 h4 => ⟨rfl, ?_⟩⟩
    have fin : ∀ (H5 : Hp) (b : Bool), Kp (· = p) H4 H5 → PurseAt H5 p → Same H4 H5 → ∀ c, c = (b || sg.isList) → 3 ≤ sizeLine ∧ ∀ x, H5 x = none → Q (.ref x) (upd H5 x (.tup [.str (kindS (samp r2)), v, .bl c])) := fun H5 b k5 p5 s5 c hc => ⟨by decide, fun x nx => by
      have sx := same_new (o := .tup [.str (kindS (samp r2)), v, .bl c]) nx
      refine q _ x (setNow b sg) v (((k03.trans k4).trans k5).trans (Same.kp sx)) (p5.same sx) (SqT.of ?_) ?_ (setNow_ok b ho) (by rw [setNow_names]; exact hn)
      · rw [upd_same, setNow_kind, e3, setNow_now, hc]
      · refine setNow_det b ?_
        obtain ⟨s', d', k', hh, _⟩ := p3
        exact (kp_sml hh k4).det hd |>.same (s5.trans sx)⟩
    have hL := in_LIST sg
    rw [e3] at hL
    refine ⟨_, rfl, ?_⟩
    cases hb : decide (V.int (r4 : Int) = V.int 1) with
    | true => exact iteT (fin H4 true (Kp.refl _ _) p4 (Same.refl _) true rfl)
    | false =>
      refine iteF ⟨_, rfl, by show 3 ≤ sizeLine; decide, fun l2 nl2 => ⟨l2, _, rfl, .inl (SqL.of upd_same), rfl, rfl, ?_⟩⟩
      have s2 := same_new (o := .lst [V.str "last", .str "but last", .str "turned"]) nl2
      exact fin _ false (Same.kp s2) (p4.same s2) s2 _ (by rw [Bool.false_or]; exact hL)
def spApplied (K : PySem.W.Frag) : Sp := fun vs H Q _ => ∃ (a : Addr) (ns : List Nm) (x : List Nat), vs = [.ref a, .str (mk x)] ∧ SqT K H a (ns.map fun n => V.str (mk n)) ∧ NamesL ns ∧ ns.length ≤ 4 ∧ x.length ≤ 100 ∧ ∀ H', Same H H' → Q (.str (mk (appl ns x))) H'
theorem ok_law_applied (T : Tx K mg w) : Ok1 P w K mg base 1 "_law_applied" ["_law_names_here", "_law_inner"] (spApplied K) := by
  have nd := sc_law_applied.nd
  refine T.d_law_applied.mk sc_law_applied bn_law_applied (fun vs H Q E h => ?_) (fun cdv A outer s H vs Q E hr h => ?_)
  · obtain ⟨a, ns, x, rfl, _⟩ := h
    rfl
  · obtain ⟨a, ns, x, rfl, ha, hn, h4, hx, q⟩ := h
    refine ⟨_, pss_cons (ps_set (i := 2) nd rfl (.inl rfl) (pv 1))
      (pss_cons (ps_for PassesOwn.never rfl (pi_tup (pe_revT (pv 0))) (pg_name (i := 3) nd rfl (.inl rfl)) (pss_one (ps_set (i := 2) nd rfl (.inl rfl) (pe_op op_add_str (pe_op op_add_str (pe_op op_add_str (pv 3) pe_str) (pv 2)) pe_str))))
      (pss_one (ps_ret (pv 2)))), ?_⟩
    refine ⟨_, rfl, ?_⟩
    refine ⟨_, rfl, a, _, rfl, ha, fun p np => ⟨p, rfl, ⟨_, SqT.of upd_same⟩, ?_⟩⟩
    have sp := same_new (o := .tup (ns.map fun n => V.str (mk n)).reverse) np
    refine for_tup (xs := (ns.map fun n => V.str (mk n)).reverse) (fun i σ H' => H' = upd H p (.tup (ns.map fun n => V.str (mk n)).reverse) ∧ ∃ o3, σ = [some (.ref a), some (.str (mk x)), some (.str (mk (appl (ns.drop (ns.length - i)) x))), o3])
      ⟨rfl, none, by rw [show ns.length - 0 = ns.length by omega, List.drop_length]; rfl⟩ (fun i σ H' _ h => by rw [h.1]; exact SqT.of upd_same) (fun i y σ H1 hy hp => ?_) (fun σ H1 hp => ?_)
    · obtain ⟨rfl, o3, rfl⟩ := hp
      have hlt : i < ns.length := by
        rcases Nat.lt_or_ge i ns.length with z | z
        · exact z
        · rw [List.getElem?_eq_none (by simpa using z)] at hy; cases hy
      obtain ⟨n, hn1, hn2, hn3⟩ := drop_pred hlt
      rw [← List.map_reverse, List.getElem?_map, hn1] at hy
      cases hy
      rw [hn2]
      have hnn := (isNameL_len (hn n hn3)).1
      have hl := appl_len (ns := ns.drop (ns.length - i)) (fun m hm => hn m (List.mem_of_mem_drop hm)) x
      rw [List.length_drop] at hl
      generalize hB : appl (ns.drop (ns.length - i)) x = B at hl
      have e1 : Str.ofString "(" = mk [40] := by decide +kernel
      have e2 : Str.ofString ")" = mk [41] := by decide +kernel
      refine ⟨_, rfl, mk n, Str.ofString "(", rfl, rfl, by rw [e1, len_mk, len_mk]; exact small_line (by simp; omega), _, rfl, mk n ++ Str.ofString "(", mk B, rfl, rfl, by rw [e1, mk_app, len_mk, len_mk]; exact small_line (by simp; omega), mk n ++ Str.ofString "(" ++ mk B, Str.ofString ")", rfl, rfl, by rw [e1, e2, mk_app, mk_app, len_mk, len_mk]; exact small_line (by simp; omega), ?_⟩
      refine ⟨rfl, some (V.str (mk n)), ?_⟩
      show [some (V.ref a), some (V.str (mk x)), some (V.str (mk n ++ Str.ofString "(" ++ mk B ++ Str.ofString ")")), some (V.str (mk n))] = _
      rw [e1, e2, mk_app, mk_app, mk_app]
      have e3 : n ++ [40] ++ B ++ [41] = n ++ 40 :: (B ++ [41]) := by simp
      rw [e3, ← hB]
      rfl
    · obtain ⟨rfl, o3, rfl⟩ := hp
      rw [List.length_reverse, List.length_map, Nat.sub_self, List.drop_zero]
      exact ⟨_, rfl, q _ sp⟩
def spLine (K : PySem.W.Frag) : Sp := fun vs H Q _ => ∃ (y : Addr) (sg : SgL) (v : V), vs = [.ref y] ∧ SqT K H y [.str (kindS sg), v, .bl sg.now] ∧ DetAt K H sg v ∧ SgOk sg ∧ ∀ H', Same H H' → Q (.str (mk (lnL (lnOf sg)))) H'
theorem lit_app (a : String) (b : List Nat) : Str.ofString a ++ mk b = mk (L a ++ b) := by rw [lit_mk, mk_app]
theorem app_lit (a : List Nat) (b : String) : mk a ++ Str.ofString b = mk (a ++ L b) := by rw [lit_mk, mk_app]
theorem ok_law_line (T : Tx K mg w) : OkG P w K mg base 2 "_law_line" ["_law_part_here"] (spLine K) := by
  have nd := sc_law_line.nd
  refine T.d_law_line.mkG sc_law_line bn_law_line (fun vs H Q E h => ?_) (fun cdv A outer s H vs Q E hgd hr h => ?_)
  · obtain ⟨y, sg, v, rfl, _⟩ := h
    rfl
  · obtain ⟨y, sg, v, rfl, hy, hd, ho, q⟩ := h
    have ap := ok_law_applied (P := P) (base := base) T
    refine ⟨_, pss_cons (ps_asg (pv 0) (pg_tup (by rfl) (pgs_cons (pg_name (i := 1) nd rfl (.inl rfl)) (pgs_cons (pg_name (i := 2) nd rfl (.inl rfl)) (pgs_cons (pg_name (i := 3) nd rfl (.inl rfl)) pgs_nil)))))
      (pss_cons (ps_if (pt_cmpR op_eq (pv 1) pe_str (nomark _)) (pss_one (ps_ret pe_str)) pss_nil)
      (pss_cons (ps_if (pt_cmpR op_eq (pv 1) pe_str (nomark _)) (pss_one (ps_ret (pe_op op_add_str (pe_op op_add_str pe_str (pe_callTy (call_strAny (Kf := K) hgd hr.units) (by rfl) T.z_str bt_str (pa_cons (pv 2) pa_nil))) pe_str))) pss_nil)
      (pss_cons (ps_if (pt_cmpR op_eq (pv 1) pe_str (nomark _)) (pss_one (ps_ret (pe_op op_add_str (pe_op op_add_str pe_str (pe_callTy (call_strAny (Kf := K) hgd hr.units) (by rfl) T.z_str bt_str (pa_cons (pv 2) pa_nil))) pe_str))) pss_nil)
      (pss_cons (ps_if (pt_cmpR op_in_seq (pv 1) (pe_lst (pa_cons pe_str (pa_cons pe_str (pa_cons pe_str pa_nil)))) (by rfl))
        (pss_cons (ps_set (i := 4) nd rfl (.inl rfl) (pe_op op_add_str (pe_op op_add_str pe_str (pe_ifExp (pt_cmpR op_eq (pv 1) pe_str (nomark _)) pe_str pe_str)) (pe_g ap hr (pa_cons (pv 2) (pa_cons pe_str pa_nil)))))
        (pss_cons (ps_if (pt_cmpR op_eq (pv 1) pe_str (nomark _)) (pss_one (ps_set (i := 4) nd rfl (.inl rfl) (pe_op op_add_str (pe_g ap hr (pa_cons (pv 2) (pa_cons pe_str pa_nil))) pe_str))) pss_nil)
        (pss_one (ps_ret (pe_ifExp (pt_val (pv 3)) (pe_op op_add_str (pe_op op_add_str pe_str (pv 4)) pe_str) (pe_op op_add_str (pe_op op_add_str pe_str (pv 4)) pe_str)))))) pss_nil)
      (pss_cons (ps_set (i := 4) nd rfl (.inl rfl) (pe_op op_add_str pe_str (pe_callTy (call_strAny (Kf := K) hgd hr.units) (by rfl) T.z_str bt_str (pa_cons (pv 2) pa_nil))))
      (pss_cons (ps_if (pt_cmpR op_eq (pv 1) pe_str (nomark _)) (pss_one (ps_set (i := 4) nd rfl (.inl rfl) (pe_op op_add_str (pe_op op_add_str (pe_op op_add_str pe_str (pe_callTy (call_strAny (Kf := K) hgd hr.units) (by rfl) T.z_str bt_str (pa_cons (pe_ix ix_tup (pv 2) pe_int (fun _ _ => rfl)) pa_nil))) pe_str) (pe_callTy (call_strAny (Kf := K) hgd hr.units) (by rfl) T.z_str bt_str (pa_cons (pe_ix ix_tup (pv 2) pe_int (fun _ _ => rfl)) pa_nil))))) pss_nil)
      (pss_cons (ps_if (pt_cmpR op_eq (pv 1) pe_str (nomark _)) (pss_one (ps_set (i := 4) nd rfl (.inl rfl) (pe_op op_add_str (pv 4) pe_str))) pss_nil)
      (pss_cons (ps_if (pt_cmpR op_in_seq (pv 1) (pe_lst (pa_cons pe_str (pa_cons pe_str pa_nil))) (by rfl)) (pss_one (ps_set (i := 4) nd rfl (.inl rfl) (pe_op op_add_str (pe_op op_add_str (pe_op op_add_str (pe_ifExp (pt_cmpR op_eq (pv 1) pe_str (nomark _)) pe_str pe_str) pe_str) (pe_g ap hr (pa_cons (pv 2) (pa_cons pe_str pa_nil)))) pe_str))) pss_nil)
      (pss_one (ps_ret (pe_ifExp (pt_val (pv 3)) (pe_op op_add_str (pe_op op_add_str pe_str (pv 4)) pe_str) (pe_op op_add_str (pe_op op_add_str pe_str (pv 4)) pe_str)))))))))))), ?_⟩
    have hL1 := in_LIST sg
    refine ⟨_, rfl, y, _, rfl, hy, rfl, _, _, rfl, _, _, rfl, _, _, rfl, rfl, ?_⟩
    have zl : (Str.ofString "x for x in rows if ").length = 19 ∧ (Str.ofString "not ").length = 4 ∧ (Str.ofString "").length = 0 ∧ (Str.ofString " for x in rows").length = 14 ∧ (Str.ofString "rows = [").length = 8 ∧ (Str.ofString "]").length = 1 ∧ (Str.ofString "rows = (").length = 8 ∧ (Str.ofString ")").length = 1 ∧
        (Str.ofString "islice(rows, ").length = 13 ∧ (Str.ofString "rows = list(").length = 12 ∧ (Str.ofString "))").length = 2 ∧ (Str.ofString "rows = ").length = 7 ∧ (Str.ofString "takewhile").length = 9 ∧ (Str.ofString "dropwhile").length = 9 ∧ (Str.ofString "(lambda x: ").length = 11 ∧ (Str.ofString ", rows").length = 6 ∧ (Str.ofString ", None").length = 6 ∧ (Str.ofString ", None, ").length = 8 := by decide +kernel
    have big20 : sizeLine = 16777216 := by decide
    have three : ∀ (a b : List Nat) (x y : String), Str.ofString x = mk a → Str.ofString y = mk b → ∀ c, Str.ofString x ++ mk c ++ Str.ofString y = mk (a ++ (c ++ b)) := fun a b x y h1 h2 c => by rw [h1, h2, mk_app, mk_app, List.append_assoc]
    cases sg with
    | turned =>
      refine ⟨_, rfl, rfl, _, rfl, ?_⟩
      refine ifT (by show decide (V.str (Str.ofString "turned") = V.str (Str.ofString "turned")) = true; decide +kernel) ?_
      have e : Str.ofString "rows = list(rows)[::-1]" = mk (lnL .turned) := by decide +kernel
      have := q H (Same.refl H)
      rw [show lnL (lnOf .turned) = lnL .turned from rfl, ← e] at this
      exact this
    | last n =>
      have hn : n ≤ 9 := ho.2
      have hv : v = .int n := hd
      subst hv
      refine ⟨_, rfl, rfl, _, rfl, ?_⟩
      refine ifF (by show decide (V.str (Str.ofString "last") = V.str (Str.ofString "turned")) = false; decide +kernel) ?_
      refine ⟨_, rfl, rfl, _, rfl, ?_⟩
      refine ifT (by show decide (V.str (Str.ofString "last") = V.str (Str.ofString "last")) = true; decide +kernel) ?_
      refine ⟨_, rfl, .inl ⟨n, rfl, hn, Str.ofString "rows = list(rows)[-", mk (dig n), rfl, rfl, by show (Str.ofString "rows = list(rows)[-").length + 1 ≤ sizeLine; decide +kernel, Str.ofString "rows = list(rows)[-" ++ mk (dig n), Str.ofString ":]", rfl, rfl, by rw [lit_app, len_mk, List.length_append]; show (L "rows = list(rows)[-").length + 1 + (Str.ofString ":]").length ≤ sizeLine; decide +kernel, ?_⟩⟩
      have e : Str.ofString "rows = list(rows)[-" ++ mk (dig n) ++ Str.ofString ":]" = mk (lnL (.last n)) := by
        rw [three (L "rows = list(rows)[-") (L ":]") _ _ (lit_mk _) (lit_mk _)]
        show mk _ = mk (L "rows = " ++ (L "list(rows)" ++ (L "[-" ++ (dig n ++ L ":]"))))
        rw [show L "rows = list(rows)[-" = L "rows = " ++ (L "list(rows)" ++ L "[-") by decide +kernel]
        simp
      have := q H (Same.refl H)
      rw [show lnL (lnOf (.last n)) = lnL (.last n) from rfl, ← e] at this
      exact this
    | but n =>
      have hn : n ≤ 9 := ho.2
      have hv : v = .int n := hd
      subst hv
      refine ⟨_, rfl, rfl, _, rfl, ?_⟩
      refine ifF (by show decide (V.str (Str.ofString "but last") = V.str (Str.ofString "turned")) = false; decide +kernel) ?_
      refine ⟨_, rfl, rfl, _, rfl, ?_⟩
      refine ifF (by show decide (V.str (Str.ofString "but last") = V.str (Str.ofString "last")) = false; decide +kernel) ?_
      refine ⟨_, rfl, rfl, _, rfl, ?_⟩
      refine ifT (by show decide (V.str (Str.ofString "but last") = V.str (Str.ofString "but last")) = true; decide +kernel) ?_
      refine ⟨_, rfl, .inl ⟨n, rfl, hn, Str.ofString "rows = list(rows)[:-", mk (dig n), rfl, rfl, by show (Str.ofString "rows = list(rows)[:-").length + 1 ≤ sizeLine; decide +kernel, Str.ofString "rows = list(rows)[:-" ++ mk (dig n), Str.ofString "]", rfl, rfl, by rw [lit_app, len_mk, List.length_append]; show (L "rows = list(rows)[:-").length + 1 + (Str.ofString "]").length ≤ sizeLine; decide +kernel, ?_⟩⟩
      have e : Str.ofString "rows = list(rows)[:-" ++ mk (dig n) ++ Str.ofString "]" = mk (lnL (.but n)) := by
        rw [three (L "rows = list(rows)[:-") (L "]") _ _ (lit_mk _) (lit_mk _)]
        show mk _ = mk (L "rows = " ++ (L "list(rows)" ++ (L "[:-" ++ (dig n ++ L "]"))))
        rw [show L "rows = list(rows)[:-" = L "rows = " ++ (L "list(rows)" ++ L "[:-") by decide +kernel]
        simp
      have := q H (Same.refl H)
      rw [show lnL (lnOf (.but n)) = lnL (.but n) from rfl, ← e] at this
      exact this
    | each wd b =>
      obtain ⟨a, rfl, hS⟩ := hd
      have hN := ho.1
      have h4 : wd.length ≤ 4 := by have := ho.2; omega
      have hal := appl_len hN [120]
      simp only [List.length_cons, List.length_nil] at hal
      refine ⟨_, rfl, rfl, _, rfl, ?_⟩
      refine ifF (by show decide (V.str (Str.ofString "each") = V.str (Str.ofString "turned")) = false; decide +kernel) ?_
      refine ⟨_, rfl, rfl, _, rfl, ?_⟩
      refine ifF (by show decide (V.str (Str.ofString "each") = V.str (Str.ofString "last")) = false; decide +kernel) ?_
      refine ⟨_, rfl, rfl, _, rfl, ?_⟩
      refine ifF (by show decide (V.str (Str.ofString "each") = V.str (Str.ofString "but last")) = false; decide +kernel) ?_
      refine ⟨_, rfl, by show 3 ≤ sizeLine; decide, fun l nl => ⟨l, _, rfl, .inl (SqL.of upd_same), rfl, rfl, _, rfl, ?_⟩⟩
      have s1 := same_new (o := .lst [V.str (Str.ofString "each"), V.str (Str.ofString "keep"), V.str (Str.ofString "drop")]) nl
      refine ifT (by show inV (V.str (Str.ofString "each")) [V.str (Str.ofString "each"), V.str (Str.ofString "keep"), V.str (Str.ofString "drop")] = true; decide +kernel) ?_
      refine ⟨_, rfl, rfl, _, rfl, ?_⟩
      refine ifF (by show decide (V.str (Str.ofString "each") = V.str (Str.ofString "drop")) = false; decide +kernel) ?_
      refine ⟨Str.ofString "x for x in rows if ", Str.ofString "", rfl, rfl, by decide +kernel, _, rfl, a, wd, [120], congrArg (fun z => [V.ref a, V.str z]) (by decide +kernel), same_seqT s1 hS, hN, h4, by decide, fun H2 s2 => ?_⟩
      refine ⟨Str.ofString "x for x in rows if " ++ Str.ofString "", mk (appl wd [120]), rfl, rfl, (by simp only [Str.length_append, len_mk]; omega), ?_⟩
      refine ⟨_, rfl, rfl, _, rfl, ?_⟩
      refine ifT (by show decide (V.str (Str.ofString "each") = V.str (Str.ofString "each")) = true; decide +kernel) ?_
      refine ⟨_, rfl, a, wd, [120], congrArg (fun z => [V.ref a, V.str z]) (by decide +kernel), same_seqT (s1.trans s2) hS, hN, h4, by decide, fun H3 s3 => ?_⟩
      refine ⟨mk (appl wd [120]), Str.ofString " for x in rows", rfl, rfl, (by simp only [Str.length_append, len_mk]; omega), ?_⟩
      have sm := (s1.trans s2).trans s3
      refine ⟨_, rfl, b, rfl, ?_⟩
      cases b with
      | true =>
        refine iteT ⟨_, rfl, Str.ofString "rows = [", mk (appl wd [120]) ++ Str.ofString " for x in rows", rfl, rfl, (by simp only [Str.length_append, len_mk]; omega), Str.ofString "rows = [" ++ (mk (appl wd [120]) ++ Str.ofString " for x in rows"), Str.ofString "]", rfl, rfl, (by simp only [Str.length_append, len_mk]; omega), ?_⟩
        have e : Str.ofString "rows = [" ++ (mk (appl wd [120]) ++ Str.ofString " for x in rows") ++ Str.ofString "]" = mk (lnL (.comp wd [] true)) := by
          rw [app_lit, three (L "rows = [") (L "]") _ _ (lit_mk _) (lit_mk _)]
          show mk _ = mk (L "rows = " ++ ([91] ++ ((appl wd [120] ++ (L " for x in rows" ++ [])) ++ [93])))
          rw [show L "rows = [" = L "rows = " ++ [91] by decide +kernel, show L "]" = [93] by decide +kernel]
          simp
        have := q H3 sm
        rw [show lnL (lnOf (.each wd true)) = lnL (.comp wd [] true) from rfl, ← e] at this
        exact this
      | false =>
        refine iteF ⟨_, rfl, Str.ofString "rows = (", mk (appl wd [120]) ++ Str.ofString " for x in rows", rfl, rfl, (by simp only [Str.length_append, len_mk]; omega), Str.ofString "rows = (" ++ (mk (appl wd [120]) ++ Str.ofString " for x in rows"), Str.ofString ")", rfl, rfl, (by simp only [Str.length_append, len_mk]; omega), ?_⟩
        have e : Str.ofString "rows = (" ++ (mk (appl wd [120]) ++ Str.ofString " for x in rows") ++ Str.ofString ")" = mk (lnL (.comp wd [] false)) := by
          rw [app_lit, three (L "rows = (") (L ")") _ _ (lit_mk _) (lit_mk _)]
          show mk _ = mk (L "rows = " ++ ([40] ++ ((appl wd [120] ++ (L " for x in rows" ++ [])) ++ [41])))
          rw [show L "rows = (" = L "rows = " ++ [40] by decide +kernel, show L ")" = [41] by decide +kernel]
          simp
        have := q H3 sm
        rw [show lnL (lnOf (.each wd false)) = lnL (.comp wd [] false) from rfl, ← e] at this
        exact this
    | ask k t b =>
      obtain ⟨a, rfl, hS⟩ := hd
      have hN := ho.1
      have h4 := ho.2.2
      have hal := appl_len hN [120]
      simp only [List.length_cons, List.length_nil] at hal
      cases k with
      | keep =>
        refine ⟨_, rfl, rfl, _, rfl, ?_⟩
        refine ifF (by show decide (V.str (Str.ofString "keep") = V.str (Str.ofString "turned")) = false; decide +kernel) ?_
        refine ⟨_, rfl, rfl, _, rfl, ?_⟩
        refine ifF (by show decide (V.str (Str.ofString "keep") = V.str (Str.ofString "last")) = false; decide +kernel) ?_
        refine ⟨_, rfl, rfl, _, rfl, ?_⟩
        refine ifF (by show decide (V.str (Str.ofString "keep") = V.str (Str.ofString "but last")) = false; decide +kernel) ?_
        refine ⟨_, rfl, by show 3 ≤ sizeLine; decide, fun l nl => ⟨l, _, rfl, .inl (SqL.of upd_same), rfl, rfl, _, rfl, ?_⟩⟩
        have s1 := same_new (o := .lst [V.str (Str.ofString "each"), V.str (Str.ofString "keep"), V.str (Str.ofString "drop")]) nl
        refine ifT (by show inV (V.str (Str.ofString "keep")) [V.str (Str.ofString "each"), V.str (Str.ofString "keep"), V.str (Str.ofString "drop")] = true; decide +kernel) ?_
        refine ⟨_, rfl, rfl, _, rfl, ?_⟩
        refine ifF (by show decide (V.str (Str.ofString "keep") = V.str (Str.ofString "drop")) = false; decide +kernel) ?_
        refine ⟨Str.ofString "x for x in rows if ", Str.ofString "", rfl, rfl, by decide +kernel, _, rfl, a, t, [120], congrArg (fun z => [V.ref a, V.str z]) (by decide +kernel), same_seqT s1 hS, hN, h4, by decide, fun H2 s2 => ?_⟩
        refine ⟨Str.ofString "x for x in rows if " ++ Str.ofString "", mk (appl t [120]), rfl, rfl, (by simp only [Str.length_append, len_mk, List.length_append, List.length_cons, List.length_nil]; omega), ?_⟩
        refine ⟨_, rfl, rfl, _, rfl, ?_⟩
        refine ifF (by show decide (V.str (Str.ofString "keep") = V.str (Str.ofString "each")) = false; decide +kernel) ?_
        refine ⟨_, rfl, b, rfl, ?_⟩
        cases b with
        | true =>
          refine iteT ⟨_, rfl, Str.ofString "rows = [", Str.ofString "x for x in rows if " ++ Str.ofString "" ++ mk (appl t [120]), rfl, rfl, (by simp only [Str.length_append, len_mk, List.length_append, List.length_cons, List.length_nil]; omega), Str.ofString "rows = [" ++ (Str.ofString "x for x in rows if " ++ Str.ofString "" ++ mk (appl t [120])), Str.ofString "]", rfl, rfl, (by simp only [Str.length_append, len_mk, List.length_append, List.length_cons, List.length_nil]; omega), ?_⟩
          have e : Str.ofString "rows = [" ++ (Str.ofString "x for x in rows if " ++ Str.ofString "" ++ mk (appl t [120])) ++ Str.ofString "]" = mk (lnL (.comp [] [(false, t)] true)) := by
            refine ext_tl ?_
            simp only [tl_append, tl_lit, tl_mk']
            show _ = L "rows = " ++ ([91] ++ (([120] ++ (L " for x in rows" ++ (L " if " ++ (([] : List Nat) ++ appl t [120]) ++ []))) ++ [93]))
            rw [show L "rows = [" = L "rows = " ++ [91] by decide +kernel]
            rw [show L "]" = [93] by decide +kernel]
            rw [show L "x for x in rows if " = [120] ++ (L " for x in rows" ++ L " if ") by decide +kernel]
            rw [show L "" = [] by decide +kernel]
            simp
          have fin := q _ (s1.trans s2)
          rw [show lnL (lnOf _) = lnL (.comp [] [(false, t)] true) from rfl, ← e] at fin
          exact fin
        | false =>
          refine iteF ⟨_, rfl, Str.ofString "rows = (", Str.ofString "x for x in rows if " ++ Str.ofString "" ++ mk (appl t [120]), rfl, rfl, (by simp only [Str.length_append, len_mk, List.length_append, List.length_cons, List.length_nil]; omega), Str.ofString "rows = (" ++ (Str.ofString "x for x in rows if " ++ Str.ofString "" ++ mk (appl t [120])), Str.ofString ")", rfl, rfl, (by simp only [Str.length_append, len_mk, List.length_append, List.length_cons, List.length_nil]; omega), ?_⟩
          have e : Str.ofString "rows = (" ++ (Str.ofString "x for x in rows if " ++ Str.ofString "" ++ mk (appl t [120])) ++ Str.ofString ")" = mk (lnL (.comp [] [(false, t)] false)) := by
            refine ext_tl ?_
            simp only [tl_append, tl_lit, tl_mk']
            show _ = L "rows = " ++ ([40] ++ (([120] ++ (L " for x in rows" ++ (L " if " ++ (([] : List Nat) ++ appl t [120]) ++ []))) ++ [41]))
            rw [show L "rows = (" = L "rows = " ++ [40] by decide +kernel]
            rw [show L ")" = [41] by decide +kernel]
            rw [show L "x for x in rows if " = [120] ++ (L " for x in rows" ++ L " if ") by decide +kernel]
            rw [show L "" = [] by decide +kernel]
            simp
          have fin := q _ (s1.trans s2)
          rw [show lnL (lnOf _) = lnL (.comp [] [(false, t)] false) from rfl, ← e] at fin
          exact fin
      | drop =>
        refine ⟨_, rfl, rfl, _, rfl, ?_⟩
        refine ifF (by show decide (V.str (Str.ofString "drop") = V.str (Str.ofString "turned")) = false; decide +kernel) ?_
        refine ⟨_, rfl, rfl, _, rfl, ?_⟩
        refine ifF (by show decide (V.str (Str.ofString "drop") = V.str (Str.ofString "last")) = false; decide +kernel) ?_
        refine ⟨_, rfl, rfl, _, rfl, ?_⟩
        refine ifF (by show decide (V.str (Str.ofString "drop") = V.str (Str.ofString "but last")) = false; decide +kernel) ?_
        refine ⟨_, rfl, by show 3 ≤ sizeLine; decide, fun l nl => ⟨l, _, rfl, .inl (SqL.of upd_same), rfl, rfl, _, rfl, ?_⟩⟩
        have s1 := same_new (o := .lst [V.str (Str.ofString "each"), V.str (Str.ofString "keep"), V.str (Str.ofString "drop")]) nl
        refine ifT (by show inV (V.str (Str.ofString "drop")) [V.str (Str.ofString "each"), V.str (Str.ofString "keep"), V.str (Str.ofString "drop")] = true; decide +kernel) ?_
        refine ⟨_, rfl, rfl, _, rfl, ?_⟩
        refine ifT (by show decide (V.str (Str.ofString "drop") = V.str (Str.ofString "drop")) = true; decide +kernel) ?_
        refine ⟨Str.ofString "x for x in rows if ", Str.ofString "not ", rfl, rfl, by decide +kernel, _, rfl, a, t, [120], congrArg (fun z => [V.ref a, V.str z]) (by decide +kernel), same_seqT s1 hS, hN, h4, by decide, fun H2 s2 => ?_⟩
        refine ⟨Str.ofString "x for x in rows if " ++ Str.ofString "not ", mk (appl t [120]), rfl, rfl, (by simp only [Str.length_append, len_mk, List.length_append, List.length_cons, List.length_nil]; omega), ?_⟩
        refine ⟨_, rfl, rfl, _, rfl, ?_⟩
        refine ifF (by show decide (V.str (Str.ofString "drop") = V.str (Str.ofString "each")) = false; decide +kernel) ?_
        refine ⟨_, rfl, b, rfl, ?_⟩
        cases b with
        | true =>
          refine iteT ⟨_, rfl, Str.ofString "rows = [", Str.ofString "x for x in rows if " ++ Str.ofString "not " ++ mk (appl t [120]), rfl, rfl, (by simp only [Str.length_append, len_mk, List.length_append, List.length_cons, List.length_nil]; omega), Str.ofString "rows = [" ++ (Str.ofString "x for x in rows if " ++ Str.ofString "not " ++ mk (appl t [120])), Str.ofString "]", rfl, rfl, (by simp only [Str.length_append, len_mk, List.length_append, List.length_cons, List.length_nil]; omega), ?_⟩
          have e : Str.ofString "rows = [" ++ (Str.ofString "x for x in rows if " ++ Str.ofString "not " ++ mk (appl t [120])) ++ Str.ofString "]" = mk (lnL (.comp [] [(true, t)] true)) := by
            refine ext_tl ?_
            simp only [tl_append, tl_lit, tl_mk']
            show _ = L "rows = " ++ ([91] ++ (([120] ++ (L " for x in rows" ++ (L " if " ++ (L "not " ++ appl t [120]) ++ []))) ++ [93]))
            rw [show L "rows = [" = L "rows = " ++ [91] by decide +kernel]
            rw [show L "]" = [93] by decide +kernel]
            rw [show L "x for x in rows if " = [120] ++ (L " for x in rows" ++ L " if ") by decide +kernel]
            simp
          have fin := q _ (s1.trans s2)
          rw [show lnL (lnOf _) = lnL (.comp [] [(true, t)] true) from rfl, ← e] at fin
          exact fin
        | false =>
          refine iteF ⟨_, rfl, Str.ofString "rows = (", Str.ofString "x for x in rows if " ++ Str.ofString "not " ++ mk (appl t [120]), rfl, rfl, (by simp only [Str.length_append, len_mk, List.length_append, List.length_cons, List.length_nil]; omega), Str.ofString "rows = (" ++ (Str.ofString "x for x in rows if " ++ Str.ofString "not " ++ mk (appl t [120])), Str.ofString ")", rfl, rfl, (by simp only [Str.length_append, len_mk, List.length_append, List.length_cons, List.length_nil]; omega), ?_⟩
          have e : Str.ofString "rows = (" ++ (Str.ofString "x for x in rows if " ++ Str.ofString "not " ++ mk (appl t [120])) ++ Str.ofString ")" = mk (lnL (.comp [] [(true, t)] false)) := by
            refine ext_tl ?_
            simp only [tl_append, tl_lit, tl_mk']
            show _ = L "rows = " ++ ([40] ++ (([120] ++ (L " for x in rows" ++ (L " if " ++ (L "not " ++ appl t [120]) ++ []))) ++ [41]))
            rw [show L "rows = (" = L "rows = " ++ [40] by decide +kernel]
            rw [show L ")" = [41] by decide +kernel]
            rw [show L "x for x in rows if " = [120] ++ (L " for x in rows" ++ L " if ") by decide +kernel]
            simp
          have fin := q _ (s1.trans s2)
          rw [show lnL (lnOf _) = lnL (.comp [] [(true, t)] false) from rfl, ← e] at fin
          exact fin
      | whl =>
        refine ⟨_, rfl, rfl, _, rfl, ?_⟩
        refine ifF (by show decide (V.str (Str.ofString "while") = V.str (Str.ofString "turned")) = false; decide +kernel) ?_
        refine ⟨_, rfl, rfl, _, rfl, ?_⟩
        refine ifF (by show decide (V.str (Str.ofString "while") = V.str (Str.ofString "last")) = false; decide +kernel) ?_
        refine ⟨_, rfl, rfl, _, rfl, ?_⟩
        refine ifF (by show decide (V.str (Str.ofString "while") = V.str (Str.ofString "but last")) = false; decide +kernel) ?_
        refine ⟨_, rfl, by show 3 ≤ sizeLine; decide, fun l nl => ⟨l, _, rfl, .inl (SqL.of upd_same), rfl, rfl, _, rfl, ?_⟩⟩
        have s1 := same_new (o := .lst [V.str (Str.ofString "each"), V.str (Str.ofString "keep"), V.str (Str.ofString "drop")]) nl
        refine ifF (by show inV (V.str (Str.ofString "while")) [V.str (Str.ofString "each"), V.str (Str.ofString "keep"), V.str (Str.ofString "drop")] = false; decide +kernel) ?_
        obtain ⟨g1, g2, g3⟩ := showable_names (ns := t)
        have gl := shown_names_le hN h4
        refine ⟨_, rfl, .inr ⟨a, nmD t, rfl, Dp_names (same_seqT s1 hS), g1, g2, by omega, by omega, Str.ofString "islice(rows, ", (nmD t).shown, rfl, rfl, by omega, ?_⟩⟩
        refine ⟨_, rfl, rfl, _, rfl, ?_⟩
        refine ifF (by show decide (V.str (Str.ofString "while") = V.str (Str.ofString "every")) = false; decide +kernel) ?_
        refine ⟨_, rfl, rfl, _, rfl, ?_⟩
        refine ifF (by show decide (V.str (Str.ofString "while") = V.str (Str.ofString "skip")) = false; decide +kernel) ?_
        refine ⟨_, rfl, by show 2 ≤ sizeLine; decide, fun l2 nl2 => ⟨l2, _, rfl, .inl (SqL.of upd_same), rfl, rfl, _, rfl, ?_⟩⟩
        have s2 := same_new (o := .lst [V.str (Str.ofString "while"), V.str (Str.ofString "from")]) nl2
        refine ifT (by show inV (V.str (Str.ofString "while")) [V.str (Str.ofString "while"), V.str (Str.ofString "from")] = true; decide +kernel) ?_
        refine ⟨_, rfl, rfl, _, rfl, ?_⟩
        refine ifT (by show decide (V.str (Str.ofString "while") = V.str (Str.ofString "while")) = true; decide +kernel) ?_
        refine ⟨Str.ofString "takewhile", Str.ofString "(lambda x: ", rfl, rfl, by omega, _, rfl, a, t, [120], congrArg (fun z => [V.ref a, V.str z]) (by decide +kernel), same_seqT (s1.trans s2) hS, hN, h4, by decide, fun H3 s3 => ?_⟩
        refine ⟨Str.ofString "takewhile" ++ Str.ofString "(lambda x: ", mk (appl t [120]), rfl, rfl, (by simp only [Str.length_append, len_mk, List.length_append, List.length_cons, List.length_nil]; omega), Str.ofString "takewhile" ++ Str.ofString "(lambda x: " ++ mk (appl t [120]), Str.ofString ", rows", rfl, rfl, (by simp only [Str.length_append, len_mk, List.length_append, List.length_cons, List.length_nil]; omega), ?_⟩
        refine ⟨_, rfl, b, rfl, ?_⟩
        cases b with
        | true =>
          refine iteT ⟨_, rfl, Str.ofString "rows = list(", Str.ofString "takewhile" ++ Str.ofString "(lambda x: " ++ mk (appl t [120]) ++ Str.ofString ", rows", rfl, rfl, (by simp only [Str.length_append, len_mk, List.length_append, List.length_cons, List.length_nil]; omega), Str.ofString "rows = list(" ++ (Str.ofString "takewhile" ++ Str.ofString "(lambda x: " ++ mk (appl t [120]) ++ Str.ofString ", rows"), Str.ofString "))", rfl, rfl, (by simp only [Str.length_append, len_mk, List.length_append, List.length_cons, List.length_nil]; omega), ?_⟩
          have e : Str.ofString "rows = list(" ++ (Str.ofString "takewhile" ++ Str.ofString "(lambda x: " ++ mk (appl t [120]) ++ Str.ofString ", rows") ++ Str.ofString "))" = mk (lnL (.cl (.lam true t) true)) := by
            refine ext_tl ?_
            simp only [tl_append, tl_lit, tl_mk']
            show _ = L "rows = " ++ (L "list(" ++ ((L "takewhile" ++ (40 :: ((L "lambda x: " ++ appl t [120]) ++ L ", rows)"))) ++ [41]))
            rw [show L "(lambda x: " = 40 :: L "lambda x: " by decide +kernel]
            rw [show L ", rows)" = L ", rows" ++ [41] by decide +kernel]
            rw [show L "rows = list(" = L "rows = " ++ L "list(" by decide +kernel]
            rw [show L "))" = [41] ++ [41] by decide +kernel]
            simp
          have fin := q _ ((s1.trans s2).trans s3)
          rw [show lnL (lnOf _) = lnL (.cl (.lam true t) true) from rfl, ← e] at fin
          exact fin
        | false =>
          refine iteF ⟨_, rfl, Str.ofString "rows = ", Str.ofString "takewhile" ++ Str.ofString "(lambda x: " ++ mk (appl t [120]) ++ Str.ofString ", rows", rfl, rfl, (by simp only [Str.length_append, len_mk, List.length_append, List.length_cons, List.length_nil]; omega), Str.ofString "rows = " ++ (Str.ofString "takewhile" ++ Str.ofString "(lambda x: " ++ mk (appl t [120]) ++ Str.ofString ", rows"), Str.ofString ")", rfl, rfl, (by simp only [Str.length_append, len_mk, List.length_append, List.length_cons, List.length_nil]; omega), ?_⟩
          have e : Str.ofString "rows = " ++ (Str.ofString "takewhile" ++ Str.ofString "(lambda x: " ++ mk (appl t [120]) ++ Str.ofString ", rows") ++ Str.ofString ")" = mk (lnL (.cl (.lam true t) false)) := by
            refine ext_tl ?_
            simp only [tl_append, tl_lit, tl_mk']
            show _ = L "rows = " ++ (L "takewhile" ++ (40 :: ((L "lambda x: " ++ appl t [120]) ++ L ", rows)")))
            rw [show L "(lambda x: " = 40 :: L "lambda x: " by decide +kernel]
            rw [show L ", rows)" = L ", rows" ++ [41] by decide +kernel]
            rw [show L ")" = [41] by decide +kernel]
            simp
          have fin := q _ ((s1.trans s2).trans s3)
          rw [show lnL (lnOf _) = lnL (.cl (.lam true t) false) from rfl, ← e] at fin
          exact fin
      | frm =>
        refine ⟨_, rfl, rfl, _, rfl, ?_⟩
        refine ifF (by show decide (V.str (Str.ofString "from") = V.str (Str.ofString "turned")) = false; decide +kernel) ?_
        refine ⟨_, rfl, rfl, _, rfl, ?_⟩
        refine ifF (by show decide (V.str (Str.ofString "from") = V.str (Str.ofString "last")) = false; decide +kernel) ?_
        refine ⟨_, rfl, rfl, _, rfl, ?_⟩
        refine ifF (by show decide (V.str (Str.ofString "from") = V.str (Str.ofString "but last")) = false; decide +kernel) ?_
        refine ⟨_, rfl, by show 3 ≤ sizeLine; decide, fun l nl => ⟨l, _, rfl, .inl (SqL.of upd_same), rfl, rfl, _, rfl, ?_⟩⟩
        have s1 := same_new (o := .lst [V.str (Str.ofString "each"), V.str (Str.ofString "keep"), V.str (Str.ofString "drop")]) nl
        refine ifF (by show inV (V.str (Str.ofString "from")) [V.str (Str.ofString "each"), V.str (Str.ofString "keep"), V.str (Str.ofString "drop")] = false; decide +kernel) ?_
        obtain ⟨g1, g2, g3⟩ := showable_names (ns := t)
        have gl := shown_names_le hN h4
        refine ⟨_, rfl, .inr ⟨a, nmD t, rfl, Dp_names (same_seqT s1 hS), g1, g2, by omega, by omega, Str.ofString "islice(rows, ", (nmD t).shown, rfl, rfl, by omega, ?_⟩⟩
        refine ⟨_, rfl, rfl, _, rfl, ?_⟩
        refine ifF (by show decide (V.str (Str.ofString "from") = V.str (Str.ofString "every")) = false; decide +kernel) ?_
        refine ⟨_, rfl, rfl, _, rfl, ?_⟩
        refine ifF (by show decide (V.str (Str.ofString "from") = V.str (Str.ofString "skip")) = false; decide +kernel) ?_
        refine ⟨_, rfl, by show 2 ≤ sizeLine; decide, fun l2 nl2 => ⟨l2, _, rfl, .inl (SqL.of upd_same), rfl, rfl, _, rfl, ?_⟩⟩
        have s2 := same_new (o := .lst [V.str (Str.ofString "while"), V.str (Str.ofString "from")]) nl2
        refine ifT (by show inV (V.str (Str.ofString "from")) [V.str (Str.ofString "while"), V.str (Str.ofString "from")] = true; decide +kernel) ?_
        refine ⟨_, rfl, rfl, _, rfl, ?_⟩
        refine ifF (by show decide (V.str (Str.ofString "from") = V.str (Str.ofString "while")) = false; decide +kernel) ?_
        refine ⟨Str.ofString "dropwhile", Str.ofString "(lambda x: ", rfl, rfl, by omega, _, rfl, a, t, [120], congrArg (fun z => [V.ref a, V.str z]) (by decide +kernel), same_seqT (s1.trans s2) hS, hN, h4, by decide, fun H3 s3 => ?_⟩
        refine ⟨Str.ofString "dropwhile" ++ Str.ofString "(lambda x: ", mk (appl t [120]), rfl, rfl, (by simp only [Str.length_append, len_mk, List.length_append, List.length_cons, List.length_nil]; omega), Str.ofString "dropwhile" ++ Str.ofString "(lambda x: " ++ mk (appl t [120]), Str.ofString ", rows", rfl, rfl, (by simp only [Str.length_append, len_mk, List.length_append, List.length_cons, List.length_nil]; omega), ?_⟩
        refine ⟨_, rfl, b, rfl, ?_⟩
        cases b with
        | true =>
          refine iteT ⟨_, rfl, Str.ofString "rows = list(", Str.ofString "dropwhile" ++ Str.ofString "(lambda x: " ++ mk (appl t [120]) ++ Str.ofString ", rows", rfl, rfl, (by simp only [Str.length_append, len_mk, List.length_append, List.length_cons, List.length_nil]; omega), Str.ofString "rows = list(" ++ (Str.ofString "dropwhile" ++ Str.ofString "(lambda x: " ++ mk (appl t [120]) ++ Str.ofString ", rows"), Str.ofString "))", rfl, rfl, (by simp only [Str.length_append, len_mk, List.length_append, List.length_cons, List.length_nil]; omega), ?_⟩
          have e : Str.ofString "rows = list(" ++ (Str.ofString "dropwhile" ++ Str.ofString "(lambda x: " ++ mk (appl t [120]) ++ Str.ofString ", rows") ++ Str.ofString "))" = mk (lnL (.cl (.lam false t) true)) := by
            refine ext_tl ?_
            simp only [tl_append, tl_lit, tl_mk']
            show _ = L "rows = " ++ (L "list(" ++ ((L "dropwhile" ++ (40 :: ((L "lambda x: " ++ appl t [120]) ++ L ", rows)"))) ++ [41]))
            rw [show L "(lambda x: " = 40 :: L "lambda x: " by decide +kernel]
            rw [show L ", rows)" = L ", rows" ++ [41] by decide +kernel]
            rw [show L "rows = list(" = L "rows = " ++ L "list(" by decide +kernel]
            rw [show L "))" = [41] ++ [41] by decide +kernel]
            simp
          have fin := q _ ((s1.trans s2).trans s3)
          rw [show lnL (lnOf _) = lnL (.cl (.lam false t) true) from rfl, ← e] at fin
          exact fin
        | false =>
          refine iteF ⟨_, rfl, Str.ofString "rows = ", Str.ofString "dropwhile" ++ Str.ofString "(lambda x: " ++ mk (appl t [120]) ++ Str.ofString ", rows", rfl, rfl, (by simp only [Str.length_append, len_mk, List.length_append, List.length_cons, List.length_nil]; omega), Str.ofString "rows = " ++ (Str.ofString "dropwhile" ++ Str.ofString "(lambda x: " ++ mk (appl t [120]) ++ Str.ofString ", rows"), Str.ofString ")", rfl, rfl, (by simp only [Str.length_append, len_mk, List.length_append, List.length_cons, List.length_nil]; omega), ?_⟩
          have e : Str.ofString "rows = " ++ (Str.ofString "dropwhile" ++ Str.ofString "(lambda x: " ++ mk (appl t [120]) ++ Str.ofString ", rows") ++ Str.ofString ")" = mk (lnL (.cl (.lam false t) false)) := by
            refine ext_tl ?_
            simp only [tl_append, tl_lit, tl_mk']
            show _ = L "rows = " ++ (L "dropwhile" ++ (40 :: ((L "lambda x: " ++ appl t [120]) ++ L ", rows)")))
            rw [show L "(lambda x: " = 40 :: L "lambda x: " by decide +kernel]
            rw [show L ", rows)" = L ", rows" ++ [41] by decide +kernel]
            rw [show L ")" = [41] by decide +kernel]
            simp
          have fin := q _ ((s1.trans s2).trans s3)
          rw [show lnL (lnOf _) = lnL (.cl (.lam false t) false) from rfl, ← e] at fin
          exact fin
    | first n b =>
      have hv : v = .int n := hd
      subst hv
      have hdl : (dig n).length = 1 := rfl
      refine ⟨_, rfl, rfl, _, rfl, ?_⟩
      refine ifF (by show decide (V.str (Str.ofString "first") = V.str (Str.ofString "turned")) = false; decide +kernel) ?_
      refine ⟨_, rfl, rfl, _, rfl, ?_⟩
      refine ifF (by show decide (V.str (Str.ofString "first") = V.str (Str.ofString "last")) = false; decide +kernel) ?_
      refine ⟨_, rfl, rfl, _, rfl, ?_⟩
      refine ifF (by show decide (V.str (Str.ofString "first") = V.str (Str.ofString "but last")) = false; decide +kernel) ?_
      refine ⟨_, rfl, by show 3 ≤ sizeLine; decide, fun l nl => ⟨l, _, rfl, .inl (SqL.of upd_same), rfl, rfl, _, rfl, ?_⟩⟩
      have s1 := same_new (o := .lst [V.str (Str.ofString "each"), V.str (Str.ofString "keep"), V.str (Str.ofString "drop")]) nl
      refine ifF (by show inV (V.str (Str.ofString "first")) [V.str (Str.ofString "each"), V.str (Str.ofString "keep"), V.str (Str.ofString "drop")] = false; decide +kernel) ?_
      refine ⟨_, rfl, .inl ⟨n, rfl, ho, Str.ofString "islice(rows, ", mk (dig n), rfl, rfl, (by simp only [Str.length_append, len_mk, List.length_append, List.length_cons, List.length_nil]; omega), ?_⟩⟩
      refine ⟨_, rfl, rfl, _, rfl, ?_⟩
      refine ifF (by show decide (V.str (Str.ofString "first") = V.str (Str.ofString "every")) = false; decide +kernel) ?_
      refine ⟨_, rfl, rfl, _, rfl, ?_⟩
      refine ifF (by show decide (V.str (Str.ofString "first") = V.str (Str.ofString "skip")) = false; decide +kernel) ?_
      refine ⟨_, rfl, by show 2 ≤ sizeLine; decide, fun l2 nl2 => ⟨l2, _, rfl, .inl (SqL.of upd_same), rfl, rfl, _, rfl, ?_⟩⟩
      have s2 := same_new (o := .lst [V.str (Str.ofString "while"), V.str (Str.ofString "from")]) nl2
      refine ifF (by show inV (V.str (Str.ofString "first")) [V.str (Str.ofString "while"), V.str (Str.ofString "from")] = false; decide +kernel) ?_
      refine ⟨_, rfl, b, rfl, ?_⟩
      cases b with
      | true =>
        refine iteT ⟨_, rfl, Str.ofString "rows = list(", Str.ofString "islice(rows, " ++ mk (dig n), rfl, rfl, (by simp only [Str.length_append, len_mk, List.length_append, List.length_cons, List.length_nil]; omega), Str.ofString "rows = list(" ++ (Str.ofString "islice(rows, " ++ mk (dig n)), Str.ofString "))", rfl, rfl, (by simp only [Str.length_append, len_mk, List.length_append, List.length_cons, List.length_nil]; omega), ?_⟩
        have e : Str.ofString "rows = list(" ++ (Str.ofString "islice(rows, " ++ mk (dig n)) ++ Str.ofString "))" = mk (lnL (.cl (.first n) true)) := by
          refine ext_tl ?_
          simp only [tl_append, tl_lit, tl_mk']
          show _ = L "rows = " ++ (L "list(" ++ ((L "islice(rows, " ++ (dig n ++ [41])) ++ [41]))
          rw [show L "rows = list(" = L "rows = " ++ L "list(" by decide +kernel]
          rw [show L "))" = [41] ++ [41] by decide +kernel]
          simp
        have fin := q _ (s1.trans s2)
        rw [show lnL (lnOf _) = lnL (.cl (.first n) true) from rfl, ← e] at fin
        exact fin
      | false =>
        refine iteF ⟨_, rfl, Str.ofString "rows = ", Str.ofString "islice(rows, " ++ mk (dig n), rfl, rfl, (by simp only [Str.length_append, len_mk, List.length_append, List.length_cons, List.length_nil]; omega), Str.ofString "rows = " ++ (Str.ofString "islice(rows, " ++ mk (dig n)), Str.ofString ")", rfl, rfl, (by simp only [Str.length_append, len_mk, List.length_append, List.length_cons, List.length_nil]; omega), ?_⟩
        have e : Str.ofString "rows = " ++ (Str.ofString "islice(rows, " ++ mk (dig n)) ++ Str.ofString ")" = mk (lnL (.cl (.first n) false)) := by
          refine ext_tl ?_
          simp only [tl_append, tl_lit, tl_mk']
          show _ = L "rows = " ++ (L "islice(rows, " ++ (dig n ++ [41]))
          rw [show L ")" = [41] by decide +kernel]
          simp
        have fin := q _ (s1.trans s2)
        rw [show lnL (lnOf _) = lnL (.cl (.first n) false) from rfl, ← e] at fin
        exact fin
    | skip n b =>
      have hv : v = .int n := hd
      subst hv
      have hdl : (dig n).length = 1 := rfl
      refine ⟨_, rfl, rfl, _, rfl, ?_⟩
      refine ifF (by show decide (V.str (Str.ofString "skip") = V.str (Str.ofString "turned")) = false; decide +kernel) ?_
      refine ⟨_, rfl, rfl, _, rfl, ?_⟩
      refine ifF (by show decide (V.str (Str.ofString "skip") = V.str (Str.ofString "last")) = false; decide +kernel) ?_
      refine ⟨_, rfl, rfl, _, rfl, ?_⟩
      refine ifF (by show decide (V.str (Str.ofString "skip") = V.str (Str.ofString "but last")) = false; decide +kernel) ?_
      refine ⟨_, rfl, by show 3 ≤ sizeLine; decide, fun l nl => ⟨l, _, rfl, .inl (SqL.of upd_same), rfl, rfl, _, rfl, ?_⟩⟩
      have s1 := same_new (o := .lst [V.str (Str.ofString "each"), V.str (Str.ofString "keep"), V.str (Str.ofString "drop")]) nl
      refine ifF (by show inV (V.str (Str.ofString "skip")) [V.str (Str.ofString "each"), V.str (Str.ofString "keep"), V.str (Str.ofString "drop")] = false; decide +kernel) ?_
      refine ⟨_, rfl, .inl ⟨n, rfl, ho, Str.ofString "islice(rows, ", mk (dig n), rfl, rfl, (by simp only [Str.length_append, len_mk, List.length_append, List.length_cons, List.length_nil]; omega), ?_⟩⟩
      refine ⟨_, rfl, rfl, _, rfl, ?_⟩
      refine ifF (by show decide (V.str (Str.ofString "skip") = V.str (Str.ofString "every")) = false; decide +kernel) ?_
      refine ⟨_, rfl, rfl, _, rfl, ?_⟩
      refine ifT (by show decide (V.str (Str.ofString "skip") = V.str (Str.ofString "skip")) = true; decide +kernel) ?_
      refine ⟨_, rfl, Str.ofString "islice(rows, " ++ mk (dig n), Str.ofString ", None", rfl, rfl, (by simp only [Str.length_append, len_mk, List.length_append, List.length_cons, List.length_nil]; omega), ?_⟩
      refine ⟨_, rfl, by show 2 ≤ sizeLine; decide, fun l2 nl2 => ⟨l2, _, rfl, .inl (SqL.of upd_same), rfl, rfl, _, rfl, ?_⟩⟩
      have s2 := same_new (o := .lst [V.str (Str.ofString "while"), V.str (Str.ofString "from")]) nl2
      refine ifF (by show inV (V.str (Str.ofString "skip")) [V.str (Str.ofString "while"), V.str (Str.ofString "from")] = false; decide +kernel) ?_
      refine ⟨_, rfl, b, rfl, ?_⟩
      cases b with
      | true =>
        refine iteT ⟨_, rfl, Str.ofString "rows = list(", Str.ofString "islice(rows, " ++ mk (dig n) ++ Str.ofString ", None", rfl, rfl, (by simp only [Str.length_append, len_mk, List.length_append, List.length_cons, List.length_nil]; omega), Str.ofString "rows = list(" ++ (Str.ofString "islice(rows, " ++ mk (dig n) ++ Str.ofString ", None"), Str.ofString "))", rfl, rfl, (by simp only [Str.length_append, len_mk, List.length_append, List.length_cons, List.length_nil]; omega), ?_⟩
        have e : Str.ofString "rows = list(" ++ (Str.ofString "islice(rows, " ++ mk (dig n) ++ Str.ofString ", None") ++ Str.ofString "))" = mk (lnL (.cl (.skip n) true)) := by
          refine ext_tl ?_
          simp only [tl_append, tl_lit, tl_mk']
          show _ = L "rows = " ++ (L "list(" ++ ((L "islice(rows, " ++ ((dig n ++ L ", None") ++ [41])) ++ [41]))
          rw [show L "rows = list(" = L "rows = " ++ L "list(" by decide +kernel]
          rw [show L "))" = [41] ++ [41] by decide +kernel]
          simp
        have fin := q _ (s1.trans s2)
        rw [show lnL (lnOf _) = lnL (.cl (.skip n) true) from rfl, ← e] at fin
        exact fin
      | false =>
        refine iteF ⟨_, rfl, Str.ofString "rows = ", Str.ofString "islice(rows, " ++ mk (dig n) ++ Str.ofString ", None", rfl, rfl, (by simp only [Str.length_append, len_mk, List.length_append, List.length_cons, List.length_nil]; omega), Str.ofString "rows = " ++ (Str.ofString "islice(rows, " ++ mk (dig n) ++ Str.ofString ", None"), Str.ofString ")", rfl, rfl, (by simp only [Str.length_append, len_mk, List.length_append, List.length_cons, List.length_nil]; omega), ?_⟩
        have e : Str.ofString "rows = " ++ (Str.ofString "islice(rows, " ++ mk (dig n) ++ Str.ofString ", None") ++ Str.ofString ")" = mk (lnL (.cl (.skip n) false)) := by
          refine ext_tl ?_
          simp only [tl_append, tl_lit, tl_mk']
          show _ = L "rows = " ++ (L "islice(rows, " ++ ((dig n ++ L ", None") ++ [41]))
          rw [show L ")" = [41] by decide +kernel]
          simp
        have fin := q _ (s1.trans s2)
        rw [show lnL (lnOf _) = lnL (.cl (.skip n) false) from rfl, ← e] at fin
        exact fin
    | every k r b =>
      obtain ⟨a, rfl, hS⟩ := hd
      have hdl : (dig k).length = 1 := rfl
      have hdl2 : (dig r).length = 1 := rfl
      obtain ⟨ho1, ho2, ho3⟩ := ho
      refine ⟨_, rfl, rfl, _, rfl, ?_⟩
      refine ifF (by show decide (V.str (Str.ofString "every") = V.str (Str.ofString "turned")) = false; decide +kernel) ?_
      refine ⟨_, rfl, rfl, _, rfl, ?_⟩
      refine ifF (by show decide (V.str (Str.ofString "every") = V.str (Str.ofString "last")) = false; decide +kernel) ?_
      refine ⟨_, rfl, rfl, _, rfl, ?_⟩
      refine ifF (by show decide (V.str (Str.ofString "every") = V.str (Str.ofString "but last")) = false; decide +kernel) ?_
      refine ⟨_, rfl, by show 3 ≤ sizeLine; decide, fun l nl => ⟨l, _, rfl, .inl (SqL.of upd_same), rfl, rfl, _, rfl, ?_⟩⟩
      have s1 := same_new (o := .lst [V.str (Str.ofString "each"), V.str (Str.ofString "keep"), V.str (Str.ofString "drop")]) nl
      refine ifF (by show inV (V.str (Str.ofString "every")) [V.str (Str.ofString "each"), V.str (Str.ofString "keep"), V.str (Str.ofString "drop")] = false; decide +kernel) ?_
      have gd : Dp K _ (.ref a) (.tuple [.int k, .int r]) := .tup (same_seqT s1 hS) (.cons (.int _) (.cons (.int _) .nil))
      have gs : (PyData.tuple [.int k, .int r]).shown.length ≤ 89 := shown_tup_le 41 (ds := [.int k, .int r]) fun d hd => by
        rcases List.mem_cons.mp hd with e | hd
        · rw [e]; exact shown_int_le (by show (k : Int).natAbs < 10 ^ 40; omega)
        · rw [List.mem_singleton.mp hd]; exact shown_int_le (by show (r : Int).natAbs < 10 ^ 40; omega)
      have gsh : (PyData.tuple [.int k, .int r]).showable = true := by
        have h1 : (k : Int).natAbs.log2 < 1920 := Nat.lt_of_le_of_lt (Nat.log2_le_self _) (by omega)
        have h2 : (r : Int).natAbs.log2 < 1920 := Nat.lt_of_le_of_lt (Nat.log2_le_self _) (by omega)
        show (decide ((k : Int).natAbs.log2 < 1920) && (decide ((r : Int).natAbs.log2 < 1920) && true)) = true
        rw [decide_eq_true h1, decide_eq_true h2]; rfl
      refine ⟨_, rfl, .inr ⟨a, .tuple [.int k, .int r], rfl, gd, gsh, rfl, by show 1 ≤ 8; decide, by omega, Str.ofString "islice(rows, ", _, rfl, rfl, by omega, ?_⟩⟩
      refine ⟨_, rfl, rfl, _, rfl, ?_⟩
      refine ifT (by show decide (V.str (Str.ofString "every") = V.str (Str.ofString "every")) = true; decide +kernel) ?_
      refine ⟨_, rfl, a, _, 1, _, rfl, rfl, same_seqT s1 hS, atI_nat (j := 1) rfl, .inl ⟨r, rfl, ho3, Str.ofString "islice(rows, ", mk (dig r), rfl, rfl, (by simp only [Str.length_append, len_mk, List.length_append, List.length_cons, List.length_nil]; omega), Str.ofString "islice(rows, " ++ mk (dig r), Str.ofString ", None, ", rfl, rfl, (by simp only [Str.length_append, len_mk, List.length_append, List.length_cons, List.length_nil]; omega), ?_⟩⟩
      refine ⟨_, rfl, a, _, 0, _, rfl, rfl, same_seqT s1 hS, atI_nat (j := 0) rfl, .inl ⟨k, rfl, ho2, Str.ofString "islice(rows, " ++ mk (dig r) ++ Str.ofString ", None, ", mk (dig k), rfl, rfl, (by simp only [Str.length_append, len_mk, List.length_append, List.length_cons, List.length_nil]; omega), ?_⟩⟩
      refine ⟨_, rfl, rfl, _, rfl, ?_⟩
      refine ifF (by show decide (V.str (Str.ofString "every") = V.str (Str.ofString "skip")) = false; decide +kernel) ?_
      refine ⟨_, rfl, by show 2 ≤ sizeLine; decide, fun l2 nl2 => ⟨l2, _, rfl, .inl (SqL.of upd_same), rfl, rfl, _, rfl, ?_⟩⟩
      have s2 := same_new (o := .lst [V.str (Str.ofString "while"), V.str (Str.ofString "from")]) nl2
      refine ifF (by show inV (V.str (Str.ofString "every")) [V.str (Str.ofString "while"), V.str (Str.ofString "from")] = false; decide +kernel) ?_
      refine ⟨_, rfl, b, rfl, ?_⟩
      cases b with
      | true =>
        refine iteT ⟨_, rfl, Str.ofString "rows = list(", Str.ofString "islice(rows, " ++ mk (dig r) ++ Str.ofString ", None, " ++ mk (dig k), rfl, rfl, (by simp only [Str.length_append, len_mk, List.length_append, List.length_cons, List.length_nil]; omega), Str.ofString "rows = list(" ++ (Str.ofString "islice(rows, " ++ mk (dig r) ++ Str.ofString ", None, " ++ mk (dig k)), Str.ofString "))", rfl, rfl, (by simp only [Str.length_append, len_mk, List.length_append, List.length_cons, List.length_nil]; omega), ?_⟩
        have e : Str.ofString "rows = list(" ++ (Str.ofString "islice(rows, " ++ mk (dig r) ++ Str.ofString ", None, " ++ mk (dig k)) ++ Str.ofString "))" = mk (lnL (.cl (.every k r) true)) := by
          refine ext_tl ?_
          simp only [tl_append, tl_lit, tl_mk']
          show _ = L "rows = " ++ (L "list(" ++ ((L "islice(rows, " ++ ((dig r ++ (L ", None, " ++ dig k)) ++ [41])) ++ [41]))
          rw [show L "rows = list(" = L "rows = " ++ L "list(" by decide +kernel]
          rw [show L "))" = [41] ++ [41] by decide +kernel]
          simp
        have fin := q _ (s1.trans s2)
        rw [show lnL (lnOf _) = lnL (.cl (.every k r) true) from rfl, ← e] at fin
        exact fin
      | false =>
        refine iteF ⟨_, rfl, Str.ofString "rows = ", Str.ofString "islice(rows, " ++ mk (dig r) ++ Str.ofString ", None, " ++ mk (dig k), rfl, rfl, (by simp only [Str.length_append, len_mk, List.length_append, List.length_cons, List.length_nil]; omega), Str.ofString "rows = " ++ (Str.ofString "islice(rows, " ++ mk (dig r) ++ Str.ofString ", None, " ++ mk (dig k)), Str.ofString ")", rfl, rfl, (by simp only [Str.length_append, len_mk, List.length_append, List.length_cons, List.length_nil]; omega), ?_⟩
        have e : Str.ofString "rows = " ++ (Str.ofString "islice(rows, " ++ mk (dig r) ++ Str.ofString ", None, " ++ mk (dig k)) ++ Str.ofString ")" = mk (lnL (.cl (.every k r) false)) := by
          refine ext_tl ?_
          simp only [tl_append, tl_lit, tl_mk']
          show _ = L "rows = " ++ (L "islice(rows, " ++ ((dig r ++ (L ", None, " ++ dig k)) ++ [41]))
          rw [show L ")" = [41] by decide +kernel]
          simp
        have fin := q _ (s1.trans s2)
        rw [show lnL (lnOf _) = lnL (.cl (.every k r) false) from rfl, ← e] at fin
        exact fin
end
end K

set_option Elab.async false
set_option linter.all false
set_option maxRecDepth 100000
set_option maxHeartbeats 4000000
/-! KL5: the law's draws: conditions, calls, rows. -/
namespace K
open PySem PySem.Spec PyProof.Rows L2 He TL LamX
def StepsV (K : PySem.W.Frag) (H : Hp) (ys : List V) (sgs : List SgL) : Prop := ys.length = sgs.length ∧ ∀ (i : Nat) (y : V) (sg : SgL), ys[i]? = some y → sgs[i]? = some sg → StepV K H y sg
theorem StepsV.sml {K : PySem.W.Frag} {H H' : Hp} {ys : List V} {sgs : List SgL} (e : SmL H H') (h : StepsV K H ys sgs) : StepsV K H' ys sgs := ⟨h.1, fun i y sg a b => (h.2 i y sg a b).sml e⟩
theorem StepsV.append {K : PySem.W.Frag} {H : Hp} {xs ys : List V} {a b : List SgL} (h1 : StepsV K H xs a) (h2 : StepsV K H ys b) : StepsV K H (xs ++ ys) (a ++ b) := by
  refine ⟨by simp [h1.1, h2.1], fun i y sg e1 e2 => ?_⟩
  have hl := h1.1
  by_cases hi : i < xs.length
  · rw [List.getElem?_append_left hi] at e1
    rw [List.getElem?_append_left (by omega)] at e2
    exact h1.2 i y sg e1 e2
  · rw [List.getElem?_append_right (by omega)] at e1
    rw [List.getElem?_append_right (by omega), ← hl] at e2
    exact h2.2 _ y sg e1 e2
theorem StepsV.one {K : PySem.W.Frag} {H : Hp} {y : V} {sg : SgL} (h : StepV K H y sg) : StepsV K H [y] [sg] := ⟨rfl, fun i z s e1 e2 => by
  match i with
  | 0 => cases e1; cases e2; exact h
  | i + 1 => simp at e1⟩
theorem StepsV.nil {K : PySem.W.Frag} {H : Hp} : StepsV K H [] [] := ⟨rfl, fun i z s e1 e2 => by simp at e1⟩
theorem kp_smlP {H H' : Hp} {p : Addr} (h : PurseAt H p) (k : Kp (· = p) H H') : SmL H H' := by
  obtain ⟨_, _, _, hh, _⟩ := h
  exact kp_sml hh k
theorem StepV.now {K : PySem.W.Frag} {H : Hp} {y : V} {f : Bool → SgL} (F : FOk f) (b : Bool) : StepV K H y (f false) → StepV K H y (f b) := fun ⟨t, v, c, h1, h2, h3, h4⟩ => ⟨t, v, c, h1, by rw [F.kd b]; exact h2, F.det _ _ _ _ h3, F.ok b⟩
/-- conditions and a word, the last one bearing now -/
theorem StepsV.bear {K : PySem.W.Frag} {H : Hp} {ys : List V} {fs : List (Bool → SgL)} (now : Bool) (hF : ∀ f ∈ fs, FOk f) (h : StepsV K H ys (fs.map fun f => f false)) : StepsV K H ys (bear now fs) := by
  refine ⟨by rw [bear_len, h.1, List.length_map], fun i y sg e1 e2 => ?_⟩
  rw [bear_at] at e2
  cases hf : fs[i]? with
  | none => rw [hf] at e2; cases e2
  | some f =>
    rw [hf] at e2
    cases e2
    exact (h.2 i y (f false) e1 (by rw [List.getElem?_map, hf]; rfl)).now (hF f (List.mem_of_getElem? hf)) _
def cf (c : Bool × List Nm) : Bool → SgL := fun b => Sg.ask (if c.1 = true then Kd.drop else Kd.keep) c.2 b
section
variable {P : Program} {w : World} {K : PySem.W.Frag} {mg : Str → Option Value} {base : Heap}
def spTest (K : PySem.W.Frag) : Sp := fun vs H Q _ => ∃ (p t : Addr) (tags : List Nm), vs = [.ref p, .ref t] ∧ PurseAt H p ∧ TagsAt H t p tags ∧
  ∀ H' a ns, Kp (· = p) H H' → PurseAt H' p → SqT K H' a (ns.map fun n => V.str (mk n)) → TestOk ns → (∀ n ∈ ns, n ∈ tags) → Q (.ref a) H'
theorem ok_law_test (T : Tx K mg w) : Ok1 P w K mg base 2 "_law_test" ["_law_purse_here", "_law_tags_here"] (spTest K) := by
  have nd := sc_law_test.nd
  refine T.d_law_test.mk sc_law_test bn_law_test (fun vs H Q E h => ?_) (fun cdv A outer s H vs Q E hr h => ?_)
  · obtain ⟨p, t, tags, rfl, _⟩ := h
    rfl
  · obtain ⟨p, t, tags, rfl, hp, ht, q⟩ := h
    have tk := ok_law_take (P := P) (base := base) T
    refine ⟨_, pss_one (ps_ret (pe_callTy call_tuple_of (by rfl) T.z_tuple bt_tuple (pa_cons (pe_lc (own := [("_law_k", 2)]) (g := gName 2) (tt := tYes) rfl nd (pi_range1 rfl T.z_range (pa_cons (pe_op op_add pe_int (pe_g tk hr (pa_cons (pv 0) (pa_cons pe_int pa_nil)))) pa_nil)) (blkOk_by (N := ["_law_purse_here", "_law_tags_here", "_law_k"]) (sc := defScope s_law_test) (by decide +kernel))
          (fun _ _ _ _ _ => pg_name (i := 2) nd rfl (Or.inl rfl)) (fun _ _ _ _ _ => pts_nil) (fun _ _ _ _ _ => pe_ix (ix_listK (Kf := K)) (pv 1) (pe_g tk hr (pa_cons (pv 0) (pa_cons (pe_callB (len_seqK (Kf := K)) (by rfl) T.z_len bt_len (pa_cons (pv 1) pa_nil)) pa_nil))) (fun _ _ => rfl))) pa_nil))), ?_⟩
    obtain ⟨htp, htl, htn, ht1, ht4⟩ := id ht
    refine ⟨_, rfl, p, 4, rfl, hp, by decide, by decide, fun H1 r1 k1 p1 h1 => ⟨1, (r1 : Int), rfl, rfl, 1 + (r1 : Int), rfl, by omega, by omega, fun D nD => ?_⟩⟩
    refine lc_draw walk_range (fun _ y => ∃ n, n ∈ tags ∧ y = .str (mk n)) (small1000 (by omega)) nD p1 (fun i x H4 H5 R N hi k4 p4 hy hR => ?_) (fun H4 ys k4 p4 hD hl hat => ?_)
    · obtain ⟨rfl, rfl⟩ := hy
      refine ⟨rfl, ?_⟩
      refine yes_if ?_
      have htx := ((ht.kp k1).kp k4).2.1
      refine ⟨_, rfl, _, rfl, _, rfl, t, _, rfl, .inl (SqL.of htx), p, (tags.length : Int), by rw [List.length_map]; rfl, p4, by omega, by omega, fun H6 r6 k6 p6 h6 => ?_⟩
      have htx6 := (((ht.kp k1).kp k4).kp k6).2.1
      have hr6 : r6 < tags.length := by omega
      exact ⟨t, _, r6, .str (mk tags[r6]), rfl, rfl, SqL.of htx6, atI_nat (j := r6) (by rw [List.getElem?_map, List.getElem?_eq_getElem hr6]; rfl), hR _ _ k6 p6 ⟨tags[r6], List.getElem_mem hr6, rfl⟩⟩
    · obtain ⟨nm, rfl, hnm⟩ := vals_map hat
      rw [List.length_map] at hl
      refine ⟨D, _, rfl, .inl ⟨SqL.of hD, fun x nx => ?_⟩⟩
      exact q _ x nm ((k1.trans k4).trans (Same.kp (same_new nx))) (p4.same (same_new nx)) (SqT.of upd_same) ⟨fun n hn => htn n (hnm n hn), by omega, by omega⟩ hnm
def spCondition (K : PySem.W.Frag) : Sp := fun vs H Q _ => ∃ (y : Addr) (c : Bool × List Nm) (a : Addr) (b : Bool), vs = [.ref y] ∧ SqT K H y [.str (kdC c), .ref a, .bl b] ∧ SqT K H a (c.2.map fun n => V.str (mk n)) ∧ TestOk c.2 ∧ ∀ H', Same H H' → Q (.str (mk (L " if " ++ condL c))) H'
theorem ok_law_condition (T : Tx K mg w) : Ok1 P w K mg base 2 "_law_condition" ["_law_part_here"] (spCondition K) := by
  refine T.d_law_condition.mk sc_law_condition bn_law_condition (fun vs H Q E h => ?_) (fun cdv A outer s H vs Q E hr h => ?_)
  · obtain ⟨y, c, a, b, rfl, _⟩ := h
    rfl
  · obtain ⟨y, ⟨dr, t⟩, a, b, rfl, hy, ha, ht, q⟩ := h
    refine ⟨_, pss_one (ps_ret (pe_op op_add_str (pe_op op_add_str pe_str (pe_ifExp (pt_cmpR op_eq (pe_ix ix_tup (pv 0) pe_int (fun _ _ => rfl)) pe_str (nomark _)) pe_str pe_str)) (pe_g (ok_law_applied T) hr (pa_cons (pe_ix ix_tup (pv 0) pe_int (fun _ _ => rfl)) (pa_cons pe_str pa_nil))))), ?_⟩
    have hal := appl_len ht.1 [120]
    simp only [List.length_cons, List.length_nil] at hal
    have h4 : t.length ≤ 4 := ht.2.2
    have big20 : sizeLine = 16777216 := by decide
    have zl : (Str.ofString " if ").length = 4 ∧ (Str.ofString "not ").length = 4 ∧ (Str.ofString "").length = 0 := by decide +kernel
    refine ⟨_, rfl, y, _, 0, _, rfl, rfl, hy, atI_nat (j := 0) rfl, rfl, _, rfl, ?_⟩
    cases dr with
    | true =>
      refine ifT (by show decide (V.str (Str.ofString "drop") = V.str (Str.ofString "drop")) = true; decide +kernel) ?_
      refine ⟨Str.ofString " if ", Str.ofString "not ", rfl, rfl, by omega, _, rfl, y, _, 1, _, rfl, rfl, hy, atI_nat (j := 1) rfl, a, t, [120], congrArg (fun z => [V.ref a, V.str z]) (by decide +kernel), ha, ht.1, h4, by decide, fun H2 s2 => ?_⟩
      refine ⟨Str.ofString " if " ++ Str.ofString "not ", mk (appl t [120]), rfl, rfl, (by simp only [Str.length_append, len_mk]; omega), ?_⟩
      have e : Str.ofString " if " ++ Str.ofString "not " ++ mk (appl t [120]) = mk (L " if " ++ condL (true, t)) := by
        rw [lit_mk, lit_mk, mk_app, mk_app, List.append_assoc]
        rfl
      have := q H2 s2
      rw [← e] at this
      exact this
    | false =>
      refine ifF (by show decide (V.str (Str.ofString "keep") = V.str (Str.ofString "drop")) = false; decide +kernel) ?_
      refine ⟨Str.ofString " if ", Str.ofString "", rfl, rfl, by omega, _, rfl, y, _, 1, _, rfl, rfl, hy, atI_nat (j := 1) rfl, a, t, [120], congrArg (fun z => [V.ref a, V.str z]) (by decide +kernel), ha, ht.1, h4, by decide, fun H2 s2 => ?_⟩
      refine ⟨Str.ofString " if " ++ Str.ofString "", mk (appl t [120]), rfl, rfl, (by simp only [Str.length_append, len_mk]; omega), ?_⟩
      have e : Str.ofString " if " ++ Str.ofString "" ++ mk (appl t [120]) = mk (L " if " ++ condL (false, t)) := by
        rw [lit_mk, lit_mk, mk_app, mk_app, show L "" = [] by decide +kernel, List.append_nil]
        rfl
      have := q H2 s2
      rw [← e] at this
      exact this
theorem kind_each {sg : SgL} (h : kindS sg = "each") : ∃ w b, sg = .each w b := by
  cases sg with
  | each w b => exact ⟨w, b, rfl⟩
  | ask k t c => cases k <;> exact absurd h (by show ¬ (Str.ofString _ = Str.ofString _); decide +kernel)
  | first n c => exact absurd h (by show ¬ (Str.ofString "first" = Str.ofString "each"); decide +kernel)
  | skip n c => exact absurd h (by show ¬ (Str.ofString "skip" = Str.ofString "each"); decide +kernel)
  | every k r c => exact absurd h (by show ¬ (Str.ofString "every" = Str.ofString "each"); decide +kernel)
  | last n => exact absurd h (by show ¬ (Str.ofString "last" = Str.ofString "each"); decide +kernel)
  | but n => exact absurd h (by show ¬ (Str.ofString "but last" = Str.ofString "each"); decide +kernel)
  | turned => exact absurd h (by show ¬ (Str.ofString "turned" = Str.ofString "each"); decide +kernel)
/-- the drawn conditions stand in a list -/
def CondsAt (K : PySem.W.Frag) (H : Hp) (ys : List V) (cs : List (Bool × List Nm)) : Prop := ys.length = cs.length ∧ ∀ (i : Nat) (y : V) (c : Bool × List Nm), ys[i]? = some y → cs[i]? = some c → ∃ t a b, y = .ref t ∧ SqT K H t [.str (kdC c), .ref a, .bl b] ∧ SqT K H a (c.2.map fun n => V.str (mk n))
theorem CondsAt.sml {H H' : Hp} {ys : List V} {cs : List (Bool × List Nm)} (e : SmL H H') (h : CondsAt K H ys cs) : CondsAt K H' ys cs := ⟨h.1, fun i y c a b => let ⟨t, a', b', h1, h2, h3⟩ := h.2 i y c a b; ⟨t, a', b', h1, e.seqT h2, e.seqT h3⟩⟩
theorem CondsAt.snoc {H : Hp} {ys : List V} {cs : List (Bool × List Nm)} {y : V} {c : Bool × List Nm} (h : CondsAt K H ys cs) (h1 : ∃ t a b, y = .ref t ∧ SqT K H t [.str (kdC c), .ref a, .bl b] ∧ SqT K H a (c.2.map fun n => V.str (mk n))) : CondsAt K H (ys ++ [y]) (cs ++ [c]) := by
  refine ⟨by simp [h.1], fun i z r e1 e2 => ?_⟩
  have hl := h.1
  by_cases hi : i < ys.length
  · rw [List.getElem?_append_left hi] at e1
    rw [List.getElem?_append_left (by omega)] at e2
    exact h.2 i z r e1 e2
  · rw [List.getElem?_append_right (by omega)] at e1
    rw [List.getElem?_append_right (by omega), ← hl] at e2
    cases hj : i - ys.length with
    | zero => rw [hj] at e1 e2; cases e1; cases e2; exact h1
    | succ k => rw [hj] at e1; simp at e1
theorem cond_step {H : Hp} {y : V} {c : Bool × List Nm} (ho : TestOk c.2) (h : ∃ t a b, y = .ref t ∧ SqT K H t [.str (kdC c), .ref a, .bl b] ∧ SqT K H a (c.2.map fun n => V.str (mk n))) : StepV K H y (cf c false) := by
  obtain ⟨t, a, b, h1, h2, h3⟩ := h
  obtain ⟨d, ns⟩ := c
  cases d
  · exact ⟨t, .ref a, b, h1, h2, ⟨a, rfl, h3⟩, ho⟩
  · exact ⟨t, .ref a, b, h1, h2, ⟨a, rfl, h3⟩, ho⟩
theorem CondsAt.steps {H : Hp} {ys : List V} {cs : List (Bool × List Nm)} (ho : ∀ c ∈ cs, TestOk c.2) (h : CondsAt K H ys cs) : StepsV K H ys (cs.map fun c => cf c false) := by
  refine ⟨by rw [h.1, List.length_map], fun i y sg e1 e2 => ?_⟩
  rw [List.getElem?_map] at e2
  cases hc : cs[i]? with
  | none => rw [hc] at e2; cases e2
  | some c =>
    rw [hc] at e2
    cases e2
    exact cond_step (ho c (List.mem_of_getElem? hc)) (h.2 i y c e1 hc)
/-- what a row gives: its line and its steps -/
def RowV (K : PySem.W.Frag) (H : Hp) (p r : Addr) (l : Ln) (tags : List Nm) : Prop := ∃ so ys, H r = some (.lst [.str (mk (lnL l)), .ref so]) ∧ r ≠ p ∧ H so = some (.lst ys) ∧ so ≠ p ∧ StepsV K H ys (lnSg l) ∧ LnOk l ∧ ∀ n ∈ namesOf (lnSg l), n ∈ tags
def spRow (K : PySem.W.Frag) : Sp := fun vs H Q _ => ∃ (p t : Addr) (tags : List Nm), vs = [.ref p, .ref t] ∧ PurseAt H p ∧ TagsAt H t p tags ∧ ∀ H' r l, Kp (· = p) H H' → PurseAt H' p → RowV K H' p r l tags → Q (.ref r) H'
theorem ok_law_call (T : Tx K mg w) : Ok1 P w K mg base 2 "_law_call" ["_law_purse_here", "_law_tags_here"] (spRow K) := by
  have nd := sc_law_call.nd
  refine T.d_law_call.mk sc_law_call bn_law_call (fun vs H Q E h => ?_) (fun cdv A outer s H vs Q E hr h => ?_)
  · obtain ⟨p, t, tags, rfl, _⟩ := h
    rfl
  · obtain ⟨p, t, tags, rfl, hp, ht, q⟩ := h
    have tk := ok_law_take (P := P) (base := base) T
    refine ⟨_, pss_cons (ps_par (i := 2) (j := 3) (by rfl) nd rfl rfl (by decide) rfl rfl (pa_cons (pe_g tk hr (pa_cons (pv 0) (pa_cons pe_int pa_nil))) (pa_cons (pe_cmpR op_eq (pe_g tk hr (pa_cons (pv 0) (pa_cons pe_int pa_nil))) pe_int (nomark _)) pa_nil)) (by rfl))
      (pss_cons (ps_set (i := 4) nd rfl (.inl rfl) (pe_ix ix_list (pv 1) (pe_g tk hr (pa_cons (pv 0) (pa_cons (pe_callB call_len_seq (by rfl) T.z_len bt_len (pa_cons (pv 1) pa_nil)) pa_nil))) (fun _ _ => rfl)))
      (pss_cons (ps_set (i := 5) nd rfl (.inl rfl) (pe_op op_add_str (pe_op op_add_str (pe_op op_add_str (pe_ix ix_list (pe_lst (pa_cons pe_str (pa_cons pe_str (pa_cons pe_str (pa_cons pe_str pa_nil))))) (pv 2) (fun _ _ => rfl)) pe_str) (pv 4)) pe_str))
      (pss_cons (ps_set (i := 6) nd rfl (.inl rfl) (pe_ix ix_list (pe_lst (pa_cons pe_str (pa_cons pe_str (pa_cons pe_str (pa_cons pe_str pa_nil))))) (pv 2) (fun _ _ => rfl)))
      (pss_one (ps_ret (pe_lst (pa_cons (pe_ifExp (pt_val (pv 3)) (pe_op op_add_str (pe_op op_add_str pe_str (pv 5)) pe_str) (pe_op op_add_str pe_str (pv 5)))
        (pa_cons (pe_lst (pa_cons (pe_tup (pa_cons (pv 6) (pa_cons (pe_tup (pa_cons (pv 4) pa_nil)) (pa_cons (pv 3) pa_nil)))) pa_nil)) pa_nil)))))))), ?_⟩
    obtain ⟨htp, htl, htn, ht1, ht4⟩ := id ht
    have big20 : sizeLine = 16777216 := by decide
    have zl : (Str.ofString "(").length = 1 ∧ (Str.ofString ", rows)").length = 7 ∧ (Str.ofString "rows = list(").length = 12 ∧ (Str.ofString ")").length = 1 ∧ (Str.ofString "rows = ").length = 7 := by decide +kernel
    refine ⟨_, rfl, p, 4, rfl, hp, by decide, by decide, fun H1 r1 k1 p1 h1 => ⟨_, rfl, p, 2, rfl, p1, by decide, by decide, fun H2 r2 k2 p2 h2 => ⟨rfl, _, _, rfl, ?_⟩⟩⟩
    have k02 := k1.trans k2
    have htx := (ht.kp k02).2.1
    refine ⟨_, rfl, _, rfl, _, rfl, t, _, rfl, .inl (SqL.of htx), p, (tags.length : Int), by rw [List.length_map]; rfl, p2, by omega, by omega, fun H3 r3 k3 p3 h3 => ?_⟩
    have hr3 : r3 < tags.length := by omega
    have htx3 := ((ht.kp k02).kp k3).2.1
    have hf := htn tags[r3] (List.getElem_mem hr3)
    have hfm := List.getElem_mem hr3
    refine ⟨t, _, r3, .str (mk tags[r3]), rfl, rfl, SqL.of htx3, atI_nat (j := r3) (by rw [List.getElem?_map, List.getElem?_eq_getElem hr3]; rfl), ?_⟩
    generalize tags[r3] = f at hf hfm
    have hfl := (isNameL_len hf).1
    have k03 := k02.trans k3
    obtain ⟨k, hk1, hk2⟩ : ∃ k : Wy, [V.str (Str.ofString "map"), .str (Str.ofString "filter"), .str (Str.ofString "takewhile"), .str (Str.ofString "dropwhile")][r1]? = some (.str (mk (wyL k))) ∧ [V.str (Str.ofString "each"), .str (Str.ofString "keep"), .str (Str.ofString "while"), .str (Str.ofString "from")][r1]? = some (.str (wyK k)) := by
      have h4 : r1 < 4 := by omega
      match r1, h4 with
      | 0, _ => exact ⟨.map, by show some (V.str (Str.ofString "map")) = some (V.str (mk (L "map"))); rw [lit_mk], rfl⟩
      | 1, _ => exact ⟨.filter, by show some (V.str (Str.ofString "filter")) = some (V.str (mk (L "filter"))); rw [lit_mk], rfl⟩
      | 2, _ => exact ⟨.takewhile, by show some (V.str (Str.ofString "takewhile")) = some (V.str (mk (L "takewhile"))); rw [lit_mk], rfl⟩
      | 3, _ => exact ⟨.dropwhile, by show some (V.str (Str.ofString "dropwhile")) = some (V.str (mk (L "dropwhile"))); rw [lit_mk], rfl⟩
    have hwl := wyL_len k
    refine ⟨by show 4 ≤ sizeLine; decide, fun l1 nl1 => ⟨_, rfl, l1, _, r1, _, rfl, rfl, SqL.of upd_same, atI_nat (j := r1) hk1, mk (wyL k), Str.ofString "(", rfl, rfl, (by simp only [Str.length_append, len_mk]; omega), _, rfl, mk (wyL k) ++ Str.ofString "(", mk f, rfl, rfl, (by simp only [Str.length_append, len_mk]; omega), mk (wyL k) ++ Str.ofString "(" ++ mk f, Str.ofString ", rows)", rfl, rfl, (by simp only [Str.length_append, len_mk]; omega), ?_⟩⟩
    have sl1 := same_new (o := .lst [V.str (Str.ofString "map"), .str (Str.ofString "filter"), .str (Str.ofString "takewhile"), .str (Str.ofString "dropwhile")]) nl1
    refine ⟨by show 4 ≤ sizeLine; decide, fun l2 nl2 => ⟨_, rfl, l2, _, r1, _, rfl, rfl, SqL.of upd_same, atI_nat (j := r1) hk2, ?_⟩⟩
    have sl2 := same_new (o := .lst [V.str (Str.ofString "each"), .str (Str.ofString "keep"), .str (Str.ofString "while"), .str (Str.ofString "from")]) nl2
    have sA := sl1.trans sl2
    have ecl : mk (wyL k) ++ Str.ofString "(" ++ mk f ++ Str.ofString ", rows)" = mk (clL (.call k f)) := by
      rw [lit_mk "(", lit_mk ", rows)", mk_app, mk_app, mk_app, show L "(" = [40] by decide +kernel]
      show _ = mk (wyL k ++ (40 :: (f ++ L ", rows)")))
      congr 1
      simp
    have fin : ∀ (line : Str) (now : Bool), line = mk (lnL (.cl (.call k f) now)) → ∀ (H4 : Hp), Same H3 H4 → ∀ t1, H4 t1 = none → ∀ t2, (upd H4 t1 (.tup [.str (mk f)])) t2 = none → ∀ l3, (upd (upd H4 t1 (.tup [.str (mk f)])) t2 (.tup [.str (wyK k), .ref t1, .bl now])) l3 = none →
        ∀ l4, (upd (upd (upd H4 t1 (.tup [.str (mk f)])) t2 (.tup [.str (wyK k), .ref t1, .bl now])) l3 (.lst [.ref t2])) l4 = none → Q (.ref l4) (upd (upd (upd (upd H4 t1 (.tup [.str (mk f)])) t2 (.tup [.str (wyK k), .ref t1, .bl now])) l3 (.lst [.ref t2])) l4 (.lst [.str line, .ref l3])) := fun line now he H4 s4 t1 n1 t2 n2 l3 n3 l4 n4 => by
      have a1 := same_new (o := .tup [.str (mk f)]) n1
      have a2 := same_new (o := .tup [.str (wyK k), .ref t1, .bl now]) n2
      have a3 := same_new (o := .lst [.ref t2]) n3
      have a4 := same_new (o := .lst [.str line, .ref l3]) n4
      have hpx : ∀ {H : Hp} {x : Addr}, PurseAt H p → H x = none → x ≠ p := fun hp hx z => by
        obtain ⟨_, _, _, h, _⟩ := hp
        rw [z, h] at hx; cases hx
      have pA := (((p3.same s4).same a1).same a2)
      have hst : StepV K (upd (upd (upd (upd H4 t1 (.tup [.str (mk f)])) t2 (.tup [.str (wyK k), .ref t1, .bl now])) l3 (.lst [.ref t2])) l4 (.lst [.str line, .ref l3])) (.ref t2) (clSg now (.call k f)) := by
        have hS : SqT K (upd (upd (upd (upd H4 t1 (.tup [.str (mk f)])) t2 (.tup [.str (wyK k), .ref t1, .bl now])) l3 (.lst [.ref t2])) l4 (.lst [.str line, .ref l3])) t1 ([f].map fun n => V.str (mk n)) := SqT.of (a4 _ _ (a3 _ _ (a2 _ _ upd_same)))
        have hT : SqT K (upd (upd (upd (upd H4 t1 (.tup [.str (mk f)])) t2 (.tup [.str (wyK k), .ref t1, .bl now])) l3 (.lst [.ref t2])) l4 (.lst [.str line, .ref l3])) t2 [.str (wyK k), .ref t1, .bl now] := SqT.of (a4 _ _ (a3 _ _ upd_same))
        have hN : NamesL [f] := fun n hn => by rw [List.mem_singleton.mp hn]; exact hf
        cases k with
        | map => exact ⟨t2, .ref t1, now, rfl, hT, ⟨t1, rfl, hS⟩, hN, by show 1 ≤ 3; decide⟩
        | filter => exact ⟨t2, .ref t1, now, rfl, hT, ⟨t1, rfl, hS⟩, hN, by show 1 ≤ 1; decide, by show 1 ≤ 4; decide⟩
        | takewhile => exact ⟨t2, .ref t1, now, rfl, hT, ⟨t1, rfl, hS⟩, hN, by show 1 ≤ 1; decide, by show 1 ≤ 4; decide⟩
        | dropwhile => exact ⟨t2, .ref t1, now, rfl, hT, ⟨t1, rfl, hS⟩, hN, by show 1 ≤ 1; decide, by show 1 ≤ 4; decide⟩
      refine q _ l4 (.cl (.call k f) now) (k03.trans (Same.kp ((((s4.trans a1).trans a2).trans a3).trans a4))) ((pA.same a3).same a4) ⟨l3, [.ref t2], by rw [upd_same, he], hpx (pA.same a3) n4, a4 _ _ upd_same, hpx pA n3, StepsV.one hst, hf, fun n hn => ?_⟩
      have : n ∈ [f] := by
        have h1 : namesOf (lnSg (.cl (.call k f) now)) = [f] := by cases k <;> rfl
        rw [h1] at hn; exact hn
      rw [List.mem_singleton.mp this]
      exact hfm
    refine ⟨_, rfl, _, rfl, ?_⟩
    cases hb : decide (V.int (r2 : Int) = V.int 0) with
    | true =>
      refine iteT ⟨_, rfl, Str.ofString "rows = list(", mk (wyL k) ++ Str.ofString "(" ++ mk f ++ Str.ofString ", rows)", rfl, rfl, (by simp only [Str.length_append, len_mk]; omega), Str.ofString "rows = list(" ++ (mk (wyL k) ++ Str.ofString "(" ++ mk f ++ Str.ofString ", rows)"), Str.ofString ")", rfl, rfl, (by simp only [Str.length_append, len_mk]; omega), _, rfl, _, rfl, by show 1 ≤ sizeLine; decide, fun t1 n1 => ⟨_, rfl, by show 3 ≤ sizeLine; decide, fun t2 n2 => ⟨by show 1 ≤ sizeLine; decide, fun l3 n3 => ⟨by show 2 ≤ sizeLine; decide, fun l4 n4 => ?_⟩⟩⟩⟩
      refine fin _ true ?_ _ sA t1 n1 t2 n2 l3 n3 l4 n4
      rw [ecl, lit_mk "rows = list(", lit_mk ")", mk_app, mk_app, show L "rows = list(" = L "rows = " ++ L "list(" by decide +kernel, show L ")" = [41] by decide +kernel]
      show _ = mk (L "rows = " ++ (L "list(" ++ (clL (.call k f) ++ [41])))
      congr 1
      all_goals simp
    | false =>
      refine iteF ⟨_, rfl, Str.ofString "rows = ", mk (wyL k) ++ Str.ofString "(" ++ mk f ++ Str.ofString ", rows)", rfl, rfl, (by simp only [Str.length_append, len_mk]; omega), _, rfl, _, rfl, by show 1 ≤ sizeLine; decide, fun t1 n1 => ⟨_, rfl, by show 3 ≤ sizeLine; decide, fun t2 n2 => ⟨by show 1 ≤ sizeLine; decide, fun l3 n3 => ⟨by show 2 ≤ sizeLine; decide, fun l4 n4 => ?_⟩⟩⟩⟩
      refine fin _ false ?_ _ sA t1 n1 t2 n2 l3 n3 l4 n4
      rw [ecl, lit_mk "rows = ", mk_app]
      rfl
end
end K

set_option Elab.async false
set_option linter.all false
set_option maxRecDepth 100000
set_option maxHeartbeats 4000000
/-! KL6: the law's draws: conditions. -/
namespace K
open PySem PySem.Spec PyProof.Rows L2 He TL LamX
theorem purse_ne {H : Hp} {p x : Addr} (hp : PurseAt H p) (hx : H x = none) : x ≠ p := fun z => by
  obtain ⟨_, _, _, h, _⟩ := hp
  rw [z, h] at hx; cases hx
theorem cut_init (xs : List V) (v : V) : cutV (xs ++ [v]) none (some (-1)) = xs := by
  unfold cutV
  rw [HT.sIx_none]
  have : HT.sIx (xs ++ [v]).length (xs ++ [v]).length (some (-1)) = xs.length := by
    show (if (-1 : Int) < 0 then (-1 + ((xs ++ [v]).length : Int)).toNat else min (-1 : Int).toNat (xs ++ [v]).length) = _
    rw [if_pos (by decide), List.length_append]
    simp
    omega
  rw [this, List.drop_zero, Nat.sub_zero, List.take_left]
theorem CondsAt.init {K : PySem.W.Frag} {H : Hp} {ys : List V} {cs : List (Bool × List Nm)} {y : V} {c : Bool × List Nm} (h : CondsAt K H (ys ++ [y]) (cs ++ [c])) : CondsAt K H ys cs ∧ ∃ t a b, y = .ref t ∧ SqT K H t [.str (kdC c), .ref a, .bl b] ∧ SqT K H a (c.2.map fun n => V.str (mk n)) := by
  have hl : ys.length = cs.length := by have := h.1; simpa using this
  refine ⟨⟨hl, fun i z d e1 e2 => ?_⟩, h.2 ys.length y c (by simp) (by rw [hl]; simp)⟩
  have hi : i < ys.length := by
    rcases Nat.lt_or_ge i ys.length with z | z
    · exact z
    · rw [List.getElem?_eq_none z] at e1; cases e1
  exact h.2 i z d (by rw [List.getElem?_append_left hi]; exact e1) (by rw [List.getElem?_append_left (by omega)]; exact e2)
theorem comp_names {w : List Nm} {cs : List (Bool × List Nm)} {now : Bool} {tags : List Nm} (hw : ∀ n ∈ w, n ∈ tags) (hc : ∀ c ∈ cs, ∀ n ∈ c.2, n ∈ tags) : ∀ n ∈ namesOf (bear now (compSg w cs)), n ∈ tags := fun n hn => by
  obtain ⟨l, hl, hn⟩ := List.mem_flatten.mp hn
  obtain ⟨sg, hs, rfl⟩ := List.mem_map.mp hl
  obtain ⟨i, hi, e⟩ := List.getElem_of_mem hs
  have e2 : (bear now (compSg w cs))[i]? = some sg := by rw [List.getElem?_eq_getElem hi, e]
  rw [bear_at] at e2
  cases hf : (compSg w cs)[i]? with
  | none => rw [hf] at e2; cases e2
  | some f =>
    rw [hf] at e2
    cases e2
    have hm := List.mem_of_getElem? hf
    unfold compSg at hm
    rcases List.mem_append.mp hm with z | z
    · obtain ⟨c, hc2, rfl⟩ := List.mem_map.mp z
      exact hc c hc2 n hn
    · split at z
      · cases z
      · rw [List.mem_singleton.mp z] at hn
        exact hw n hn
theorem join_conds (cs : List (Bool × List Nm)) : Txt.join (Str.ofString "") (cs.map fun c => mk (L " if " ++ condL c)) = mk (condsL cs) := by
  refine ext_tl ?_
  rw [join_eq, tl_join, tl_lit, show L "" = [] by decide +kernel, joinL_nil, List.map_map, tl_mk']
  rfl
theorem comp_map {w : List Nm} {cs : List (Bool × List Nm)} : (compSg w cs).map (fun f => f false) = (cs.map fun c => cf c false) ++ (if w = [] ∧ cs ≠ [] then [] else [Sg.each w false]) := by
  unfold compSg
  rw [List.map_append, List.map_map]
  congr 1
  split <;> rfl
section
variable {P : Program} {w : World} {K : PySem.W.Frag} {mg : Str → Option Value} {base : Heap}
theorem ok_law_conditions (T : Tx K mg w) : Ok1 P w K mg base 3 "_law_conditions" ["_law_purse_here", "_law_tags_here"] (spRow K) := by
  have nd := sc_law_conditions.nd
  refine T.d_law_conditions.mk sc_law_conditions bn_law_conditions (fun vs H Q E h => ?_) (fun cdv A outer s H vs Q E hr h => ?_)
  · obtain ⟨p, t, tags, rfl, _⟩ := h
    rfl
  · obtain ⟨p, t, tags, rfl, hp, ht, q⟩ := h
    have tk := ok_law_take (P := P) (base := base) T
    have hr1 := hr.mono (show 1 ≤ 2 by decide)
    refine ⟨_, pss_cons (ps_set (i := 2) nd rfl (.inl rfl) (pe_lst pa_nil))
      (pss_cons (ps_for PassesOwn.never rfl (pi_range1 rfl T.z_range (pa_cons (pe_op op_add pe_int (pe_g tk hr1 (pa_cons (pv 0) (pa_cons pe_int pa_nil)))) pa_nil)) (pg_name (i := 3) nd rfl (.inl rfl))
        (pss_cons (ps_set (i := 4) nd rfl (.inl rfl) (pe_ix ix_list (pe_lst (pa_cons pe_str (pa_cons pe_str pa_nil))) (pe_g tk hr1 (pa_cons (pv 0) (pa_cons pe_int pa_nil))) (fun _ _ => rfl)))
        (pss_one (ps_expr (pe_bm PySem.F.plainAttrs_list PySem.F.slot_list_append PySem.F.type_list_append mt_append (pv 2) (pa_cons (pe_tup (pa_cons (pv 4) (pa_cons (pe_g (ok_law_test T) hr (pa_cons (pv 0) (pa_cons (pv 1) pa_nil))) (pa_cons pe_bl pa_nil)))) pa_nil))))))
      (pss_cons (ps_set (i := 5) nd rfl (.inl rfl) (pe_cmpR op_eq (pe_g tk hr1 (pa_cons (pv 0) (pa_cons pe_int pa_nil))) pe_int (nomark _)))
      (pss_cons (ps_set (i := 6) nd rfl (.inl rfl) (pe_g (ok_law_detail T) hr (pa_cons (pv 0) (pa_cons (pv 1) (pa_cons pe_str pa_nil)))))
      (pss_cons (ps_set (i := 7) nd rfl (.inl rfl) (pe_op op_add_str (pe_op op_add_str (pe_g (ok_law_applied T) hr1 (pa_cons (pv 6) (pa_cons pe_str pa_nil))) pe_str)
          (pe_join pe_str (pe_lc (own := [("_law_part_here", 8)]) (g := gName 8) (tt := tYes) rfl nd (pi_list (pv 2)) (blkOk_by (N := ["_law_purse_here", "_law_tags_here", "_law_some", "_law_k", "_law_label", "_law_mode", "_law_word", "_law_found", "_law_part_here"]) (sc := defScope s_law_conditions) (by decide +kernel))
            (fun _ _ _ _ _ => pg_name (i := 8) nd rfl (Or.inl rfl)) (fun _ _ _ _ _ => pts_nil) (fun _ _ _ _ _ => pe_g (ok_law_condition T) hr (pa_cons (pv 8) pa_nil))))))
      (pss_cons (ps_if (pt_cmpR (op_eqD hr.units) (pv 6) (pe_tup pa_nil) (nomark _))
          (pss_one (ps_set (i := 2) nd rfl (.inl rfl) (pe_op op_cat (pe_slice sl_list (pv 2) po_none (po_some (pe_un un_neg pe_int))) (pe_lst (pa_cons (pe_tup (pa_cons (pe_ix ix_tup (pe_ix ix_list (pv 2) (pe_un un_neg pe_int) (fun _ _ => rfl)) pe_int (fun _ _ => rfl)) (pa_cons (pe_ix ix_tup (pe_ix ix_list (pv 2) (pe_un un_neg pe_int) (fun _ _ => rfl)) pe_int (fun _ _ => rfl)) (pa_cons (pv 5) pa_nil)))) pa_nil)))))
          (pss_one (ps_expr (pe_bm PySem.F.plainAttrs_list PySem.F.slot_list_append PySem.F.type_list_append mt_append (pv 2) (pa_cons (pe_tup (pa_cons pe_str (pa_cons (pv 6) (pa_cons (pv 5) pa_nil)))) pa_nil)))))
      (pss_one (ps_ret (pe_lst (pa_cons (pe_ifExp (pt_val (pv 5)) (pe_op op_add_str (pe_op op_add_str pe_str (pv 7)) pe_str) (pe_op op_add_str (pe_op op_add_str pe_str (pv 7)) pe_str)) (pa_cons (pv 2) pa_nil)))))))))), ?_⟩
    have big20 : sizeLine = 16777216 := by decide
    refine ⟨by decide, fun S nS => ?_⟩
    have sS := same_new (o := .lst []) nS
    have nSp := purse_ne hp nS
    refine ⟨_, rfl, p, 3, rfl, hp.same sS, by decide, by decide, fun H1 r1 k1 p1 h1 => ⟨1, (r1 : Int), rfl, rfl, 1 + (r1 : Int), rfl, by omega, by omega, ?_⟩⟩
    have k01 := (Same.kp (M := (· = p)) sS).trans k1
    refine for_it walk_range (fun i σ H' => Kp (· = p) H H' ∧ PurseAt H' p ∧ ∃ (ys : List V) (cs : List (Bool × List Nm)) (o3 o4 : Option V), σ = [some (.ref p), some (.ref t), some (.ref S), o3, o4, none, none, none, none] ∧ H' S = some (.lst ys) ∧ CondsAt K H' ys cs ∧ cs.length = i ∧ ∀ c ∈ cs, TestOk c.2 ∧ ∀ n ∈ c.2, n ∈ tags)
      ⟨k01, p1, [], [], none, none, rfl, k1 _ _ upd_same (.inl nSp), ⟨rfl, fun i y c h => by simp at h⟩, rfl, fun c h => by cases h⟩ (fun _ _ _ _ _ => trivial) (fun i x σ H3 H4 hi hpv hy => ?_) (fun σ H3 hpv => ?_)
    · obtain ⟨k3, p3, ys, cs, o3, o4, rfl, hS3, hC, hcl, hok⟩ := hpv
      obtain ⟨rfl, rfl⟩ := hy
      refine ⟨by show 2 ≤ sizeLine; decide, fun l nl => ?_⟩
      have sl := same_new (o := .lst [V.str "keep", V.str "drop"]) nl
      have nlp := purse_ne p3 nl
      refine ⟨_, rfl, p, 2, rfl, p3.same sl, by decide, by decide, fun H5 r5 k5 p5 h5 => ?_⟩
      obtain ⟨dr, hdr⟩ : ∃ dr : Bool, [V.str (Str.ofString "keep"), V.str (Str.ofString "drop")][r5]? = some (.str (if dr = true then "drop" else "keep")) := by
        have h2 : r5 < 2 := by omega
        match r5, h2 with
        | 0, _ => exact ⟨false, rfl⟩
        | 1, _ => exact ⟨true, rfl⟩
      refine ⟨l, _, r5, _, rfl, rfl, SqL.of (k5 _ _ upd_same (.inl nlp)), atI_nat (j := r5) hdr, ?_⟩
      have hS5 := k5 _ _ (sl _ _ hS3) (.inl nSp)
      have k05 := (k3.trans (Same.kp sl)).trans k5
      refine ⟨_, rfl, .inl ⟨rfl, ys, SqL.of hS5⟩, _, rfl, _, rfl, _, rfl, p, t, tags, rfl, p5, ht.kp k05, fun H6 a ns k6 p6 hA hT hn => ⟨by show 3 ≤ sizeLine; decide, fun x nx => ?_⟩⟩
      have sx := same_new (o := .tup [V.str (if dr = true then "drop" else "keep"), .ref a, .bl false]) nx
      have hS6 := k6 _ _ hS5 (.inl nSp)
      have hyl := hC.1
      refine ⟨S, ys, .ref x, rfl, rfl, sx _ _ hS6, small1000 (by omega), ?_⟩
      have k06 := (k05.trans k6).trans (Same.kp sx)
      have sml : SmL H4 (upd (upd H6 x (.tup [V.str (if dr = true then "drop" else "keep"), .ref a, .bl false])) S (.lst (ys ++ [.ref x]))) := (((SmL.of sl).trans (kp_smlP (p3.same sl) k5)).trans (kp_smlP p5 k6)).trans ((SmL.of sx).trans (SmL.put (sx _ _ hS6)))
      have pz : PurseAt (upd (upd H6 x (.tup [V.str (if dr = true then "drop" else "keep"), .ref a, .bl false])) S (.lst (ys ++ [.ref x]))) p := by
        obtain ⟨a1, a2, a3, a4, a5⟩ := p6.same sx
        exact ⟨a1, a2, a3, by rw [upd_ne (Ne.symm nSp)]; exact a4, a5⟩
      refine ⟨k06.trans' nS, pz, ys ++ [.ref x], cs ++ [(dr, ns)], _, _, rfl, upd_same, (hC.sml sml).snoc ⟨x, a, false, rfl, ?_, ?_⟩, by simp [hcl], fun c hc => ?_⟩
      · exact (SmL.put (sx _ _ hS6)).seqT (SqT.of upd_same)
      · exact (SmL.put (sx _ _ hS6)).seqT (same_seqT sx hA)
      · rcases List.mem_append.mp hc with z | z
        · exact hok c z
        · rw [List.mem_singleton.mp z]; exact ⟨hT, hn⟩
    · obtain ⟨k3, p3, ys, cs, o3, o4, rfl, hS3, hC, hcl, hok⟩ := hpv
      refine ⟨_, rfl, p, 2, rfl, p3, by decide, by decide, fun H6 r6 k6 p6 h6 => ⟨rfl, ?_⟩⟩
      have k06 := k3.trans k6
      have hS6 := k6 _ _ hS3 (.inl nSp)
      refine ⟨_, rfl, _, rfl, p, t, tags, .each [] false, rfl, p6, ht.kp k06, fun H7 v sg k7 p7 e7 hd ho hn => ?_⟩
      obtain ⟨wd, b0, rfl⟩ := kind_each e7
      obtain ⟨a, rfl, hA⟩ := hd
      have k07 := k06.trans k7
      have hS7 := k7 _ _ hS6 (.inl nSp)
      have hC7 := (hC.sml (kp_smlP p3 k6)).sml (kp_smlP p6 k7)
      have hal := appl_len ho.1 [120]
      simp only [List.length_cons, List.length_nil] at hal
      have hw3 : wd.length ≤ 3 := ho.2
      have zl : (Str.ofString " for x in rows").length = 14 ∧ (Str.ofString "rows = [").length = 8 ∧ (Str.ofString "]").length = 1 ∧ (Str.ofString "rows = (").length = 8 ∧ (Str.ofString ")").length = 1 := by decide +kernel
      have hct : ∀ c ∈ cs, TestOk c.2 := fun c hc => (hok c hc).1
      have hc3 : cs.length ≤ 3 := by omega
      have hcl2 := condsL_len hct
      have hyl := hC.1
      refine ⟨_, rfl, a, wd, [120], congrArg (fun z => [V.ref a, V.str z]) (by decide +kernel), hA, ho.1, by omega, by decide, fun H8 s8 => ?_⟩
      refine ⟨mk (appl wd [120]), Str.ofString " for x in rows", rfl, rfl, (by simp only [Str.length_append, len_mk]; omega), ?_⟩
      have hS8 := s8 _ _ hS7
      have hC8 := hC7.sml (SmL.of s8)
      refine ⟨⟨_, rfl⟩, _, rfl, S, rfl, ⟨ys, SqL.of hS8⟩, fun D nD => ?_⟩
      refine lc_pure (walk_list (xs := ys)) (cs.map fun c => V.str (mk (L " if " ++ condL c))) (by rw [List.length_map]; omega) (small1000 (by omega)) nD (fun H9 s9 => SqL.of (s9 _ _ hS8)) (fun i y H9 H10 R N hi s9 hy hR => ?_) (fun H9 s9 eD => ?_)
      · obtain ⟨rfl, hy⟩ := hy
        have hlt : i < cs.length := by omega
        have hci : cs[i]? = some cs[i] := List.getElem?_eq_getElem hlt
        have hcm := List.getElem_mem hlt
        generalize cs[i] = c at hci hcm
        obtain ⟨tc, ac, bc, rfl, c1, c2⟩ := hC8.2 i y c hy hci
        refine ⟨rfl, ?_⟩
        refine yes_if ?_
        exact ⟨_, rfl, tc, c, ac, bc, rfl, same_seqT s9 c1, same_seqT s9 c2, hct c hcm, fun H11 s11 => hR _ _ (by rw [List.getElem?_map, hci]; rfl) s11⟩
      have eD2 : H9 D = some (.lst ((cs.map fun c => mk (L " if " ++ condL c)).map V.str)) := by rw [eD, List.map_map]; rfl
      have hsum : ∀ l : List (Bool × List Nm), (∀ c ∈ l, TestOk c.2) → ((l.map fun c => mk (L " if " ++ condL c)).map (·.length)).sum ≤ 44 * l.length := fun l => by
        induction l with
        | nil => intro _; exact Nat.le_refl _
        | cons c l ih =>
          intro h
          have h1 := ih fun d hd => h d (List.mem_cons_of_mem _ hd)
          have h2 := condL_len (h c List.mem_cons_self)
          rw [List.map_cons, List.map_cons, List.sum_cons, List.length_cons, len_mk, List.length_append, show (L " if ").length = 4 by decide +kernel]
          omega
      have hsm := hsum cs hct
      refine ⟨Str.ofString "", D, cs.map fun c => mk (L " if " ++ condL c), rfl, rfl, .inl (SqL.of eD2), ?_, ?_⟩
      · rw [show (Str.ofString "").length = 0 by decide +kernel, Nat.mul_zero, Nat.add_zero]; omega
      rw [join_conds]
      refine ⟨mk (appl wd [120]) ++ Str.ofString " for x in rows", mk (condsL cs), rfl, rfl, (by simp only [Str.length_append, len_mk]; omega), ?_⟩
      have etx : mk (appl wd [120]) ++ Str.ofString " for x in rows" ++ mk (condsL cs) = mk (compL wd cs) := by
        rw [lit_mk, mk_app, mk_app, List.append_assoc]; rfl
      have s89 := s8.trans s9
      have k09 := k07.trans (Same.kp s89)
      have p9 := p7.same s89
      have hS9 := s9 _ _ hS8
      have hC9 := hC8.sml (SmL.of s9)
      have hA9 := same_seqT s89 hA
      obtain ⟨md, hmd⟩ : ∃ md, decide (V.int (r6 : Int) = V.int 0) = md := ⟨_, rfl⟩
      -- the answer
      have fin : ∀ (H10 : Hp) (S2 : Addr) (zs : List V), Kp (· = p) H H10 → PurseAt H10 p → H10 S2 = some (.lst zs) → S2 ≠ p → StepsV K H10 zs ((compSg wd cs).map fun f => f false) → ∀ line : Str, line = mk (lnL (.comp wd cs md)) →
          2 ≤ sizeLine ∧ ∀ r, H10 r = none → Q (.ref r) (upd H10 r (.lst [.str line, .ref S2])) := fun H10 S2 zs k10 p10 h1 h2 h3 line he => ⟨by decide, fun r nr => by
        have sr := same_new (o := .lst [V.str line, .ref S2]) nr
        refine q _ r (.comp wd cs md) (k10.trans (Same.kp sr)) (p10.same sr) ⟨S2, zs, by rw [upd_same, he], purse_ne p10 nr, sr _ _ h1, h2, ?_, ⟨ho.1, hw3, hc3, hct⟩, comp_names (fun n hn2 => hn n hn2) (fun c hc => (hok c hc).2)⟩
        exact StepsV.bear md (compSg_ok ho.1 hw3 hct) (h3.sml (SmL.of sr))⟩
      have eT : Str.ofString "rows = [" ++ mk (compL wd cs) ++ Str.ofString "]" = mk (lnL (.comp wd cs true)) := by
        rw [lit_mk, lit_mk, mk_app, mk_app, show L "rows = [" = L "rows = " ++ [91] by decide +kernel, show L "]" = [93] by decide +kernel]
        show _ = mk (L "rows = " ++ ([91] ++ (compL wd cs ++ [93])))
        congr 1
        all_goals simp
      have eF : Str.ofString "rows = (" ++ mk (compL wd cs) ++ Str.ofString ")" = mk (lnL (.comp wd cs false)) := by
        rw [lit_mk, lit_mk, mk_app, mk_app, show L "rows = (" = L "rows = " ++ [40] by decide +kernel, show L ")" = [41] by decide +kernel]
        show _ = mk (L "rows = " ++ ([40] ++ (compL wd cs ++ [41])))
        congr 1
        all_goals simp
      have hcL := compL_len ho.1 hw3 hc3 hct
      have hz : (mk (appl wd [120]) ++ Str.ofString " for x in rows" ++ mk (condsL cs)).length ≤ 200 := by rw [etx, len_mk]; exact hcL
      refine ⟨_, rfl, by decide, fun e0 ne0 => ⟨nmD wd, .tuple [], Dp_names (same_seqT (same_new ne0) hA9), .tup (SqT.of upd_same) .nil, shaped_of (nmD_lay ho.1).1 (by have := (nmD_lay ho.1).2; omega), rfl, _, rfl, ?_⟩⟩
      have se := same_new (o := .tup []) ne0
      have kE := k09.trans (Same.kp se)
      have pE := p9.same se
      have hSE := se _ _ hS9
      have hCE := hC9.sml (SmL.of se)
      have hAE := same_seqT se hA9
      have ret : ∀ (H10 : Hp) (S2 : Addr) (zs : List V), Kp (· = p) H H10 → PurseAt H10 p → H10 S2 = some (.lst zs) → S2 ≠ p → StepsV K H10 zs ((compSg wd cs).map fun f => f false) →
          ∀ (σ : L2.St), σ[5]? = some (some (.bl (decide (V.int (r6 : Int) = V.int 0)))) → σ[7]? = some (some (.str (mk (appl wd [120]) ++ Str.ofString " for x in rows" ++ mk (condsL cs)))) → σ[2]? = some (some (.ref S2)) →
          ∃ v, σ[5]? = some (some v) ∧ ∃ b, v = .bl b ∧ if b = true then (∃ v7, σ[7]? = some (some v7) ∧ ∃ x y, V.str (Str.ofString "rows = [") = .str x ∧ v7 = .str y ∧ x.length + y.length ≤ sizeLine ∧ ∃ x2 y2, V.str (x ++ y) = .str x2 ∧ V.str (Str.ofString "]") = .str y2 ∧ x2.length + y2.length ≤ sizeLine ∧ ∃ v2, σ[2]? = some (some v2) ∧ (2 ≤ sizeLine ∧ ∀ r, H10 r = none → Q (.ref r) (upd H10 r (.lst [.str (x2 ++ y2), v2]))))
            else (∃ v7, σ[7]? = some (some v7) ∧ ∃ x y, V.str (Str.ofString "rows = (") = .str x ∧ v7 = .str y ∧ x.length + y.length ≤ sizeLine ∧ ∃ x2 y2, V.str (x ++ y) = .str x2 ∧ V.str (Str.ofString ")") = .str y2 ∧ x2.length + y2.length ≤ sizeLine ∧ ∃ v2, σ[2]? = some (some v2) ∧ (2 ≤ sizeLine ∧ ∀ r, H10 r = none → Q (.ref r) (upd H10 r (.lst [.str (x2 ++ y2), v2])))) := fun H10 S2 zs a1 a2 a3 a4 a5 σ b5 b7 b2 => by
        refine ⟨_, b5, md, congrArg V.bl hmd, ?_⟩
        cases md with
        | true =>
          refine iteT ⟨_, b7, _, _, rfl, rfl, by omega, _, _, rfl, rfl, (by rw [Str.length_append]; omega), _, b2, ?_⟩
          exact fin H10 S2 zs a1 a2 a3 a4 a5 _ (by rw [etx]; exact eT)
        | false =>
          refine iteF ⟨_, b7, _, _, rfl, rfl, by omega, _, _, rfl, rfl, (by rw [Str.length_append]; omega), _, b2, ?_⟩
          exact fin H10 S2 zs a1 a2 a3 a4 a5 _ (by rw [etx]; exact eF)
      cases hwd : wd with
      | nil =>
        subst hwd
        refine ifT rfl ?_
        obtain ⟨cs', c, ecs⟩ : ∃ cs' c, cs = cs' ++ [c] := by
          rcases List.eq_nil_or_concat cs with z | ⟨a, b, z⟩
          · rw [z] at hcl; simp at hcl; omega
          · exact ⟨a, b, by rw [z] <;> simp⟩
        obtain ⟨ys', y, eys⟩ : ∃ ys' y, ys = ys' ++ [y] := by
          rcases List.eq_nil_or_concat ys with z | ⟨a, b, z⟩
          · rw [z, ecs] at hyl; simp at hyl
          · exact ⟨a, b, by rw [z] <;> simp⟩
        rw [ecs, eys] at hCE
        obtain ⟨hCi, tc, ac, bc, rfl, c1, c2⟩ := hCE.init
        have hSE' : SqL K _ S ys := SqL.of hSE
        rw [eys] at hSE'
        refine ⟨_, rfl, 1, rfl, -1, rfl, S, _, rfl, hSE', fun S1 n1 => ?_⟩
        rw [cut_init]
        have sS1 := same_new (o := .lst ys') n1
        have hSE1 := sql_same sS1 hSE'
        refine ⟨_, rfl, 1, rfl, S, _, -1, .ref tc, rfl, rfl, hSE1, atI_last _ _, tc, _, 0, _, rfl, rfl, same_seqT sS1 c1, atI_nat (j := 0) rfl, _, rfl, 1, rfl, S, _, -1, .ref tc, rfl, rfl, hSE1, atI_last _ _, tc, _, 1, _, rfl, rfl, same_seqT sS1 c1, atI_nat (j := 1) rfl, _, rfl, by show 3 ≤ sizeLine; decide, fun x nx => ⟨by show 1 ≤ sizeLine; decide, fun l3 n3 => ?_⟩⟩
        have sx := same_new (o := .tup [V.str (kdC c), .ref ac, .bl (decide (V.int (r6 : Int) = V.int 0))]) nx
        have s3 := same_new (o := .lst [V.ref x]) n3
        have hl' : ys'.length ≤ 3 := by rw [eys] at hyl; simp at hyl; omega
        refine ⟨S1, l3, ys', [.ref x], rfl, rfl, s3 _ _ (sx _ _ upd_same), upd_same, Nat.le_trans (show ys'.length + 1 ≤ 10 by omega) (by decide), fun S2 n2 => ?_⟩
        have s2 := same_new (o := .lst (ys' ++ [V.ref x])) n2
        have sA := ((sS1.trans sx).trans s3).trans s2
        have pA := pE.same ((sS1.trans sx).trans s3)
        refine ret _ S2 (ys' ++ [.ref x]) (kE.trans (Same.kp sA)) (pE.same sA) upd_same (purse_ne pA n2) ?_ _ rfl rfl rfl
        have hne : ([] : List Nm) = [] ∧ cs ≠ [] := ⟨rfl, by rw [ecs]; simp⟩
        rw [comp_map, if_pos hne, List.append_nil, ecs]
        refine CondsAt.steps (fun d hd => hct d (by rw [ecs]; exact hd)) ((hCi.sml (SmL.of sA)).snoc ⟨x, ac, _, rfl, SqT.of (s2 _ _ (s3 _ _ upd_same)), same_seqT sA c2⟩)
      | cons n0 w0 =>
        refine ifF rfl ?_
        refine ⟨_, rfl, .inl ⟨rfl, ys, SqL.of hSE⟩, _, rfl, _, rfl, by show 3 ≤ sizeLine; decide, fun x nx => ?_⟩
        have sx := same_new (o := .tup [V.str "each", .ref a, .bl (decide (V.int (r6 : Int) = V.int 0))]) nx
        have hSx := sx _ _ hSE
        refine ⟨S, ys, .ref x, rfl, rfl, hSx, small1000 (by omega), ?_⟩
        have sl : SmL _ (upd _ S (.lst (ys ++ [.ref x]))) := SmL.put hSx
        have pz : PurseAt (upd (upd (upd H9 e0 (.tup [])) x (.tup [V.str "each", .ref a, .bl (decide (V.int (r6 : Int) = V.int 0))])) S (.lst (ys ++ [.ref x]))) p := by
          obtain ⟨a1, a2, a3, a4, a5⟩ := pE.same sx
          exact ⟨a1, a2, a3, by rw [upd_ne (Ne.symm nSp)]; exact a4, a5⟩
        rw [← hwd]
        refine ret _ S (ys ++ [.ref x]) ((kE.trans (Same.kp sx)).trans' nS) pz upd_same nSp ?_ _ rfl (by rw [hwd]; rfl) rfl
        have hne : ¬ (wd = [] ∧ cs ≠ []) := fun z => by rw [hwd] at z; exact nomatch z.1
        rw [comp_map, if_neg hne]
        refine StepsV.append (CondsAt.steps hct ((hCE.sml (SmL.of sx)).sml sl)) (StepsV.one ⟨x, .ref a, _, rfl, sl.seqT (SqT.of upd_same), ⟨a, rfl, sl.seqT (same_seqT sx hAE)⟩, ho⟩)
end
end K

set_option Elab.async false
set_option linter.all false
set_option maxRecDepth 100000
set_option maxHeartbeats 4000000
/-! KL7: the law's draws: a row, the rows. -/
namespace K
open PySem PySem.Spec PyProof.Rows L2 He TL LamX
section
variable {P : Program} {w : World} {K : PySem.W.Frag} {mg : Str → Option Value} {base : Heap}
theorem ok_law_row (T : Tx K mg w) : OkG P w K mg base 4 "_law_row" ["_law_purse_here", "_law_tags_here"] (spRow K) := by
  have nd := sc_law_row.nd
  refine T.d_law_row.mkG sc_law_row bn_law_row (fun vs H Q E h => ?_) (fun cdv A outer s H vs Q E hgd hr h => ?_)
  · obtain ⟨p, t, tags, rfl, _⟩ := h
    rfl
  · obtain ⟨p, t, tags, rfl, hp, ht, q⟩ := h
    refine ⟨_, pss_cons (ps_set (i := 2) nd rfl (.inl rfl) (pe_g (ok_law_take T) (hr.mono (by decide)) (pa_cons (pv 0) (pa_cons pe_int pa_nil))))
      (pss_cons (ps_if (pt_cmpR op_lt (pv 2) pe_int (nomark _)) (pss_one (ps_ret (pe_g (ok_law_conditions T) hr (pa_cons (pv 0) (pa_cons (pv 1) pa_nil))))) pss_nil)
      (pss_cons (ps_if (pt_cmpR op_lt (pv 2) pe_int (nomark _)) (pss_one (ps_ret (pe_g (ok_law_call T) (hr.mono (by decide)) (pa_cons (pv 0) (pa_cons (pv 1) pa_nil))))) pss_nil)
      (pss_cons (ps_if (pt_cmpR op_eq (pv 2) pe_int (nomark _)) (pss_one (ps_ret (pe_lst (pa_cons pe_str (pa_cons (pe_lst (pa_cons (pe_tup (pa_cons pe_str (pa_cons (pe_tup pa_nil) (pa_cons pe_bl pa_nil)))) pa_nil)) pa_nil))))) pss_nil)
      (pss_cons (ps_set (i := 3) nd rfl (.inl rfl) (pe_g (ok_law_part T) hr (pa_cons (pv 0) (pa_cons (pv 1) pa_nil))))
      (pss_one (ps_ret (pe_lst (pa_cons (pe_gG (ok_law_line T) hgd (hr.mono (by decide)) (pa_cons (pv 3) pa_nil)) (pa_cons (pe_lst (pa_cons (pv 3) pa_nil)) pa_nil))))))))), ?_⟩
    refine ⟨_, rfl, p, 8, rfl, hp, by decide, by decide, fun H1 r1 k1 p1 h1 => ?_⟩
    have ht1 := ht.kp k1
    refine ⟨_, rfl, (r1 : Int), 3, rfl, rfl, _, rfl, ?_⟩
    by_cases hA : r1 < 3
    · refine ifT (decide_eq_true (by omega)) ?_
      exact ⟨_, rfl, _, rfl, p, t, tags, rfl, p1, ht1, fun H' r l k2 p2 hR => q H' r l (k1.trans k2) p2 hR⟩
    · refine ifF (decide_eq_false (by omega)) ?_
      refine ⟨_, rfl, (r1 : Int), 5, rfl, rfl, _, rfl, ?_⟩
      by_cases hB : r1 < 5
      · refine ifT (decide_eq_true (by omega)) ?_
        exact ⟨_, rfl, _, rfl, p, t, tags, rfl, p1, ht1, fun H' r l k2 p2 hR => q H' r l (k1.trans k2) p2 hR⟩
      · refine ifF (decide_eq_false (by omega)) ?_
        refine ⟨_, rfl, rfl, _, rfl, ?_⟩
        by_cases hC : r1 = 5
        · subst hC
          refine ifT (by decide +kernel) ?_
          refine ⟨by show 0 ≤ sizeLine; decide, fun t0 n0 => ⟨by show 3 ≤ sizeLine; decide, fun t1 n1 => ⟨by show 1 ≤ sizeLine; decide, fun l2 n2 => ⟨by show 2 ≤ sizeLine; decide, fun l3 n3 => ?_⟩⟩⟩⟩
          have s0 := same_new (o := .tup []) n0
          have s1 := same_new (o := .tup [V.str "each", .ref t0, .bl true]) n1
          have s2 := same_new (o := .lst [V.ref t1]) n2
          have s3 := same_new (o := .lst [V.str "rows = list(rows)", .ref l2]) n3
          have pA := (p1.same s0).same s1
          have e : Str.ofString "rows = list(rows)" = mk (lnL .all) := by decide +kernel
          refine q _ l3 .all (k1.trans (Same.kp (((s0.trans s1).trans s2).trans s3))) ((pA.same s2).same s3) ⟨l2, [.ref t1], by rw [upd_same, ← e], purse_ne (pA.same s2) n3, s3 _ _ upd_same, purse_ne pA n2, StepsV.one ⟨t1, .ref t0, true, rfl, SqT.of (s3 _ _ (s2 _ _ upd_same)), ⟨t0, rfl, SqT.of (s3 _ _ (s2 _ _ (s1 _ _ upd_same)))⟩, (fun n hn => by cases hn), by decide⟩, trivial, fun n hn => by cases hn⟩
        · refine ifF (decide_eq_false fun z => by injection z with z; omega) ?_
          refine ⟨_, rfl, _, rfl, p, t, tags, rfl, p1, ht1, fun H2 y sg v k2 p2 hS hd ho hn => ?_⟩
          refine ⟨_, rfl, y, sg, v, rfl, hS, hd, ho, fun H3 s3 => ?_⟩
          refine ⟨_, rfl, by show 1 ≤ sizeLine; decide, fun l2 n2 => ⟨by show 2 ≤ sizeLine; decide, fun l3 n3 => ?_⟩⟩
          have s2 := same_new (o := .lst [V.ref y]) n2
          have s4 := same_new (o := .lst [V.str (mk (lnL (lnOf sg))), .ref l2]) n3
          have sA := (s3.trans s2).trans s4
          have p3 := p2.same s3
          refine q _ l3 (lnOf sg) ((k1.trans k2).trans (Same.kp sA)) ((p3.same s2).same s4) ⟨l2, [.ref y], upd_same, purse_ne (p3.same s2) n3, s4 _ _ upd_same, purse_ne p3 n2, ?_, lnOk_of ho, fun n hn2 => ?_⟩
          · rw [lnSg_of]
            exact StepsV.one ⟨y, v, _, rfl, same_seqT sA hS, hd.same sA, ho⟩
          · rw [lnSg_of] at hn2
            have : n ∈ sgNames sg := by simpa [namesOf] using hn2
            exact hn n this
/-- what the rows are -/
def spRows (K : PySem.W.Frag) : Sp := fun vs H Q _ => ∃ p : Addr, vs = [.ref p, .int 8] ∧ PurseAt H p ∧ ∀ H' x a b lns ys, Kp (· = p) H H' → PurseAt H' p → SqT K H' x [.ref a, .ref b] → a ≠ p → b ≠ p → H' a = some (.lst (lns.map fun l => V.str (mk (lnL l)))) → H' b = some (.lst ys) → StepsV K H' ys (sgsOf lns) →
  (∀ l ∈ lns, LnOk l) → lns.length ≤ 8 → (sgsOf lns).length ≤ 8 → Q (.ref x) H'
theorem ok_law_rows (T : Tx K mg w) : OkG P w K mg base 5 "_law_rows" ["_law_purse_here", "_law_most"] (spRows K) := by
  have nd := sc_law_rows.nd
  refine T.d_law_rows.mkG sc_law_rows bn_law_rows (fun vs H Q E h => ?_) (fun cdv A outer s H vs Q E hgd hr h => ?_)
  · obtain ⟨p, rfl, _⟩ := h
    rfl
  · obtain ⟨p, rfl, hp, q⟩ := h
    refine ⟨_, pss_cons (ps_par3 (i := 2) (j := 3) (l := 4) (by rfl) nd rfl rfl rfl (by decide) (by decide) (by decide) rfl rfl rfl (pa_cons (pe_g (ok_law_tags T) (hr.mono (by decide)) (pa_cons (pv 0) pa_nil)) (pa_cons (pe_lst pa_nil) (pa_cons (pe_lst pa_nil) pa_nil))) (by rfl))
      (pss_cons (ps_for PassesOwn.never rfl (pi_range1 rfl T.z_range (pa_cons (pe_g (ok_law_take T) (hr.mono (by decide)) (pa_cons (pv 0) (pa_cons pe_int pa_nil))) pa_nil)) (pg_name (i := 5) nd rfl (.inl rfl))
        (pss_cons (ps_asg (pe_gG (ok_law_row T) hgd hr (pa_cons (pv 0) (pa_cons (pv 2) pa_nil))) (pg_unl (by rfl) (pgs_cons (pg_name (i := 6) nd rfl (.inl rfl)) (pgs_cons (pg_name (i := 7) nd rfl (.inl rfl)) pgs_nil))))
        (pss_one (ps_if (pt_cmpR op_le (pe_op op_add (pe_callB call_len_seq (by rfl) T.z_len bt_len (pa_cons (pv 4) pa_nil)) (pe_callB call_len_seq (by rfl) T.z_len bt_len (pa_cons (pv 7) pa_nil))) (pv 1) (nomark _))
          (pss_one (ps_par (i := 3) (j := 4) (by rfl) nd rfl rfl (by decide) rfl rfl (pa_cons (pe_op op_cat (pv 3) (pe_lst (pa_cons (pv 6) pa_nil))) (pa_cons (pe_op op_cat (pv 4) (pv 7)) pa_nil)) (by rfl))) pss_nil))))
      (pss_one (ps_ret (pe_tup (pa_cons (pv 3) (pa_cons (pv 4) pa_nil)))))), ?_⟩
    refine ⟨_, rfl, p, rfl, hp, fun H1 t tags k1 p1 nt ht => ⟨by show 0 ≤ sizeLine; decide, fun a na => ⟨by show 0 ≤ sizeLine; decide, fun b nb => ⟨_, _, _, rfl, ?_⟩⟩⟩⟩
    have sa := same_new (o := .lst []) na
    have sb := same_new (o := .lst []) nb
    have sab := sa.trans sb
    have k2 := k1.trans (Same.kp (M := (· = p)) sab)
    refine ⟨_, rfl, p, 9, rfl, p1.same sab, by decide, by decide, fun H3 r3 k3 p3 h3 => ⟨(r3 : Int), rfl, by omega, by omega, ?_⟩⟩
    have k03 := k2.trans k3
    have nap := purse_ne p1 na
    have nbp := purse_ne (p1.same sa) nb
    refine for_it walk_range (fun i σ H' => Kp (· = p) H H' ∧ PurseAt H' p ∧ TagsAt H' t p tags ∧ ∃ (a b : Addr) (lns : List Ln) (ys : List V) (o5 o6 o7 : Option V), σ = [some (.ref p), some (.int 8), some (.ref t), some (.ref a), some (.ref b), o5, o6, o7] ∧ a ≠ p ∧ b ≠ p ∧ H' a = some (.lst (lns.map fun l => V.str (mk (lnL l)))) ∧ H' b = some (.lst ys) ∧ StepsV K H' ys (sgsOf lns) ∧
        (∀ l ∈ lns, LnOk l) ∧ lns.length ≤ i ∧ (sgsOf lns).length ≤ 8)
      ⟨k03, p3, (ht.kp (Same.kp sab)).kp k3, a, b, [], [], none, none, none, rfl, nap, nbp, k3 _ _ (sb _ _ upd_same) (.inl nap), k3 _ _ upd_same (.inl nbp), StepsV.nil, (fun l hl => by cases hl), Nat.le_refl _, by decide⟩ (fun _ _ _ _ _ => trivial) (fun i x σ H4 H5 hi hpv hy => ?_) (fun σ H4 hpv => ?_)
    · obtain ⟨k4, p4, ht4, a, b, lns, ys, o5, o6, o7, rfl, ap, bp, hla, hlb, hst, hok, hln, hsg⟩ := hpv
      obtain ⟨rfl, rfl⟩ := hy
      refine ⟨_, rfl, _, rfl, p, t, tags, rfl, p4, ht4, fun H6 r l k6 p6 hR => ?_⟩
      obtain ⟨so, zs, h1, h2, h3, h4, h5, h6, h7⟩ := hR
      refine ⟨r, _, rfl, SqL.of h1, rfl, _, _, rfl, _, _, rfl, rfl, ?_⟩
      have hla6 := k6 _ _ hla (.inl ap)
      have hlb6 := k6 _ _ hlb (.inl bp)
      have hst6 := hst.sml (kp_smlP p4 k6)
      have hyl := hst.1
      have hzl := h5.1
      have k06 := k4.trans k6
      refine ⟨_, rfl, b, ys, rfl, .inl (SqL.of hlb6), _, rfl, so, zs, rfl, .inl (SqL.of h3), _, _, rfl, rfl, _, rfl, _, _, rfl, rfl, _, rfl, ?_⟩
      by_cases hle : ys.length + zs.length ≤ 8
      · refine ifT (decide_eq_true (by omega)) ?_
        refine ⟨_, rfl, _, rfl, by show 1 ≤ sizeLine; decide, fun l1 n1 => ?_⟩
        have s1 := same_new (o := .lst [V.str (mk (lnL l))]) n1
        refine ⟨a, l1, _, _, rfl, rfl, s1 _ _ hla6, upd_same, ?_, fun a2 na2 => ?_⟩
        · rw [List.length_map]
          exact Nat.le_trans (show lns.length + 1 ≤ 100 by omega) (by decide)
        have s2 := same_new (o := .lst ((lns.map fun l => V.str (mk (lnL l))) ++ [V.str (mk (lnL l))])) na2
        have s12 := s1.trans s2
        refine ⟨_, rfl, _, rfl, b, so, ys, zs, rfl, rfl, s12 _ _ hlb6, s12 _ _ h3, Nat.le_trans hle (by decide), fun b2 nb2 => ⟨_, _, rfl, ?_⟩⟩
        have s3 := same_new (o := .lst (ys ++ zs)) nb2
        have sA := s12.trans s3
        have p6a := p6.same s1
        refine ⟨k06.trans (Same.kp sA), p6.same sA, ((ht4.kp k6).kp (Same.kp sA)), a2, b2, lns ++ [l], ys ++ zs, _, _, _, rfl, purse_ne p6a na2, purse_ne (p6a.same s2) nb2, ?_, upd_same, ?_, fun m hm => ?_, by rw [List.length_append]; simp; omega, ?_⟩
        · rw [s3 _ _ upd_same, List.map_append]; rfl
        · have e : sgsOf (lns ++ [l]) = sgsOf lns ++ lnSg l := by unfold sgsOf; rw [List.map_append, List.flatten_append]; simp
          rw [e]
          exact (StepsV.append hst6 h5).sml (SmL.of sA)
        · rcases List.mem_append.mp hm with z | z
          · exact hok m z
          · rw [List.mem_singleton.mp z]; exact h6
        · have e : sgsOf (lns ++ [l]) = sgsOf lns ++ lnSg l := by unfold sgsOf; rw [List.map_append, List.flatten_append]; simp
          rw [e, List.length_append]
          omega
      · refine ifF (decide_eq_false (by omega)) ?_
        exact ⟨k06, p6, ht4.kp k6, a, b, lns, ys, _, _, _, rfl, ap, bp, hla6, hlb6, hst6, hok, by omega, hsg⟩
    · obtain ⟨k4, p4, ht4, a, b, lns, ys, o5, o6, o7, rfl, ap, bp, hla, hlb, hst, hok, hln, hsg⟩ := hpv
      refine ⟨_, rfl, _, rfl, by show 2 ≤ sizeLine; decide, fun x nx => ?_⟩
      have sx := same_new (o := .tup [V.ref a, .ref b]) nx
      exact q _ x a b lns ys (k4.trans (Same.kp sx)) (p4.same sx) (SqT.of upd_same) ap bp (sx _ _ hla) (sx _ _ hlb) (hst.sml (SmL.of sx)) hok (by omega) hsg
end
end K

set_option Elab.async false
set_option linter.all false
set_option maxRecDepth 100000
set_option maxHeartbeats 4000000
/-! KL8: the law's interpreter: answers, names applied, conditions. -/
namespace K
open PySem PySem.Spec PyProof.Rows L2 He TL LamX
def PlayV (H : Hp) (pl m : Addr) (F : Nm → Act) (ns : List Nm) : Prop := ∃ d, H pl = some (.lst [.ref m, .ref d]) ∧ pl ≠ m ∧ FnsV H d F ns
theorem PlayV.keep {H H' : Hp} {pl m : Addr} {F : Nm → Act} {ns : List Nm} (h : PlayV H pl m F ns) (s : SmL H H') (k : ∀ o, H pl = some o → H' pl = some o) : PlayV H' pl m F ns := by
  obtain ⟨d, h1, h2, h3⟩ := h
  exact ⟨d, k _ h1, h2, h3.sml s⟩
/-- conditions: names and what is wanted -/
abbrev Tst := List Nm × Bool
def passF (F : Nm → Act) : List Tst → V → Bool × List Ev
  | [], _ => (true, [])
  | t :: r, v => if truV (behF F t.1 v).1 = t.2 then ((passF F r v).1, (behF F t.1 v).2 ++ (passF F r v).2) else (false, (behF F t.1 v).2)
def TstsAt (K : PySem.W.Frag) (H : Hp) (c : Addr) (ts : List Tst) : Prop := ∃ ys, H c = some (.lst ys) ∧ ys.length = ts.length ∧ ∀ (i : Nat) (y : V) (t : Tst), ys[i]? = some y → ts[i]? = some t → ∃ x a, y = .ref x ∧ SqT K H x [.ref a, .bl t.2] ∧ SqT K H a (t.1.map fun n => V.str (mk n))
theorem TstsAt.keep {K : PySem.W.Frag} {H H' : Hp} {c : Addr} {ts : List Tst} (h : TstsAt K H c ts) (s : SmL H H') (k : ∀ o, H c = some o → H' c = some o) : TstsAt K H' c ts := by
  obtain ⟨ys, h1, h2, h3⟩ := h
  exact ⟨ys, k _ h1, h2, fun i y t a b => let ⟨x, a', e1, e2, e3⟩ := h3 i y t a b; ⟨x, a', e1, s.seqT e2, s.seqT e3⟩⟩
theorem passF_len {F : Nm → Act} : ∀ {ts : List Tst} {v : V}, (∀ t ∈ ts, t.1.length ≤ 4) → (passF F ts v).2.length ≤ 4 * ts.length
  | [], _, _ => Nat.le_refl _
  | t :: r, v, h => by
    have ih := passF_len (F := F) (ts := r) (v := v) fun x hx => h x (List.mem_cons_of_mem _ hx)
    have h1 := behF_len F t.1 v
    have h2 := h t List.mem_cons_self
    unfold passF
    split
    · rw [List.length_append, List.length_cons]; omega
    · show (behF F t.1 v).2.length ≤ 4 * (r.length + 1)
      omega
section
variable {P : Program} {w : World} {K : PySem.W.Frag} {mg : Str → Option Value} {base : Heap}
def spAnswer (K : PySem.W.Frag) : Sp := fun vs H Q _ => ∃ (pl m : Addr) (F : Nm → Act) (ns : List Nm) (n : Nm) (v : V) (es : List Ev), vs = [.ref pl, .str (mk n), v] ∧ PlayV H pl m F ns ∧ LogV K H m es ∧ n ∈ ns ∧ VOk v ∧ es.length ≤ 10000 ∧
  ∀ H', Kp (· = m) H H' → LogV K H' m (es ++ [(n, v, (F n).ans v)]) → Q ((F n).ans v) H'
theorem ok_law_answer (T : Tx K mg w) : Ok1 P w K mg base 2 "_law_answer" ["_law_play_here", "_law_tag", "_law_thing"] (spAnswer K) := by
  have nd := sc_law_answer.nd
  refine T.d_law_answer.mk sc_law_answer bn_law_answer (fun vs H Q E h => ?_) (fun cdv A outer s H vs Q E hr h => ?_)
  · obtain ⟨pl, m, F, ns, n, v, es, rfl, _⟩ := h
    rfl
  · obtain ⟨pl, m, F, ns, n, v, es, rfl, ⟨d, hpl, hne, hF⟩, hL, hn, hv, hz, q⟩ := h
    refine ⟨_, pss_cons (ps_set (i := 3) nd rfl (.inl rfl) (pe_dget (hu_of hr) (pe_ix ix_list (pv 0) pe_int (fun _ _ => rfl)) (pv 1) (fun _ _ => rfl)))
      (pss_cons (ps_set (i := 4) nd rfl (.inl rfl) (pe_act (i := 3) T hr (pv 2)))
      (pss_cons (ps_expr (pe_bm PySem.F.plainAttrs_list PySem.F.slot_list_append PySem.F.type_list_append mt_append (pe_ix ix_list (pv 0) pe_int (fun _ _ => rfl)) (pa_cons (pe_tup (pa_cons (pv 1) (pa_cons (pv 2) (pa_cons (pv 4) pa_nil)))) pa_nil)))
      (pss_one (ps_ret (pv 4))))), ?_⟩
    obtain ⟨kvs, hk1, hk2, hk3, hk4⟩ := hF
    obtain ⟨f, hf1, hf2, hf3⟩ := hk4 n hn
    obtain ⟨ys, hm, hys⟩ := hL
    refine ⟨_, rfl, pl, _, 1, _, rfl, rfl, SqL.of hpl, atI_nat (j := 1) rfl, _, rfl, d, .ref f, rfl, .inl ⟨kvs, Sum.inr (mk n), .inl hk1, rfl, hf1.symm⟩, ?_⟩
    refine ⟨f, F n, rfl, hf2, _, rfl, _, rfl, hf2, hf3, hv, ?_⟩
    refine ⟨_, rfl, pl, _, 0, _, rfl, rfl, SqL.of hpl, atI_nat (j := 0) rfl, .inl ⟨rfl, ys, SqL.of hm⟩, _, rfl, _, rfl, _, rfl, by show 3 ≤ sizeLine; decide, fun t nt => ?_⟩
    have st := same_new (o := .tup [.str (mk n), v, (F n).ans v]) nt
    have hm2 := st _ _ hm
    have hyl := hys.1
    refine ⟨m, ys, .ref t, rfl, rfl, hm2, Nat.lt_of_le_of_lt (show ys.length ≤ 10000 by omega) (by decide), _, rfl, ?_⟩
    have kput : Kp (· = m) (upd H t (.tup [.str (mk n), v, (F n).ans v])) (upd (upd H t (.tup [.str (mk n), v, (F n).ans v])) m (.lst (ys ++ [.ref t]))) := kp_set (M := (· = m)) rfl hm2 ns_lst
    have sml : SmL H (upd (upd H t (.tup [.str (mk n), v, (F n).ans v])) m (.lst (ys ++ [.ref t]))) := (SmL.of st).trans (SmL.put hm2)
    exact q _ ((Same.kp st).trans kput) ⟨ys ++ [.ref t], upd_same, (hys.sml sml).snoc ⟨t, rfl, SqT.of (kput.tup upd_same)⟩⟩
def spApply (K : PySem.W.Frag) : Sp := fun vs H Q _ => ∃ (pl m a : Addr) (F : Nm → Act) (ns wd : List Nm) (v : V) (es : List Ev), vs = [.ref pl, .ref a, v] ∧ PlayV H pl m F ns ∧ LogV K H m es ∧ SqT K H a (wd.map fun n => V.str (mk n)) ∧ (∀ n ∈ wd, n ∈ ns) ∧ VOk v ∧ es.length + wd.length ≤ 10000 ∧
  ∀ H', Kp (· = m) H H' → LogV K H' m (es ++ (behF F wd v).2) → Q (behF F wd v).1 H'
theorem ok_law_apply (T : Tx K mg w) : Ok1 P w K mg base 3 "_law_apply" ["_law_play_here", "_law_names_here", "_law_thing"] (spApply K) := by
  have nd := sc_law_apply.nd
  refine T.d_law_apply.mk sc_law_apply bn_law_apply (fun vs H Q E h => ?_) (fun cdv A outer s H vs Q E hr h => ?_)
  · obtain ⟨pl, m, a, F, ns, wd, v, es, rfl, _⟩ := h
    rfl
  · obtain ⟨pl, m, a, F, ns, wd, v, es, rfl, hP, hL, hS, hns, hv, hz, q⟩ := h
    refine ⟨_, pss_cons (ps_for PassesOwn.never rfl (pi_tup (pe_revT (pv 1))) (pg_name (i := 3) nd rfl (.inl rfl)) (pss_one (ps_set (i := 2) nd rfl (.inl rfl) (pe_g (ok_law_answer T) hr (pa_cons (pv 0) (pa_cons (pv 3) (pa_cons (pv 2) pa_nil)))))))
      (pss_one (ps_ret (pv 2))), ?_⟩
    refine ⟨_, rfl, a, _, rfl, hS, fun p np => ⟨p, rfl, ⟨_, SqT.of upd_same⟩, ?_⟩⟩
    have sp := same_new (o := .tup (wd.map fun n => V.str (mk n)).reverse) np
    obtain ⟨ys0, hm0, hys0⟩ := id hL
    refine for_tup (xs := (wd.map fun n => V.str (mk n)).reverse) (fun i σ H' => Kp (· = m) H H' ∧ H' p = some (.tup (wd.map fun n => V.str (mk n)).reverse) ∧ PlayV H' pl m F ns ∧ LogV K H' m (es ++ (behF F (wd.drop (wd.length - i)) v).2) ∧
        ∃ o3, σ = [some (.ref pl), some (.ref a), some (behF F (wd.drop (wd.length - i)) v).1, o3])
      ⟨Same.kp sp, upd_same, hP.keep (SmL.of sp) (fun o e => sp _ _ e), ?_, none, ?_⟩ (fun i σ H' _ h => SqT.of h.2.1) (fun i y σ H1 hy hp => ?_) (fun σ H1 hp => ?_)
    · rw [show wd.length - 0 = wd.length by omega, List.drop_length]
      show LogV K _ m (es ++ [])
      rw [List.append_nil]
      exact ⟨ys0, sp _ _ hm0, hys0.sml (SmL.of sp)⟩
    · rw [show wd.length - 0 = wd.length by omega, List.drop_length]; rfl
    · obtain ⟨k1, hp1, hP1, hL1, o3, rfl⟩ := hp
      have hlt : i < wd.length := by
        rcases Nat.lt_or_ge i wd.length with z | z
        · exact z
        · rw [List.getElem?_eq_none (by simpa using z)] at hy; cases hy
      obtain ⟨n, hn1, hn2, hn3⟩ := drop_pred hlt
      rw [← List.map_reverse, List.getElem?_map, hn1] at hy
      cases hy
      have hFok : ∀ k ∈ ns, ActOk (F k) := by obtain ⟨d, _, _, h3⟩ := hP1; exact fns_ok h3
      have hvo : VOk (behF F (wd.drop (wd.length - i)) v).1 := behF_ok (fun k hk => hFok k (hns k (List.mem_of_mem_drop hk))) hv
      have hlen := behF_len F (wd.drop (wd.length - i)) v
      rw [List.length_drop] at hlen
      have eb : behF F (wd.drop (wd.length - (i + 1))) v = ((F n).ans (behF F (wd.drop (wd.length - i)) v).1, (behF F (wd.drop (wd.length - i)) v).2 ++ [(n, (behF F (wd.drop (wd.length - i)) v).1, (F n).ans (behF F (wd.drop (wd.length - i)) v).1)]) := by
        rw [hn2]; rfl
      rw [eb]
      generalize behF F (wd.drop (wd.length - i)) v = B at hvo hlen hL1
      obtain ⟨ys, hm, hys⟩ := id hL1
      refine ⟨_, rfl, _, rfl, _, rfl, pl, m, F, ns, n, B.1, es ++ B.2, rfl, hP1, hL1, hns n hn3, hvo, by rw [List.length_append]; omega, fun H2 k2 hl2 => ?_⟩
      have sl := kp_sml hm k2
      refine ⟨k1.trans k2, k2.tup hp1, hP1.keep sl (fun o e => k2 _ _ e (.inl (by obtain ⟨_, _, h, _⟩ := hP1; exact h))), ?_, some (V.str (mk n)), rfl⟩
      rw [← List.append_assoc]
      exact hl2
    · obtain ⟨k1, hp1, hP1, hL1, o3, rfl⟩ := hp
      rw [List.length_reverse, List.length_map, Nat.sub_self, List.drop_zero] at hL1
      rw [List.length_reverse, List.length_map, Nat.sub_self, List.drop_zero]
      exact ⟨_, rfl, q H1 k1 hL1⟩
def spTruth : Sp := fun vs H Q _ => ∃ (x v : V), vs = [x, v] ∧ VOk v ∧ Q (.bl (truV v)) H
theorem ok_law_truth (T : Tx K mg w) : Ok1 P w K mg base 1 "_law_truth" ["_law_play_here", "_law_answer_here"] spTruth := by
  refine T.d_law_truth.mk sc_law_truth bn_law_truth (fun vs H Q E h => ?_) (fun cdv A outer s H vs Q E hr h => ?_)
  · obtain ⟨x, v, rfl, _⟩ := h
    rfl
  · obtain ⟨x, v, rfl, hv, q⟩ := h
    refine ⟨_, pss_one (ps_ret (pe_callTy call_bool1 (by rfl) T.z_bool bt_bool (pa_cons (pv 1) pa_nil))), ?_⟩
    rcases hv with ⟨i, rfl, _⟩ | ⟨b, rfl⟩
    · exact ⟨_, rfl, .inl ⟨i, rfl, q⟩⟩
    · exact ⟨_, rfl, .inr ⟨b, rfl, q⟩⟩
def spPasses (K : PySem.W.Frag) : Sp := fun vs H Q _ => ∃ (pl m c : Addr) (F : Nm → Act) (ns : List Nm) (ts : List Tst) (v : V) (es : List Ev), vs = [.ref pl, .ref c, v] ∧ PlayV H pl m F ns ∧ LogV K H m es ∧ TstsAt K H c ts ∧ c ≠ m ∧ (∀ t ∈ ts, t.1.length ≤ 4 ∧ ∀ n ∈ t.1, n ∈ ns) ∧ VOk v ∧ es.length + 4 * ts.length ≤ 10000 ∧
  ∀ H', Kp (· = m) H H' → LogV K H' m (es ++ (passF F ts v).2) → Q (.bl (passF F ts v).1) H'
theorem ok_law_passes (T : Tx K mg w) : Ok1 P w K mg base 4 "_law_passes" ["_law_play_here", "_law_conditions_here", "_law_thing"] (spPasses K) := by
  have nd := sc_law_passes.nd
  refine T.d_law_passes.mk sc_law_passes bn_law_passes (fun vs H Q E h => ?_) (fun cdv A outer s H vs Q E hr h => ?_)
  · obtain ⟨pl, m, c, F, ns, ts, v, es, rfl, _⟩ := h
    rfl
  · obtain ⟨pl, m, c, F, ns, ts, v, es, rfl, hP, hL, hT, hcm, hts, hv, hz, q⟩ := h
    refine ⟨_, pss_cons (ps_for PassesOwn.never rfl (pi_list (pv 1)) (pg_tup (by rfl) (pgs_cons (pg_name (i := 3) nd rfl (.inl rfl)) (pgs_cons (pg_name (i := 4) nd rfl (.inl rfl)) pgs_nil)))
        (pss_one (ps_if (pt_cmpR op_ne (pe_g (ok_law_truth T) (hr.mono (by decide)) (pa_cons (pv 0) (pa_cons (pe_g (ok_law_apply T) hr (pa_cons (pv 0) (pa_cons (pv 3) (pa_cons (pv 2) pa_nil)))) pa_nil))) (pv 4) (nomark _)) (pss_one (ps_ret pe_bl)) pss_nil)))
      (pss_one (ps_ret pe_bl)), ?_⟩
    obtain ⟨ys, hc, hyl, hyt⟩ := id hT
    have hne : pl ≠ m := by obtain ⟨_, _, h, _⟩ := hP; exact h
    refine ⟨_, rfl, c, rfl, ⟨ys, SqL.of hc⟩, ?_⟩
    refine for_list (xs := ys) (fun i σ H' => Kp (· = m) H H' ∧ H' c = some (.lst ys) ∧ TstsAt K H' c ts ∧ PlayV H' pl m F ns ∧ ∃ (lg : List Ev) (o3 o4 : Option V), σ = [some (.ref pl), some (.ref c), some v, o3, o4] ∧ LogV K H' m (es ++ lg) ∧ lg.length ≤ 4 * i ∧ passF F ts v = ((passF F (ts.drop i) v).1, lg ++ (passF F (ts.drop i) v).2))
      ⟨Kp.refl _ _, hc, hT, hP, [], none, none, rfl, by rw [List.append_nil]; exact hL, Nat.le_refl _, rfl⟩ (fun i σ H' _ h => SqL.of h.2.1) (fun i y σ H1 hy hp => ?_) (fun σ H1 hp => ?_)
    · obtain ⟨k1, hc1, hT1, hP1, lg, o3, o4, rfl, hL1, hlg, hpf⟩ := hp
      have hlt : i < ts.length := by
        rcases Nat.lt_or_ge i ys.length with z | z
        · omega
        · rw [List.getElem?_eq_none z] at hy; cases hy
      have hti : ts[i]? = some ts[i] := List.getElem?_eq_getElem hlt
      have hdr : ts.drop i = ts[i] :: ts.drop (i + 1) := List.drop_eq_getElem_cons hlt
      have htm := List.getElem_mem hlt
      generalize ts[i] = tt at hti hdr htm
      obtain ⟨ys1, hc1', hyl1, hyt1⟩ := id hT1
      rw [hc1] at hc1'
      cases hc1'
      obtain ⟨x, a, rfl, hx, ha⟩ := hyt1 i y tt hy hti
      obtain ⟨ht4, htn⟩ := hts tt htm
      refine ⟨x, _, rfl, hx, rfl, _, _, rfl, _, _, rfl, rfl, ?_⟩
      refine ⟨_, rfl, _, rfl, _, rfl, _, rfl, pl, m, a, F, ns, tt.1, v, es ++ lg, rfl, hP1, hL1, ha, htn, hv, by rw [List.length_append]; omega, fun H2 k2 hl2 => ?_⟩
      have hFok : ∀ k ∈ ns, ActOk (F k) := by obtain ⟨d, _, _, h3⟩ := hP1; exact fns_ok h3
      have hbo := behF_ok (F := F) (ns := tt.1) (fun n hn => hFok n (htn n hn)) hv
      have hbl := behF_len F tt.1 v
      rw [hdr] at hpf
      have epf : passF F (tt :: ts.drop (i + 1)) v = if truV (behF F tt.1 v).1 = tt.2 then ((passF F (ts.drop (i + 1)) v).1, (behF F tt.1 v).2 ++ (passF F (ts.drop (i + 1)) v).2) else (false, (behF F tt.1 v).2) := rfl
      rw [epf] at hpf
      refine ⟨_, _, rfl, hbo, _, rfl, rfl, _, rfl, ?_⟩
      obtain ⟨ysm, hm1, _⟩ := id hL1
      have sl := kp_sml hm1 k2
      by_cases hE : truV (behF F tt.1 v).1 = tt.2
      · refine ifF (by show (!decide (V.bl (truV (behF F tt.1 v).1) = V.bl tt.2)) = false; rw [hE, decide_eq_true rfl]; rfl) ?_
        rw [if_pos hE] at hpf
        refine ⟨k1.trans k2, k2 _ _ hc1 (.inl hcm), hT1.keep sl (fun o e => k2 _ _ e (.inl hcm)), hP1.keep sl (fun o e => k2 _ _ e (.inl hne)), lg ++ (behF F tt.1 v).2, _, _, rfl, by rw [← List.append_assoc]; exact hl2, by rw [List.length_append]; omega, ?_⟩
        rw [hpf, List.append_assoc]
      · refine ifT (by show (!decide (V.bl (truV (behF F tt.1 v).1) = V.bl tt.2)) = true; rw [decide_eq_false (fun z => hE (by injection z))]; rfl) ?_
        rw [if_neg hE] at hpf
        rw [hpf] at q
        exact q H2 (k1.trans k2) (by rw [← List.append_assoc]; exact hl2)
    · obtain ⟨k1, hc1, hT1, hP1, lg, o3, o4, rfl, hL1, hlg, hpf⟩ := hp
      rw [List.drop_of_length_le (by omega)] at hpf
      have : passF F ts v = (true, lg) := by rw [hpf]; show (true, lg ++ []) = _; rw [List.append_nil]
      rw [this] at q
      exact q H1 k1 hL1
end
end K

set_option Elab.async false
set_option linter.all false
set_option maxRecDepth 100000
set_option maxHeartbeats 4000000
/-! K4Math: the steps of the law's sources, and the gates. -/
namespace K
open PySem PySem.Spec PyProof.Rows L2 He TL LamX
def rowsStep (F : Nm → Act) (ts : List Tst) (w : List Nm) : Step Unit V Ev := fun _ v =>
  if (passF F ts v).1 = true then ((passF F ts v).2 ++ (behF F w v).2, some (behF F w v).1, (), false) else ((passF F ts v).2, none, (), false)
def takeStep (F : Nm → Act) (ts : List Tst) : Step Unit V Ev := fun _ v => if (passF F ts v).1 = true then ((passF F ts v).2, some v, (), false) else ((passF F ts v).2, none, (), true)
def dropStep (F : Nm → Act) (ts : List Tst) : Step Bool V Ev := fun op v => if op = true then ([], some v, true, false) else if (passF F ts v).1 = true then ((passF F ts v).2, none, false, false) else ((passF F ts v).2, some v, true, false)
def firstStep (n : Nat) : Step Nat V Ev := fun i v => ([], some v, i + 1, i + 1 == n)
def sliceStep (k : Nat) : Step (Nat × Nat) V Ev := fun q v => if q.1 < q.2 then ([], none, (q.1 + 1, q.2), false) else ([], some v, (q.1 + 1, q.2 + k), false)
def firstS (n i : Nat) (s : Strm V Ev) : Strm V Ev := if n ≤ i then Strm.nil else trS (firstStep n) i s
/-! ### each is its gate -/
variable {F : Nm → Act}
theorem take_gate (t : List Nm) (b : Bool) (s : Strm V Ev) : trS (takeStep F [(t, true)]) () s = gateS (WF F) (Gt.new (.ask .whl t b)) s := by
  show _ = trS (gstep (WF F)) (Gt.new (.ask .whl t b)) s
  unfold trS
  refine tr_sim (fun _ g => g.sg = .ask .whl t b ∧ g.op = false) (fun q1 q2 v h => ?_) _ _ _ _ _ ⟨rfl, rfl⟩
  obtain ⟨sg, n, o⟩ := q2
  obtain ⟨rfl, rfl⟩ := h
  have e : passF F [(t, true)] v = (truV (behF F t v).1, (behF F t v).2) := by
    show (if truV (behF F t v).1 = true then (true, (behF F t v).2 ++ []) else (false, (behF F t v).2)) = _
    cases truV (behF F t v).1 <;> simp
  have e2 : gstep (WF F) ⟨.ask .whl t b, n, false⟩ v = ((behF F t v).2, if truV (behF F t v).1 = true then some v else none, ⟨.ask .whl t b, n + 1, false⟩, !truV (behF F t v).1) := rfl
  rw [e2]
  unfold takeStep
  rw [e]
  cases truV (behF F t v).1 <;> simp
theorem drop_gate (t : List Nm) (b : Bool) (s : Strm V Ev) : trS (dropStep F [(t, true)]) false s = gateS (WF F) (Gt.new (.ask .frm t b)) s := by
  show _ = trS (gstep (WF F)) (Gt.new (.ask .frm t b)) s
  unfold trS
  refine tr_sim (fun q g => g.sg = .ask .frm t b ∧ g.op = q) (fun q1 q2 v h => ?_) _ _ _ _ _ ⟨rfl, rfl⟩
  obtain ⟨sg, n, o⟩ := q2
  obtain ⟨rfl, rfl⟩ := h
  have e : passF F [(t, true)] v = (truV (behF F t v).1, (behF F t v).2) := by
    show (if truV (behF F t v).1 = true then (true, (behF F t v).2 ++ []) else (false, (behF F t v).2)) = _
    cases truV (behF F t v).1 <;> simp
  cases o with
  | true =>
    have e2 : gstep (WF F) ⟨.ask .frm t b, n, true⟩ v = ([], some v, ⟨.ask .frm t b, n + 1, true⟩, false) := rfl
    rw [e2]
    unfold dropStep
    simp
  | false =>
    have e2 : gstep (WF F) ⟨.ask .frm t b, n, false⟩ v = ((behF F t v).2, if truV (behF F t v).1 = true then none else some v, ⟨.ask .frm t b, n + 1, !truV (behF F t v).1⟩, false) := rfl
    rw [e2]
    unfold dropStep
    rw [e]
    cases truV (behF F t v).1 <;> simp
theorem each_gate (w : List Nm) (b : Bool) (s : Strm V Ev) : trS (rowsStep F [] w) () s = gateS (WF F) (Gt.new (.each w b)) s := by
  show _ = trS (gstep (WF F)) (Gt.new (.each w b)) s
  unfold trS
  refine tr_sim (fun _ g => g.sg = .each w b) (fun q1 q2 v h => ?_) _ _ _ _ _ rfl
  obtain ⟨sg, n, o⟩ := q2
  obtain rfl := h
  have e2 : gstep (WF F) ⟨.each w b, n, o⟩ v = ((behF F w v).2, some (behF F w v).1, ⟨.each w b, n + 1, o⟩, false) := rfl
  rw [e2]
  simp [rowsStep, passF]
theorem first_gate (n : Nat) (b : Bool) (s : Strm V Ev) : firstS n 0 s = gateS (WF F) (Gt.new (.first n b)) s := by
  unfold firstS gateS
  cases n with
  | zero => rfl
  | succ n =>
    rw [if_neg (by omega)]
    show _ = (if (n + 1 == 0) = true then _ else trS (gstep (WF F)) (Gt.new (.first (n + 1) b)) s)
    rw [if_neg (by simp)]
    unfold trS
    refine tr_sim (fun i g => g.sg = .first (n + 1) b ∧ g.seen = i ∧ i < n + 1) (fun q1 q2 v h => ?_) _ _ _ _ _ ⟨rfl, rfl, by omega⟩
    obtain ⟨sg, m, o⟩ := q2
    obtain ⟨rfl, rfl, hlt⟩ := h
    have e2 : gstep (WF F) ⟨.first (n + 1) b, m, o⟩ v = ([], if m + 1 ≤ n + 1 then some v else none, ⟨.first (n + 1) b, m + 1, o⟩, m + 1 == n + 1) := rfl
    have hlt' : m < n + 1 := hlt
    rw [e2, if_pos (by omega)]
    refine ⟨rfl, rfl, rfl, fun z => ⟨rfl, rfl, ?_⟩⟩
    have : (m + 1 == n + 1) = false := z
    have := beq_eq_false_iff_ne.mp this
    show m + 1 < n + 1
    omega
theorem skip_gate (n : Nat) (b : Bool) (s : Strm V Ev) : trS (sliceStep 1) (0, n) s = gateS (WF F) (Gt.new (.skip n b)) s := by
  show _ = trS (gstep (WF F)) (Gt.new (.skip n b)) s
  unfold trS
  refine tr_sim (fun q g => g.sg = .skip n b ∧ g.seen = q.1 ∧ (q.1 ≤ n ∧ q.2 = n ∨ n < q.1 ∧ q.2 = q.1)) (fun q1 q2 v h => ?_) _ _ _ _ _ ⟨rfl, rfl, .inl ⟨Nat.zero_le _, rfl⟩⟩
  obtain ⟨sg, m, o⟩ := q2
  obtain ⟨i, x⟩ := q1
  obtain ⟨rfl, rfl, hx⟩ := h
  have e2 : gstep (WF F) ⟨.skip n b, m, o⟩ v = ([], if n < m + 1 then some v else none, ⟨.skip n b, m + 1, o⟩, false) := rfl
  dsimp only at hx
  rw [e2]
  unfold sliceStep
  dsimp only
  by_cases h : m < x
  · rw [if_pos h, if_neg (by omega)]
    exact ⟨rfl, rfl, rfl, fun _ => ⟨rfl, rfl, by dsimp only; omega⟩⟩
  · rw [if_neg h, if_pos (by omega)]
    exact ⟨rfl, rfl, rfl, fun _ => ⟨rfl, rfl, by dsimp only; omega⟩⟩
theorem every_gate {k r : Nat} (hk : 1 ≤ k) (b : Bool) (s : Strm V Ev) : trS (sliceStep k) (0, r) s = gateS (WF F) (Gt.new (.every k r b)) s := by
  show _ = trS (gstep (WF F)) (Gt.new (.every k r b)) s
  unfold trS
  refine tr_sim (fun q g => g.sg = .every k r b ∧ g.seen = q.1 ∧ q.1 ≤ q.2 ∧ ∃ j, q.2 = r + k * j ∧ (j = 0 ∨ r + k * (j - 1) < q.1)) (fun q1 q2 v h => ?_) _ _ _ _ _ ⟨rfl, rfl, Nat.zero_le _, 0, rfl, .inl rfl⟩
  obtain ⟨sg, m, o⟩ := q2
  obtain ⟨i, x⟩ := q1
  obtain ⟨rfl, rfl, hle, j, rfl, hj⟩ := h
  dsimp only at hle hj
  have e2 : gstep (WF F) ⟨.every k r b, m, o⟩ v = ([], if r < m + 1 ∧ (m + 1 - 1 - r) % k = 0 then some v else none, ⟨.every k r b, m + 1, o⟩, false) := rfl
  rw [e2]
  unfold sliceStep
  dsimp only
  by_cases h : m < r + k * j
  · rw [if_pos h, if_neg ?_]
    · exact ⟨rfl, rfl, rfl, fun _ => ⟨rfl, rfl, by dsimp only; omega, j, rfl, hj.imp id fun z => by dsimp only; omega⟩⟩
    · rintro ⟨h1, h2⟩
      rcases hj with rfl | hj
      · omega
      · obtain ⟨q, hq⟩ := Nat.dvd_of_mod_eq_zero h2
        have e1 : m = r + k * q := by omega
        have h3 : k * q < k * j := by omega
        have h4 : q < j := Nat.lt_of_mul_lt_mul_left h3
        have h5 : k * (j - 1) < k * q := by omega
        have h6 : j - 1 < q := Nat.lt_of_mul_lt_mul_left h5
        omega
  · have em : m = r + k * j := by omega
    rw [if_neg h, if_pos ⟨by omega, by rw [em, show r + k * j + 1 - 1 - r = k * j by omega]; exact Nat.mul_mod_right k j⟩]
    refine ⟨rfl, rfl, rfl, fun _ => ⟨rfl, rfl, ?_, j + 1, ?_, .inr ?_⟩⟩
    · dsimp only; omega
    · dsimp only; rw [Nat.mul_succ]; omega
    · dsimp only; rw [Nat.add_sub_cancel]; omega
def tstOf (c : Bool × List Nm) : Tst := (c.2, !c.1)
theorem rows_cons (c : Bool × List Nm) (ts : List Tst) (w : List Nm) (b : Bool) (s : Strm V Ev) : trS (rowsStep F (tstOf c :: ts) w) () s = trS (rowsStep F ts w) () (gateS (WF F) (Gt.new (cf c b)) s) := by
  obtain ⟨d, t⟩ := c
  have eg : gateS (WF F) (Gt.new (cf (d, t) b)) s = trS (gstep (WF F)) (Gt.new (cf (d, t) b)) s := rfl
  rw [eg, trS_comp]
  unfold trS
  refine tr_sim (fun _ q => q.1.sg = cf (d, t) b ∧ q.1.op = false) (fun q1 q2 v h => ?_) _ _ _ _ _ ⟨rfl, rfl⟩
  obtain ⟨⟨sg, n, o⟩, u⟩ := q2
  obtain ⟨rfl, rfl⟩ := h
  have e1 : passF F (tstOf (d, t) :: ts) v = if truV (behF F t v).1 = !d then ((passF F ts v).1, (behF F t v).2 ++ (passF F ts v).2) else (false, (behF F t v).2) := rfl
  have e2 : gstep (WF F) ⟨cf (d, t) b, n, false⟩ v = ((behF F t v).2, if truV (behF F t v).1 = !d then some v else none, ⟨cf (d, t) b, n + 1, false⟩, false) := by
    cases d
    · show ((behF F t v).2, if truV (behF F t v).1 = true then some v else none, _, false) = _
      cases truV (behF F t v).1 <;> rfl
    · show ((behF F t v).2, if truV (behF F t v).1 = true then none else some v, _, false) = _
      cases truV (behF F t v).1 <;> rfl
  unfold rowsStep comp
  rw [e1]
  dsimp only
  rw [e2]
  by_cases h : truV (behF F t v).1 = !d
  · rw [if_pos h, if_pos h]
    dsimp only
    by_cases h2 : (passF F ts v).1 = true
    · simp [h2, List.append_assoc]
    · simp [h2]
  · rw [if_neg h, if_neg h]
    simp
theorem rows_nil (s : Strm V Ev) : trS (rowsStep F [] []) () s = s := by
  have key : ∀ (items : List (List Ev × V)) (acc fin : List Ev), acc = [] → tr (rowsStep F [] []) () acc items fin = ⟨items, fin⟩ := by
    intro items
    induction items with
    | nil => intro acc fin h; rw [tr_nil, h]; rfl
    | cons p r ih =>
      intro acc fin h
      obtain ⟨l, v⟩ := p
      have e : rowsStep F [] [] () v = ([], some v, (), false) := rfl
      rw [tr_some e, if_neg Bool.false_ne_true, ih [] fin rfl, h]
      simp [Strm.cons]
  unfold trS
  rw [key _ _ _ rfl]
/-- the gates of stages to come -/
theorem rows_gates (w : List Nm) : ∀ (cs : List (Bool × List Nm)) (bs : Nat → Bool) (s : Strm V Ev), (cs = [] → w ≠ [] ∨ True) →
    trS (rowsStep F (cs.map tstOf) w) () s = (if w = [] then id else fun z => gateS (WF F) (Gt.new (.each w (bs cs.length))) z) (cs.zipIdx.foldl (fun z c => gateS (WF F) (Gt.new (cf c.1 (bs c.2))) z) s) := by
  intro cs
  have gen : ∀ (cs : List (Bool × List Nm)) (k : Nat) (bs : Nat → Bool) (s : Strm V Ev), trS (rowsStep F (cs.map tstOf) w) () s = (if w = [] then id else fun z => gateS (WF F) (Gt.new (.each w (bs (k + cs.length)))) z) ((cs.zipIdx k).foldl (fun z c => gateS (WF F) (Gt.new (cf c.1 (bs c.2))) z) s) := by
    intro cs
    induction cs with
    | nil =>
      intro k bs s
      show trS (rowsStep F [] w) () s = _
      by_cases h : w = []
      · rw [if_pos h, h, rows_nil]; rfl
      · rw [if_neg h, each_gate w (bs (k + 0)) s]; rfl
    | cons c cs ih =>
      intro k bs s
      rw [List.map_cons, rows_cons c _ w (bs k), ih (k + 1) bs, List.zipIdx_cons, List.foldl_cons]
      rw [show k + 1 + cs.length = k + (c :: cs).length by rw [List.length_cons]; omega]
  intro bs s _
  have := gen cs 0 bs s
  rw [Nat.zero_add] at this
  exact this
end K

set_option Elab.async false
set_option linter.all false
set_option maxRecDepth 100000
set_option maxHeartbeats 4000000
/-! K5Math: the text line by line is the program's play. -/
namespace K
open PySem PySem.Spec PyProof.Rows L2 He TL LamX
variable {F : Nm → Act}
def gatesS (F : Nm → Act) (sgs : List SgL) (s : Strm V Ev) : Strm V Ev := sgs.foldl (fun z sg => gateS (WF F) (Gt.new sg) z) s
theorem compSg_cons (w : List Nm) (c : Bool × List Nm) (cs : List (Bool × List Nm)) (h : ¬ (w = [] ∧ cs = [])) : compSg w (c :: cs) = cf c :: compSg w cs ∧ compSg w cs ≠ [] := by
  by_cases hw : w = []
  · have hcs : cs ≠ [] := fun z => h ⟨hw, z⟩
    refine ⟨?_, ?_⟩
    · unfold compSg
      rw [if_pos ⟨hw, by simp⟩, if_pos ⟨hw, hcs⟩]
      rfl
    · unfold compSg
      rw [if_pos ⟨hw, hcs⟩]
      simpa using hcs
  · refine ⟨?_, ?_⟩
    · unfold compSg
      rw [if_neg fun z => hw z.1, if_neg fun z => hw z.1]
      rfl
    · unfold compSg
      rw [if_neg fun z => hw z.1]
      simp
theorem rows_bear (w : List Nm) (now : Bool) : ∀ (cs : List (Bool × List Nm)) (s : Strm V Ev), trS (rowsStep F (cs.map tstOf) w) () s = gatesS F (bear now (compSg w cs)) s
  | [], s => by
    have e : compSg w [] = [fun b => Sg.each w b] := by unfold compSg; rw [if_neg fun z => z.2 rfl]; rfl
    rw [e]
    exact each_gate w now s
  | c :: cs, s => by
    by_cases h : w = [] ∧ cs = []
    · obtain ⟨rfl, rfl⟩ := h
      have e : compSg [] [c] = [cf c] := by unfold compSg; rw [if_pos ⟨rfl, by simp⟩]; rfl
      rw [e, List.map_cons, rows_cons c _ _ now]
      exact rows_nil _
    · obtain ⟨e1, e2⟩ := compSg_cons w c cs h
      rw [e1, List.map_cons, rows_cons c _ _ false, rows_bear w now cs]
      cases hg : compSg w cs with
      | nil => exact absurd hg e2
      | cons g r => rfl
/-- calls by their names and slices -/
def clS (F : Nm → Act) (s : Strm V Ev) : Cl → Strm V Ev
  | .call .map f => trS (rowsStep F [] [f]) () s
  | .call .filter f => trS (rowsStep F [([f], true)] []) () s
  | .call .takewhile f => trS (takeStep F [([f], true)]) () s
  | .call .dropwhile f => trS (dropStep F [([f], true)]) false s
  | .lam true t => trS (takeStep F [(t, true)]) () s
  | .lam false t => trS (dropStep F [(t, true)]) false s
  | .first n => firstS n 0 s
  | .skip n => trS (sliceStep 1) (0, n) s
  | .every k r => trS (sliceStep k) (0, r) s
theorem clS_gate {c : Cl} (h : ClOk c) (b : Bool) (s : Strm V Ev) : clS F s c = gateS (WF F) (Gt.new (clSg b c)) s := by
  cases c with
  | call k f => cases k with
    | map => exact each_gate [f] b s
    | filter =>
      have := rows_cons (F := F) (false, [f]) [] [] b s
      show trS (rowsStep F (tstOf (false, [f]) :: []) []) () s = _
      rw [this, rows_nil]
      rfl
    | takewhile => exact take_gate [f] b s
    | dropwhile => exact drop_gate [f] b s
  | lam x t => cases x with
    | true => exact take_gate t b s
    | false => exact drop_gate t b s
  | first n => exact first_gate n b s
  | skip n => exact skip_gate n b s
  | every k r => exact every_gate h.1 b s
/-- a line: the stream behind it, the calls that are made at once -/
def eager (now : Bool) (s : Strm V Ev) : Strm V Ev × List Ev := if now = true then (Strm.lst s.run.1, s.run.2) else (s, [])
def lineS (F : Nm → Act) (s : Strm V Ev) : Ln → Strm V Ev × List Ev
  | .comp w cs now => eager now (trS (rowsStep F (cs.map tstOf) w) () s)
  | .cl c now => eager now (clS F s c)
  | .all => (Strm.lst s.run.1, s.run.2)
  | .last n => (Strm.lst ((Sg.last n : SgL).cut s.run.1), s.run.2)
  | .but n => (Strm.lst ((Sg.but n : SgL).cut s.run.1), s.run.2)
  | .turned => (Strm.lst ((Sg.turned : SgL).cut s.run.1), s.run.2)
def carS (F : Nm → Act) : List Ln → Strm V Ev → List V × List Ev
  | [], s => s.run
  | l :: r, s => ((carS F r (lineS F s l).1).1, (lineS F s l).2 ++ (carS F r (lineS F s l).1).2)
theorem pl_cons (sg : SgL) (r : List SgL) (s : Strm V Ev) : pl (WF F) (sg :: r) s = if sg.isList = true then ((pl (WF F) r (Strm.lst (sg.cut s.run.1))).1, s.run.2 ++ (pl (WF F) r (Strm.lst (sg.cut s.run.1))).2)
    else if sg.now = true then ((pl (WF F) r (Strm.lst (gateS (WF F) (Gt.new sg) s).run.1)).1, (gateS (WF F) (Gt.new sg) s).run.2 ++ (pl (WF F) r (Strm.lst (gateS (WF F) (Gt.new sg) s).run.1)).2)
    else pl (WF F) r (gateS (WF F) (Gt.new sg) s) := rfl
theorem pl_bear (now : Bool) (rest : List SgL) : ∀ (fs : List (Bool → SgL)) (s : Strm V Ev), fs ≠ [] → (∀ f ∈ fs, FOk f) →
    pl (WF F) (bear now fs ++ rest) s = ((pl (WF F) rest (eager now (gatesS F (bear now fs) s)).1).1, (eager now (gatesS F (bear now fs) s)).2 ++ (pl (WF F) rest (eager now (gatesS F (bear now fs) s)).1).2)
  | [], _, h, _ => absurd rfl h
  | [f], s, _, hF => by
    have F1 := hF f List.mem_cons_self
    show pl (WF F) (f now :: rest) s = _
    rw [pl_cons, if_neg (by rw [F1.lst]; exact Bool.false_ne_true), F1.now]
    show _ = ((pl (WF F) rest (eager now (gateS (WF F) (Gt.new (f now)) s)).1).1, (eager now (gateS (WF F) (Gt.new (f now)) s)).2 ++ (pl (WF F) rest (eager now (gateS (WF F) (Gt.new (f now)) s)).1).2)
    unfold eager
    cases now
    · rw [if_neg Bool.false_ne_true, if_neg Bool.false_ne_true]
      rfl
    · rw [if_pos rfl, if_pos rfl]
  | f :: g :: r, s, _, hF => by
    have F1 := hF f List.mem_cons_self
    have ih := pl_bear now rest (g :: r) (gateS (WF F) (Gt.new (f false)) s) (by simp) fun x hx => hF x (List.mem_cons_of_mem _ hx)
    show pl (WF F) (f false :: (bear now (g :: r) ++ rest)) s = _
    rw [pl_cons, if_neg (by rw [F1.lst]; exact Bool.false_ne_true), F1.now, if_neg Bool.false_ne_true, ih]
    rfl
theorem comp_ne (w : List Nm) (cs : List (Bool × List Nm)) : compSg w cs ≠ [] := by
  cases cs with
  | nil => unfold compSg; rw [if_neg fun z => z.2 rfl]; simp
  | cons c cs =>
    by_cases h : w = [] ∧ cs = []
    · obtain ⟨rfl, rfl⟩ := h
      unfold compSg; rw [if_pos ⟨rfl, by simp⟩]; simp
    · rw [(compSg_cons w c cs h).1]; simp
theorem line_pl {l : Ln} (h : LnOk l) (rest : List SgL) (s : Strm V Ev) : pl (WF F) (lnSg l ++ rest) s = ((pl (WF F) rest (lineS F s l).1).1, (lineS F s l).2 ++ (pl (WF F) rest (lineS F s l).1).2) := by
  cases l with
  | comp w cs now =>
    have := pl_bear (F := F) now rest (compSg w cs) s (comp_ne w cs) (compSg_ok h.1 h.2.1 h.2.2.2)
    rw [← rows_bear w now cs s] at this
    exact this
  | cl c now =>
    show pl (WF F) (clSg now c :: rest) s = ((pl (WF F) rest (eager now (clS F s c)).1).1, (eager now (clS F s c)).2 ++ (pl (WF F) rest (eager now (clS F s c)).1).2)
    rw [clS_gate h now]
    have e1 : (clSg now c).isList = false := by
      cases c with
      | call k f => cases k <;> rfl
      | lam x t => cases x <;> rfl
      | _ => rfl
    have e2 : (clSg now c).now = now := by
      cases c with
      | call k f => cases k <;> rfl
      | lam x t => cases x <;> rfl
      | _ => rfl
    rw [pl_cons, if_neg (by rw [e1]; exact Bool.false_ne_true), e2]
    unfold eager
    cases now
    · rw [if_neg Bool.false_ne_true, if_neg Bool.false_ne_true]; rfl
    · rw [if_pos rfl, if_pos rfl]
  | all =>
    show pl (WF F) (Sg.each [] true :: rest) s = _
    rw [pl_cons, if_neg (show ¬ ((Sg.each [] true : SgL).isList = true) from Bool.false_ne_true), if_pos (show (Sg.each [] true : SgL).now = true from rfl)]
    have e : gateS (WF F) (Gt.new (.each [] true)) s = s := by rw [← each_gate [] true s, rows_nil]
    rw [e]
    rfl
  | last n => rfl
  | but n => rfl
  | turned => rfl
/-- THE PLAIN LAW -/
theorem car_pl : ∀ (lns : List Ln) (s : Strm V Ev), (∀ l ∈ lns, LnOk l) → carS F lns s = pl (WF F) (sgsOf lns) s
  | [], s, _ => rfl
  | l :: r, s, h => by
    have e : sgsOf (l :: r) = lnSg l ++ sgsOf r := by unfold sgsOf; simp
    rw [e, line_pl (h l List.mem_cons_self)]
    show ((carS F r (lineS F s l).1).1, (lineS F s l).2 ++ (carS F r (lineS F s l).1).2) = _
    rw [car_pl r _ fun x hx => h x (List.mem_cons_of_mem _ hx)]
theorem car_ps {lns : List Ln} (h : ∀ l ∈ lns, LnOk l) (xs : List V) : carS F lns (Strm.lst xs) = ps (WF F) (sgsOf lns) [] xs := by
  rw [car_pl lns _ h]
  exact pl_ps (WF F) (sgsOf lns) [] xs
end K

set_option Elab.async false
set_option linter.all false
set_option maxRecDepth 100000
set_option maxHeartbeats 4000000
/-! KL9: the law's sources. -/
namespace K
open PySem PySem.Spec PyProof.Rows L2 He TL LamX
def TsOk (ns : List Nm) (ts : List Tst) : Prop := ts.length ≤ 3 ∧ ∀ t ∈ ts, t.1.length ≤ 4 ∧ ∀ n ∈ t.1, n ∈ ns
/-- a source at a: of depth at most d, its own lists, the lists that it reads, how many calls it can make, what it will give -/
inductive SrcAt (K : PySem.W.Frag) (F : Nm → Act) (ns : List Nm) (H : Hp) : Nat → Addr → List Addr → List Addr → Nat → Strm V Ev → Prop where
  | lst {d : Nat} {a l : Addr} {i : Nat} {xs : List V} (h : H a = some (.lst [.str "list", .ref l, .int i])) (hl : H l = some (.lst xs)) (ne : l ≠ a) (ok : ∀ x ∈ xs, VOk x) : SrcAt K F ns H d a [a] [l] 0 (Strm.lst (xs.drop i))
  | rows {d : Nat} {a b c nn : Addr} {own rd : List Addr} {p : Nat} {st : Strm V Ev} {ts : List Tst} {w : List Nm} (h : H a = some (.lst [.str "rows", .ref b, .ref c, .ref nn])) (ht : TstsAt K H c ts) (hn : SqT K H nn (w.map fun n => V.str (mk n))) (hts : TsOk ns ts)
      (hw : w.length ≤ 4 ∧ ∀ n ∈ w, n ∈ ns) (s : SrcAt K F ns H d b own rd p st) (a1 : a ∉ own) (a2 : a ∉ rd) (c1 : c ≠ a) (c2 : c ∉ own) : SrcAt K F ns H (d + 1) a (a :: own) (c :: rd) (p + 16 * st.items.length) (trS (rowsStep F ts w) () st)
  | takew {d : Nat} {a b c : Addr} {own rd : List Addr} {p : Nat} {st : Strm V Ev} {ts : List Tst} (h : H a = some (.lst [.str "takewhile", .ref b, .ref c, .bl false])) (ht : TstsAt K H c ts) (hts : TsOk ns ts)
      (s : SrcAt K F ns H d b own rd p st) (a1 : a ∉ own) (a2 : a ∉ rd) (c1 : c ≠ a) (c2 : c ∉ own) : SrcAt K F ns H (d + 1) a (a :: own) (c :: rd) (p + 16 * st.items.length) (trS (takeStep F ts) () st)
  | dropw {d : Nat} {a b c : Addr} {own rd : List Addr} {p : Nat} {st : Strm V Ev} {ts : List Tst} {op : Bool} (h : H a = some (.lst [.str "dropwhile", .ref b, .ref c, .bl op])) (ht : TstsAt K H c ts) (hts : TsOk ns ts)
      (s : SrcAt K F ns H d b own rd p st) (a1 : a ∉ own) (a2 : a ∉ rd) (c1 : c ≠ a) (c2 : c ∉ own) : SrcAt K F ns H (d + 1) a (a :: own) (c :: rd) (p + 16 * st.items.length) (trS (dropStep F ts) op st)
  | first {d : Nat} {a b : Addr} {own rd : List Addr} {p i n : Nat} {st : Strm V Ev} (h : H a = some (.lst [.str "islice", .ref b, .int i, .int i, .int n, .int 1]))
      (s : SrcAt K F ns H d b own rd p st) (a1 : a ∉ own) (a2 : a ∉ rd) : SrcAt K F ns H (d + 1) a (a :: own) rd p (firstS n i st)
  | slice {d : Nat} {a b : Addr} {own rd : List Addr} {p i nx k : Nat} {st : Strm V Ev} (h : H a = some (.lst [.str "islice", .ref b, .int i, .int nx, .non, .int k])) (hk : 1 ≤ k)
      (s : SrcAt K F ns H d b own rd p st) (a1 : a ∉ own) (a2 : a ∉ rd) : SrcAt K F ns H (d + 1) a (a :: own) rd p (trS (sliceStep k) (i, nx) st)
section
variable {K : PySem.W.Frag} {F : Nm → Act} {ns : List Nm}
theorem SrcAt.keep {H H' : Hp} {d : Nat} {a : Addr} {own rd : List Addr} {p : Nat} {st : Strm V Ev} (h : SrcAt K F ns H d a own rd p st) (s : SmL H H') (k : ∀ b, b ∈ own ∨ b ∈ rd → ∀ o, H b = some o → H' b = some o) : SrcAt K F ns H' d a own rd p st := by
  induction h with
  | lst h hl ne ok => exact .lst (k _ (.inl List.mem_cons_self) _ h) (k _ (.inr List.mem_cons_self) _ hl) ne ok
  | rows h ht hn hts hw s' a1 a2 c1 c2 ih =>
    exact .rows (k _ (.inl List.mem_cons_self) _ h) (ht.keep s (k _ (.inr List.mem_cons_self))) (s.seqT hn) hts hw (ih fun b hb => k b (hb.imp (List.mem_cons_of_mem _) (List.mem_cons_of_mem _))) a1 a2 c1 c2
  | takew h ht hts s' a1 a2 c1 c2 ih =>
    exact .takew (k _ (.inl List.mem_cons_self) _ h) (ht.keep s (k _ (.inr List.mem_cons_self))) hts (ih fun b hb => k b (hb.imp (List.mem_cons_of_mem _) (List.mem_cons_of_mem _))) a1 a2 c1 c2
  | dropw h ht hts s' a1 a2 c1 c2 ih =>
    exact .dropw (k _ (.inl List.mem_cons_self) _ h) (ht.keep s (k _ (.inr List.mem_cons_self))) hts (ih fun b hb => k b (hb.imp (List.mem_cons_of_mem _) (List.mem_cons_of_mem _))) a1 a2 c1 c2
  | first h s' a1 a2 ih => exact .first (k _ (.inl List.mem_cons_self) _ h) (ih fun b hb => k b (hb.imp (List.mem_cons_of_mem _) id)) a1 a2
  | slice h hk s' a1 a2 ih => exact .slice (k _ (.inl List.mem_cons_self) _ h) hk (ih fun b hb => k b (hb.imp (List.mem_cons_of_mem _) id)) a1 a2
/-- its own lists stand -/
theorem SrcAt.own_lst {H : Hp} {d : Nat} {a : Addr} {own rd : List Addr} {p : Nat} {st : Strm V Ev} (h : SrcAt K F ns H d a own rd p st) : (∀ b ∈ own, ∃ xs, H b = some (.lst xs)) ∧ (∀ b ∈ rd, ∃ xs, H b = some (.lst xs)) ∧ a ∈ own := by
  induction h with
  | lst h hl ne ok => exact ⟨fun b hb => by rw [List.mem_singleton.mp hb]; exact ⟨_, h⟩, fun b hb => by rw [List.mem_singleton.mp hb]; exact ⟨_, hl⟩, List.mem_cons_self⟩
  | rows h ht hn hts hw s' a1 a2 c1 c2 ih =>
    obtain ⟨ys, hc, _⟩ := ht
    exact ⟨fun b hb => by rcases List.mem_cons.mp hb with e | hb; rw [e]; exact ⟨_, h⟩; exact ih.1 b hb, fun b hb => by rcases List.mem_cons.mp hb with e | hb; rw [e]; exact ⟨_, hc⟩; exact ih.2.1 b hb, List.mem_cons_self⟩
  | takew h ht hts s' a1 a2 c1 c2 ih =>
    obtain ⟨ys, hc, _⟩ := ht
    exact ⟨fun b hb => by rcases List.mem_cons.mp hb with e | hb; rw [e]; exact ⟨_, h⟩; exact ih.1 b hb, fun b hb => by rcases List.mem_cons.mp hb with e | hb; rw [e]; exact ⟨_, hc⟩; exact ih.2.1 b hb, List.mem_cons_self⟩
  | dropw h ht hts s' a1 a2 c1 c2 ih =>
    obtain ⟨ys, hc, _⟩ := ht
    exact ⟨fun b hb => by rcases List.mem_cons.mp hb with e | hb; rw [e]; exact ⟨_, h⟩; exact ih.1 b hb, fun b hb => by rcases List.mem_cons.mp hb with e | hb; rw [e]; exact ⟨_, hc⟩; exact ih.2.1 b hb, List.mem_cons_self⟩
  | first h s' a1 a2 ih => exact ⟨fun b hb => by rcases List.mem_cons.mp hb with e | hb; rw [e]; exact ⟨_, h⟩; exact ih.1 b hb, ih.2.1, List.mem_cons_self⟩
  | slice h hk s' a1 a2 ih => exact ⟨fun b hb => by rcases List.mem_cons.mp hb with e | hb; rw [e]; exact ⟨_, h⟩; exact ih.1 b hb, ih.2.1, List.mem_cons_self⟩
/-- a change of own lists and of m leaves all but lists -/
theorem kp_own_sml {H H' : Hp} {m : Addr} {own : List Addr} {ms : List V} (hm : H m = some (.lst ms)) (ho : ∀ b ∈ own, ∃ xs, H b = some (.lst xs)) (k : Kp (fun b => b = m ∨ b ∈ own) H H') : SmL H H' := fun b o e n => k b o e (.inl fun z => by
  rcases z with z | z
  · rw [z, hm] at e
    exact n _ (Option.some.inj e).symm
  · obtain ⟨xs, hx⟩ := ho b z
    rw [hx] at e
    exact n _ (Option.some.inj e).symm)
end
section
variable {P : Program} {w : World} {K : PySem.W.Frag} {mg : Str → Option Value} {base : Heap}
def spPull (K : PySem.W.Frag) (d : Nat) : Sp := fun vs H Q _ => ∃ (pl m a : Addr) (F : Nm → Act) (ns : List Nm) (own rd : List Addr) (p : Nat) (st : Strm V Ev) (es : List Ev), vs = [.ref pl, .ref a] ∧ PlayV H pl m F ns ∧ LogV K H m es ∧ SrcAt K F ns H d a own rd p st ∧ m ∉ own ∧ m ∉ rd ∧ pl ∉ own ∧ es.length + p ≤ 9000 ∧
  (∀ cs v rest, st.items = (cs, v) :: rest → ∀ H' g p', Kp (fun b => b = m ∨ b ∈ own) H H' → LogV K H' m (es ++ cs) → SrcAt K F ns H' d a own rd p' ⟨rest, st.fin⟩ → cs.length + p' ≤ p → H g = none → H' g = some (.lst [v]) → VOk v → Q (.ref g) H') ∧
  (st.items = [] → ∀ H' g, Kp (fun b => b = m ∨ b ∈ own) H H' → LogV K H' m (es ++ st.fin) → H' g = some (.lst []) → Q (.ref g) H')
end
end K

set_option Elab.async false
set_option linter.all false
set_option maxRecDepth 100000
set_option maxHeartbeats 4000000
/-! KL10: the law's pull (under way). -/
namespace K
open PySem PySem.Spec PyProof.Rows L2 He TL LamX
section
variable {P : Program} {w : World} {K : PySem.W.Frag} {mg : Str → Option Value} {base : Heap}
theorem dp_one {H : Hp} {g : Addr} {v : V} (h : H g = some (.lst [v])) (hv : VOk v) : ∃ d, Dp K H (.ref g) d ∧ SeqAt.shaped d = true ∧ d.eqv (.list []) = false := by
  rcases hv with ⟨i, rfl, _⟩ | ⟨b, rfl⟩
  · exact ⟨.list [.int i], .lst (SqL.of h) (.cons (.int _) .nil), rfl, rfl⟩
  · exact ⟨.list [.bool b], .lst (SqL.of h) (.cons (.bl _) .nil), rfl, rfl⟩
theorem dp_nilL {H : Hp} {g : Addr} (h : H g = some (.lst [])) : Dp K H (.ref g) (.list []) := .lst (SqL.of h) .nil
/-- what a pull gives -/
def PullRes (K : PySem.W.Frag) (F : Nm → Act) (ns : List Nm) (m : Addr) (d : Nat) (b : Addr) (own rd : List Addr) (p : Nat) (st : Strm V Ev) (es : List Ev) (H : Hp) (g : Addr) : Prop :=
  (st.items = [] ∧ LogV K H m (es ++ st.fin) ∧ H g = some (.lst [])) ∨ ∃ cs v rest p', st.items = (cs, v) :: rest ∧ LogV K H m (es ++ cs) ∧ SrcAt K F ns H d b own rd p' ⟨rest, st.fin⟩ ∧ cs.length + p' ≤ p ∧ H g = some (.lst [v]) ∧ VOk v
theorem spPull_of {d : Nat} {pl m a : Addr} {F : Nm → Act} {ns : List Nm} {own rd : List Addr} {p : Nat} {st : Strm V Ev} {es : List Ev} {H : Hp} {vs : List V} {Q : VK} {E : XK} (hP : PlayV H pl m F ns) (hL : LogV K H m es) (hS : SrcAt K F ns H d a own rd p st) (m1 : m ∉ own) (m2 : m ∉ rd) (m3 : pl ∉ own) (hz : es.length + p ≤ 9000) (hvs : vs = [.ref pl, .ref a])
    (q : ∀ H' g, Kp (fun b => b = m ∨ b ∈ own) H H' → (st.items ≠ [] → H g = none) → PullRes K F ns m d a own rd p st es H' g → Q (.ref g) H') : spPull K d vs H Q E :=
  ⟨pl, m, a, F, ns, own, rd, p, st, es, hvs, hP, hL, hS, m1, m2, m3, hz, fun cs v rest e H' g p' k l s' hp hg hg1 hv => q H' g k (fun _ => hg) (.inr ⟨cs, v, rest, p', e, l, s', hp, hg1, hv⟩), fun e H' g k l hg1 => q H' g k (fun z => absurd e z) (.inl ⟨e, l, hg1⟩)⟩
theorem fresh_back {H H' : Hp} {M : Addr → Prop} {u : Addr} (k : Kp M H H') (al : ∀ b, M b → ∃ o, H' b = some o) (nu : H' u = none) : H u = none := by
  cases eu : H u with
  | none => rfl
  | some o =>
    exfalso
    by_cases hu : M u
    · obtain ⟨o', h⟩ := al u hu
      rw [h] at nu; cases nu
    · rw [k _ _ eu (.inl hu)] at nu; cases nu
theorem LogV.keep {H H' : Hp} {m : Addr} {es : List Ev} (h : LogV K H m es) (s : SmL H H') (k : ∀ o, H m = some o → H' m = some o) : LogV K H' m es := by
  obtain ⟨ys, h1, h2⟩ := h
  exact ⟨ys, k _ h1, h2.sml s⟩
theorem two_sets {H : Hp} {t a : Addr} {xs ls l2 l3 : List V} (nt : H t = none) (ha : H a = some (.lst ls)) : (upd (upd (upd H t (.tup xs)) a (.lst l2)) a (.lst l3)) a = some (.lst l3) ∧ SmL H (upd (upd (upd H t (.tup xs)) a (.lst l2)) a (.lst l3)) ∧ ∀ b o, b ≠ a → H b = some o → (upd (upd (upd H t (.tup xs)) a (.lst l2)) a (.lst l3)) b = some o := by
  have s2 := same_new (o := HO.tup xs) nt
  have h2 := s2 _ _ ha
  exact ⟨upd_same, ((SmL.of s2).trans (SmL.put h2)).trans (SmL.put upd_same), fun b o n e => (upd_ne n).trans ((upd_ne n).trans (s2 _ _ e))⟩
theorem kp_but {H H1 H2 : Hp} {m a : Addr} {own : List Addr} {ls : List V} (k : Kp (fun b => b = m ∨ b ∈ own) H H1) (h1 : H1 a = some (.lst ls)) (sm : SmL H1 H2) (kb : ∀ b o, b ≠ a → H1 b = some o → H2 b = some o) : Kp (fun b => b = m ∨ b ∈ a :: own) H H2 := fun b o e n => by
  rcases Classical.em (b = a) with rfl | z
  · refine sm _ _ (k _ _ e ?_) fun xs eq => ?_
    · exact n.imp (fun q z => q (z.imp id (List.mem_cons_of_mem _))) id
    · rcases n with q | q
      · exact q (.inr List.mem_cons_self)
      · rw [eq] at q
        exact ns_lst q
  · exact kb b o z (k _ _ e (n.imp (fun q z => q (z.imp id (List.mem_cons_of_mem _))) id))
/-- a pull that is never asked for -/
def spNo : Sp := fun vs _ _ _ => vs.length = 2 ∧ False
theorem ok_pull_no (T : Tx K mg w) (k : Nat) : Ok1 P w K mg base (k + 1) "_law_pull" ["_law_play_here", "_law_source"] spNo := by
  refine T.d_law_pull.mk sc_law_pull bn_law_pull (fun vs H Q E h => h.1) (fun cdv A outer s H vs Q E hr h => h.2.elim)
/-- pull_slice at a source of depth at most d + 1 -/
def spPullSlice (K : PySem.W.Frag) (d : Nat) : Sp := fun vs H Q E => (∃ a i nx stop step b, vs.getD 1 .non = .ref a ∧ H a = some (.lst [.str "islice", .ref b, i, nx, stop, step])) ∧ spPull K d vs H Q E
theorem spPull_len {d : Nat} {vs : List V} {H : Hp} {Q : VK} {E : XK} (h : spPull K d vs H Q E) : vs.length = 2 := by
  obtain ⟨pl, m, a, F, ns, own, rd, p, st, es, rfl, _⟩ := h
  rfl
theorem ok_pull_slice {k d : Nat} {sp : Sp} (T : Tx K mg w) (G : Ok1 P w K mg base (k + 4) "_law_pull" ["_law_play_here", "_law_source"] sp) (hsp : sp = spNo ∧ d = 0 ∨ ∃ e, sp = spPull K e ∧ d = e + 1) :
    Ok1 P w K mg base (k + 5) "_law_pull_slice" ["_law_play_here", "_law_source"] (spPullSlice K d) := by
  have nd := sc_law_pull_slice.nd
  refine T.d_law_pull_slice.mk sc_law_pull_slice bn_law_pull_slice (fun vs H Q E h => spPull_len h.2) (fun cdv A outer s H vs Q E hr h => ?_)
  refine ⟨_, pss_cons (ps_while PassesOwn.never (pt_cmpR op_lt (pe_ix ix_list (pv 1) pe_int (fun _ _ => rfl)) (pe_ix ix_list (pv 1) pe_int (fun _ _ => rfl)) (nomark _))
        (pss_cons (ps_if (pt_cmpR (op_eqD hr.units) (pe_g G hr (pa_cons (pv 0) (pa_cons (pe_ix ix_list (pv 1) pe_int (fun _ _ => rfl)) pa_nil))) (pe_lst pa_nil) (nomark _)) (pss_one (ps_ret (pe_lst pa_nil))) pss_nil)
        (pss_one (ps_asg (pe_op op_add (pe_ix ix_list (pv 1) pe_int (fun _ _ => rfl)) pe_int) (pg_sub (pv 1) pe_int set_list (fun _ => rfl))))))
    (pss_cons (ps_if (PW.pt (pw_and (pt_cmpR op_notN (pe_ix ix_list (pv 1) pe_int (fun _ _ => rfl)) pe_non (nomark _)) (pw_and1 (pt_cmpR op_ge (pe_ix ix_list (pv 1) pe_int (fun _ _ => rfl)) (pe_ix ix_list (pv 1) pe_int (fun _ _ => rfl)) (nomark _))))) (pss_one (ps_ret (pe_lst pa_nil))) pss_nil)
    (pss_cons (ps_set (i := 2) nd rfl (.inl rfl) (pe_g G hr (pa_cons (pv 0) (pa_cons (pe_ix ix_list (pv 1) pe_int (fun _ _ => rfl)) pa_nil))))
    (pss_cons (ps_asg (pe_tup (pa_cons (pe_op op_add (pe_ix ix_list (pv 1) pe_int (fun _ _ => rfl)) pe_int) (pa_cons (pe_op op_add (pe_ix ix_list (pv 1) pe_int (fun _ _ => rfl)) (pe_ix ix_list (pv 1) pe_int (fun _ _ => rfl))) pa_nil))) (pg_tup (by rfl) (pgs_cons (pg_sub (pv 1) pe_int set_list (fun _ => rfl)) (pgs_cons (pg_sub (pv 1) pe_int set_list (fun _ => rfl)) pgs_nil))))
    (pss_one (ps_ret (pv 2)))))), ?_⟩
  obtain ⟨⟨a0, i0, nx0, sp0, sk0, b0, e0, ha0⟩, pl, m, a, F, ns, own, rd, p, st, es, rfl, hP, hL, hS, m1, m2, m3, hz, q1, q0⟩ := h
  obtain rfl : a = a0 := by injection e0
  have bad : ∀ {x : String} {xs : List V}, Str.ofString x ≠ Str.ofString "islice" → H a = some (.lst (V.str (Str.ofString x) :: xs)) → False := fun hx e => by
    rw [ha0] at e
    injection e with e
    injection e with e
    injection e with e _
    injection e with e
    exact hx e.symm
  have hS0 := hS
  have hown := hS0.own_lst.1
  obtain ⟨ysm, hm, hym⟩ := id hL
  have am : a ≠ m := fun e => m1 (by rw [← e]; exact hS0.own_lst.2.2)
  cases hS with
  | lst h => exact (bad (x := "list") (by decide +kernel) h).elim
  | rows h => exact (bad (x := "rows") (by decide +kernel) h).elim
  | takew h => exact (bad (x := "takewhile") (by decide +kernel) h).elim
  | dropw h => exact (bad (x := "dropwhile") (by decide +kernel) h).elim
  | @first e _ b own rd p i n st h s' a1 a2 =>
    obtain ⟨_, z⟩ | ⟨e', rfl, z⟩ := hsp
    · cases z
    obtain rfl : e = e' := Nat.succ.inj z
    have na : ¬ (a = m ∨ a ∈ own) := fun z => z.elim am a1
    have npl : ¬ (pl = m ∨ pl ∈ a :: own) := fun z => z.elim (by obtain ⟨_, _, h, _⟩ := hP; exact h) m3
    have i1 : m ∉ own := fun z => m1 (List.mem_cons_of_mem _ z)
    have i2 : m ∉ rd := m2
    have i3 : pl ∉ own := fun z => m3 (List.mem_cons_of_mem _ z)
    refine ⟨fun _ σ H' => σ = [some (.ref pl), some (.ref a), none] ∧ H' = H, ⟨0, rfl, rfl⟩, ?_⟩
    rintro _ σ H' ⟨rfl, rfl⟩
    refine ⟨_, rfl, a, _, 2, _, rfl, rfl, SqL.of h, atI_nat (j := 2) rfl, _, rfl, a, _, 3, _, rfl, rfl, SqL.of h, atI_nat (j := 3) rfl, ?_⟩
    refine ⟨_, _, rfl, rfl, _, rfl, ifF (by simp) ?_⟩
    refine ⟨_, rfl, a, _, 4, _, rfl, rfl, SqL.of h, atI_nat (j := 4) rfl, rfl, _, rfl, ifT rfl ?_⟩
    refine ⟨_, rfl, a, _, 2, _, rfl, rfl, SqL.of h, atI_nat (j := 2) rfl, _, rfl, a, _, 4, _, rfl, rfl, SqL.of h, atI_nat (j := 4) rfl, ?_⟩
    refine ⟨_, _, rfl, rfl, _, rfl, ?_⟩
    by_cases hin : n ≤ i
    · refine ifT (by simp; omega) ⟨by show 0 ≤ sizeLine; decide, fun u nu => ?_⟩
      have s2 := same_new (o := HO.lst []) nu
      have e2 : firstS n i st = ⟨[], []⟩ := by unfold firstS; rw [if_pos hin]; rfl
      have fin := q0 (by rw [e2]) _ u (Same.kp s2) (by
        rw [e2]
        show LogV K _ m (es ++ [])
        rw [List.append_nil]
        exact hL.keep (SmL.of s2) (fun o e => s2 _ _ e)) upd_same
      exact fin
    · refine ifF (by simp; omega) ?_
      refine ⟨_, rfl, _, rfl, a, _, 1, _, rfl, rfl, SqL.of h, atI_nat (j := 1) rfl, ?_⟩
      try delta tNil
      with_reducible refine spPull_of (F := F) hP hL s' i1 i2 i3 ?_ ?_ (fun H1 g kk hg hres => ?_)
      · omega
      · rfl
      have h1 := kk _ _ h (.inl na)
      have ga : g ≠ a := fun e => by
        rcases hres with ⟨_, _, hg1⟩ | ⟨_, v, _, _, _, _, _, _, hg1, hv⟩
        · rw [e, h1] at hg1; cases hg1
        · rw [e, h1] at hg1; cases hg1
      refine ⟨_, rfl, a, _, 2, _, rfl, rfl, SqL.of h1, atI_nat (j := 2) rfl, _, _, rfl, rfl, _, rfl, a, _, 3, _, rfl, rfl, SqL.of h1, atI_nat (j := 3) rfl, _, rfl, a, _, 5, _, rfl, rfl, SqL.of h1, atI_nat (j := 5) rfl, _, _, rfl, rfl, ?_⟩
      refine ⟨by show 2 ≤ sizeLine; decide, fun t nt => ?_⟩
      have nta : t ≠ a := fun e => by rw [e, h1] at nt; cases nt
      refine ⟨t, _, rfl, SqT.of upd_same, rfl, ?_⟩
      have h2 := same_new (o := HO.tup [V.int ((i : Int) + 1), V.int ((i : Int) + 1)]) nt _ _ h1
      refine ⟨_, _, rfl, _, rfl, a, _, 2, 2, rfl, rfl, h2, rfl, ?_⟩
      refine ⟨_, _, rfl, _, rfl, a, _, 3, 3, rfl, rfl, upd_same, rfl, rfl, _, rfl, ?_⟩
      obtain ⟨t1, t2, t3⟩ := two_sets (xs := [V.int ((i : Int) + 1), V.int ((i : Int) + 1)]) (l2 := [V.str "islice", .ref b, .int i, .int i, .int n, .int 1].set 2 (.int ((i : Int) + 1))) (l3 := ([V.str "islice", .ref b, .int i, .int i, .int n, .int 1].set 2 (.int ((i : Int) + 1))).set 3 (.int ((i : Int) + 1))) nt h1
      have k4 := kp_but kk h1 t2 t3
      rcases hres with ⟨hi, hl, hg1⟩ | ⟨cs, v, rest, p'', hi, hl, hS1, hp', hg1, hv⟩
      · have e2 : firstS n i st = ⟨[], st.fin⟩ := by unfold firstS; rw [if_neg hin]; unfold trS; rw [hi, tr_nil]; rfl
        have fin := q0 (by rw [e2]) _ g k4 (by
          rw [e2]
          exact hl.keep t2 (fun o e => t3 _ _ am.symm e)) (t3 _ _ ga hg1)
        exact fin
      · have e1 : firstStep n i v = ([], some v, i + 1, i + 1 == n) := rfl
        have e3 : (if (i + 1 == n) = true then Strm.nil else tr (firstStep n) (i + 1) [] rest st.fin) = firstS n (i + 1) ⟨rest, st.fin⟩ := by
          unfold firstS
          by_cases z : i + 1 = n
          · rw [if_pos (beq_iff_eq.mpr z), if_pos (by omega)]
          · rw [if_neg (fun y => z (beq_iff_eq.mp y)), if_neg (by omega)]; rfl
        have e2 : firstS n i st = Strm.cons ([] ++ cs ++ [], v) (firstS n (i + 1) ⟨rest, st.fin⟩) := by
          rw [← e3]
          conv => lhs; unfold firstS
          rw [if_neg hin]
          unfold trS
          rw [hi, tr_some e1]
        have e4 : (⟨(firstS n (i + 1) ⟨rest, st.fin⟩).items, (firstS n i st).fin⟩ : Strm V Ev) = firstS n (i + 1) ⟨rest, st.fin⟩ := by rw [e2]; rfl
        have fin := q1 ([] ++ cs ++ []) v _ (by rw [e2]; rfl) _ g p'' k4 (by
          rw [List.append_nil]
          exact hl.keep t2 (fun o e => t3 _ _ am.symm e)) (by
          rw [e4]
          exact .first (i := i + 1) t1 (hS1.keep t2 fun b' hb o ho => t3 _ _ (fun z => by rw [z] at hb; exact hb.elim a1 a2) ho) a1 a2) (by rw [List.append_nil]; exact hp') (hg (by rw [hi]; exact List.cons_ne_nil _ _)) (t3 _ _ ga hg1) hv
        exact fin
  | @slice e _ b own rd p i nx k st h hk s' a1 a2 =>
    obtain ⟨_, z⟩ | ⟨e', rfl, z⟩ := hsp
    · cases z
    obtain rfl : e = e' := Nat.succ.inj z
    have na : ¬ (a = m ∨ a ∈ own) := fun z => z.elim am a1
    have npl : ¬ (pl = m ∨ pl ∈ a :: own) := fun z => z.elim (by obtain ⟨_, _, h, _⟩ := hP; exact h) m3
    have i1 : m ∉ own := fun z => m1 (List.mem_cons_of_mem _ z)
    have i2 : m ∉ rd := m2
    have i3 : pl ∉ own := fun z => m3 (List.mem_cons_of_mem _ z)
    refine ⟨fun n σ H' => ∃ (st' : Strm V Ev) (acc : List Ev) (p' i' : Nat), σ = [some (.ref pl), some (.ref a), none] ∧ Kp (fun b => b = m ∨ b ∈ a :: own) H H' ∧ H' a = some (.lst [.str "islice", .ref b, .int i', .int nx, .non, .int k]) ∧ LogV K H' m (es ++ acc) ∧ SrcAt K F ns H' e b own rd p' st' ∧
      tr (sliceStep k) (i', nx) acc st'.items st'.fin = trS (sliceStep k) (i, nx) st ∧ acc.length + p' ≤ p ∧ n = nx - i',
      ⟨_, st, [], p, i, rfl, Kp.refl _ _, h, by rw [List.append_nil]; exact hL, s', rfl, by simp, rfl⟩, ?_⟩
    rintro n σ H2 ⟨st', acc, p', i', rfl, k2, h2, hl2, hS2, htr, hbd, rfl⟩
    have hP2 := hP.keep (kp_own_sml hm hown k2) fun o ho => k2 _ _ ho (.inl npl)
    have al2 : ∀ b, b = m ∨ b ∈ a :: own → ∃ o, H2 b = some o := fun b hb => by
      rcases hb with rfl | hb
      · obtain ⟨zs, hz, _⟩ := hl2; exact ⟨_, hz⟩
      · rcases List.mem_cons.mp hb with rfl | hb
        · exact ⟨_, h2⟩
        · obtain ⟨zs, hz⟩ := hS2.own_lst.1 b hb; exact ⟨_, hz⟩
    refine ⟨_, rfl, a, _, 2, _, rfl, rfl, SqL.of h2, atI_nat (j := 2) rfl, _, rfl, a, _, 3, _, rfl, rfl, SqL.of h2, atI_nat (j := 3) rfl, ?_⟩
    refine ⟨_, _, rfl, rfl, _, rfl, ?_⟩
    by_cases hin : i' < nx
    · refine ifT (by simp; omega) ⟨_, fun _ _ z => z, ?_⟩
      refine ⟨_, rfl, _, rfl, a, _, 1, _, rfl, rfl, SqL.of h2, atI_nat (j := 1) rfl, ?_⟩
      have e1 : ∀ v, sliceStep k (i', nx) v = ([], none, (i' + 1, nx), false) := fun v => by unfold sliceStep; rw [if_pos hin]
      try delta tNil
      with_reducible refine spPull_of (F := F) (es := es ++ acc) hP2 hl2 hS2 i1 i2 i3 ?_ ?_ (fun H1 g kk hg hres => ?_)
      · (simp only [List.length_append]; omega)
      · rfl
      have h1 := kk _ _ h2 (.inl na)
      refine ⟨by show 0 ≤ sizeLine; decide, fun t nt => ?_⟩
      have s3 := same_new (o := HO.lst []) nt
      rcases hres with ⟨hi, hl, hg1⟩ | ⟨cs, v, rest, p'', hi, hl, hS1, hp', hg1, hv⟩
      · refine ⟨.list [], .list [], dp_nilL (s3 _ _ hg1), dp_nilL upd_same, rfl, rfl, _, rfl, ifT rfl ?_⟩
        refine ⟨by show 0 ≤ sizeLine; decide, fun u nu => ?_⟩
        have s4 := same_new (o := HO.lst []) nu
        have e2 : trS (sliceStep k) (i, nx) st = ⟨[], acc ++ st'.fin⟩ := by rw [← htr, hi, tr_nil]
        have fin := q0 (by rw [e2]) _ u (((k2.trans (kk.mono fun b e => e.imp id (List.mem_cons_of_mem _))).trans (Same.kp s3)).trans (Same.kp s4)) (by
          rw [e2]
          show LogV K _ m (es ++ (acc ++ st'.fin))
          rw [← List.append_assoc]
          exact hl.keep (SmL.of (s3.trans s4)) (fun o e => s4 _ _ (s3 _ _ e))) upd_same
        exact fin
      · obtain ⟨d, hd1, hd2, hd3⟩ := dp_one (K := K) (s3 _ _ hg1) hv
        refine ⟨d, .list [], hd1, dp_nilL upd_same, hd2, rfl, _, rfl, ifF (by rw [hd3]) ?_⟩
        refine ⟨_, rfl, a, _, 2, _, rfl, rfl, SqL.of (s3 _ _ h1), atI_nat (j := 2) rfl, _, _, rfl, rfl, ?_⟩
        refine ⟨_, rfl, a, _, 2, 2, rfl, rfl, s3 _ _ h1, rfl, ?_⟩
        rw [hi, tr_none (e1 v), if_neg Bool.false_ne_true] at htr
        have sm : SmL H1 (upd (upd H1 t (.lst [])) a (.lst ([V.str "islice", .ref b, .int i', .int nx, .non, .int k].set 2 (.int ((i' : Int) + 1))))) := (SmL.of s3).trans (SmL.put (s3 _ _ h1))
        have kb : ∀ b' o, b' ≠ a → H1 b' = some o → (upd (upd H1 t (.lst [])) a (.lst ([V.str "islice", .ref b, .int i', .int nx, .non, .int k].set 2 (.int ((i' : Int) + 1))))) b' = some o := fun b' o n e => (upd_ne n).trans (s3 _ _ e)
        refine ⟨_, ?_, ⟨rest, st'.fin⟩, acc ++ cs ++ [], p'', i' + 1, rfl, k2.trans (kp_but kk h1 sm kb), upd_same, ?_, hS1.keep sm (fun b' hb o ho => kb _ _ (fun z => by rw [z] at hb; exact hb.elim a1 a2) ho), htr, ?_, rfl⟩
        · omega
        · rw [List.append_nil, ← List.append_assoc]
          exact hl.keep sm (fun o e => kb _ _ am.symm e)
        · simp only [List.length_append, List.length_nil]; omega
    · refine ifF (by simp; omega) ?_
      refine ⟨_, rfl, a, _, 4, _, rfl, rfl, SqL.of h2, atI_nat (j := 4) rfl, rfl, _, rfl, ifF rfl ?_⟩
      refine ⟨_, rfl, _, rfl, a, _, 1, _, rfl, rfl, SqL.of h2, atI_nat (j := 1) rfl, ?_⟩
      try delta tNil
      with_reducible refine spPull_of (F := F) (es := es ++ acc) hP2 hl2 hS2 i1 i2 i3 ?_ ?_ (fun H1 g kk hg hres => ?_)
      · (simp only [List.length_append]; omega)
      · rfl
      have h1 := kk _ _ h2 (.inl na)
      have ga : g ≠ a := fun e => by
        rcases hres with ⟨_, _, hg1⟩ | ⟨_, v, _, _, _, _, _, _, hg1, hv⟩
        · rw [e, h1] at hg1; cases hg1
        · rw [e, h1] at hg1; cases hg1
      refine ⟨_, rfl, a, _, 2, _, rfl, rfl, SqL.of h1, atI_nat (j := 2) rfl, _, _, rfl, rfl, _, rfl, a, _, 3, _, rfl, rfl, SqL.of h1, atI_nat (j := 3) rfl, _, rfl, a, _, 5, _, rfl, rfl, SqL.of h1, atI_nat (j := 5) rfl, _, _, rfl, rfl, ?_⟩
      refine ⟨by show 2 ≤ sizeLine; decide, fun t nt => ?_⟩
      refine ⟨t, _, rfl, SqT.of upd_same, rfl, ?_⟩
      have h3 := same_new (o := HO.tup [V.int ((i' : Int) + 1), V.int ((nx : Int) + (k : Int))]) nt _ _ h1
      refine ⟨_, _, rfl, _, rfl, a, _, 2, 2, rfl, rfl, h3, rfl, ?_⟩
      refine ⟨_, _, rfl, _, rfl, a, _, 3, 3, rfl, rfl, upd_same, rfl, rfl, _, rfl, ?_⟩
      obtain ⟨t1, t2, t3⟩ := two_sets (xs := [V.int ((i' : Int) + 1), V.int ((nx : Int) + (k : Int))]) (l2 := [V.str "islice", .ref b, .int i', .int nx, .non, .int k].set 2 (.int ((i' : Int) + 1))) (l3 := ([V.str "islice", .ref b, .int i', .int nx, .non, .int k].set 2 (.int ((i' : Int) + 1))).set 3 (.int ((nx : Int) + (k : Int)))) nt h1
      have k4 := k2.trans (kp_but kk h1 t2 t3)
      rcases hres with ⟨hi, hl, hg1⟩ | ⟨cs, v, rest, p'', hi, hl, hS1, hp', hg1, hv⟩
      · have e2 : trS (sliceStep k) (i, nx) st = ⟨[], acc ++ st'.fin⟩ := by rw [← htr, hi, tr_nil]
        have fin := q0 (by rw [e2]) _ g k4 (by
          rw [e2]
          show LogV K _ m (es ++ (acc ++ st'.fin))
          rw [← List.append_assoc]
          exact hl.keep t2 (fun o e => t3 _ _ am.symm e)) (t3 _ _ ga hg1)
        exact fin
      · have e1 : sliceStep k (i', nx) v = ([], some v, (i' + 1, nx + k), false) := by unfold sliceStep; rw [if_neg hin]
        have e2 : trS (sliceStep k) (i, nx) st = Strm.cons (acc ++ cs ++ [], v) (trS (sliceStep k) (i' + 1, nx + k) ⟨rest, st'.fin⟩) := by rw [← htr, hi, tr_some e1, if_neg Bool.false_ne_true]; rfl
        have e4 : (⟨(trS (sliceStep k) (i' + 1, nx + k) ⟨rest, st'.fin⟩).items, (trS (sliceStep k) (i, nx) st).fin⟩ : Strm V Ev) = trS (sliceStep k) (i' + 1, nx + k) ⟨rest, st'.fin⟩ := by rw [e2]; rfl
        have fin := q1 (acc ++ cs ++ []) v _ (by rw [e2]; rfl) _ g p'' k4 (by
          rw [List.append_nil, ← List.append_assoc]
          exact hl.keep t2 (fun o e => t3 _ _ am.symm e)) (by
          rw [e4]
          exact .slice (i := i' + 1) (nx := nx + k) t1 hk (hS1.keep t2 fun b' hb o ho => t3 _ _ (fun z => by rw [z] at hb; exact hb.elim a1 a2) ho) a1 a2) (by simp only [List.length_append, List.length_nil]; omega) (fresh_back k2 al2 (hg (by rw [hi]; exact List.cons_ne_nil _ _))) (t3 _ _ ga hg1) hv
        exact fin
theorem ok_pull {k d : Nat} {sp : Sp} (T : Tx K mg w) (G : Ok1 P w K mg base (k + 4) "_law_pull" ["_law_play_here", "_law_source"] sp) (hsp : sp = spNo ∧ d = 0 ∨ ∃ e, sp = spPull K e ∧ d = e + 1) :
    Ok1 P w K mg base (k + 6) "_law_pull" ["_law_play_here", "_law_source"] (spPull K d) := by
  have nd := sc_law_pull.nd
  refine T.d_law_pull.mk sc_law_pull bn_law_pull (fun vs H Q E h => spPull_len h) (fun cdv A outer s H vs Q E hr h => ?_)
  have hr4 := hr.mono (show k + 4 ≤ k + 5 by omega)
  have hr3 := hr.mono (show 4 ≤ k + 5 by omega)
  have ps := ok_law_passes (P := P) (base := base) T
  have eqL := op_eqD (X := (cxOf CX0 P w K mg base ["_law_play_here", "_law_source", "_law_sort_here", "_law_got"] "_law_pull" (defScope s_law_pull) (ga K "_law_pull") cdv A outer s H E).nox) hr.units
  have neL := op_neD (X := (cxOf CX0 P w K mg base ["_law_play_here", "_law_source", "_law_sort_here", "_law_got"] "_law_pull" (defScope s_law_pull) (ga K "_law_pull") cdv A outer s H E).nox) hr.units
  refine ⟨_, pss_cons (ps_set (i := 2) nd rfl (.inl rfl) (pe_ix ix_list (pv 1) pe_int (fun _ _ => rfl)))
    (pss_cons (ps_if (pt_cmpR op_eq (pv 2) pe_str (nomark _)) (pss_cons (ps_asg (pe_op op_add (pe_ix ix_list (pv 1) pe_int (fun _ _ => rfl)) pe_int) (pg_sub (pv 1) pe_int set_list (fun _ => rfl))) (pss_one (ps_ret (pe_slice sl_list (pe_ix ix_list (pv 1) pe_int (fun _ _ => rfl)) (po_some (pe_op op_sub (pe_ix ix_list (pv 1) pe_int (fun _ _ => rfl)) pe_int)) (po_some (pe_ix ix_list (pv 1) pe_int (fun _ _ => rfl))))))) pss_nil)
    (pss_cons (ps_if (pt_cmpR op_eq (pv 2) pe_str (nomark _)) (pss_one (ps_ret (pe_g (ok_pull_slice T G hsp) hr (pa_cons (pv 0) (pa_cons (pv 1) pa_nil))))) pss_nil)
    (pss_cons (ps_if (PW.pt (pw_and (pt_cmpR op_eq (pv 2) pe_str (nomark _)) (pw_and1 (pt_val (pe_ix ix_list (pv 1) pe_int (fun _ _ => rfl)))))) (pss_one (ps_ret (pe_lst pa_nil))) pss_nil)
    (pss_cons (ps_set (i := 3) nd rfl (.inl rfl) (pe_g G hr4 (pa_cons (pv 0) (pa_cons (pe_ix ix_list (pv 1) pe_int (fun _ _ => rfl)) pa_nil))))
    (pss_cons (ps_if (pt_cmpR op_eq (pv 2) pe_str (nomark _))
      (pss_cons (ps_asg (pe_and (pe_cmpR neL (pv 3) (pe_lst pa_nil) (nomark _)) (pe_one (pe_not (pe_g ps hr3 (pa_cons (pv 0) (pa_cons (pe_ix ix_list (pv 1) pe_int (fun _ _ => rfl)) (pa_cons (pe_ix ix_list (pv 3) pe_int (fun _ _ => rfl)) pa_nil))))))) (pg_sub (pv 1) pe_int set_list (fun _ => rfl)))
      (pss_one (ps_ret (pe_ifExp (pt_val (pe_ix ix_list (pv 1) pe_int (fun _ _ => rfl))) (pe_lst pa_nil) (pv 3))))) pss_nil)
    (pss_cons (ps_if (pt_cmpR op_eq (pv 2) pe_str (nomark _))
      (pss_cons (ps_while PassesOwn.never (PW.pt (pw_and (pt_cmpR neL (pv 3) (pe_lst pa_nil) (nomark _)) (pw_and1 (pt_not (pt_val (pe_ix ix_list (pv 1) pe_int (fun _ _ => rfl)))))))
        (pss_cons (ps_asg (pe_not (pe_g ps hr3 (pa_cons (pv 0) (pa_cons (pe_ix ix_list (pv 1) pe_int (fun _ _ => rfl)) (pa_cons (pe_ix ix_list (pv 3) pe_int (fun _ _ => rfl)) pa_nil))))) (pg_sub (pv 1) pe_int set_list (fun _ => rfl)))
        (pss_one (ps_set (i := 3) nd rfl (.inl rfl) (pe_ifExp (pt_val (pe_ix ix_list (pv 1) pe_int (fun _ _ => rfl))) (pv 3) (pe_g G hr4 (pa_cons (pv 0) (pa_cons (pe_ix ix_list (pv 1) pe_int (fun _ _ => rfl)) pa_nil))))))))
      (pss_one (ps_ret (pv 3)))) pss_nil)
    (pss_cons (ps_while PassesOwn.never (PW.pt (pw_and (pt_cmpR neL (pv 3) (pe_lst pa_nil) (nomark _)) (pw_and1 (pt_not (pt_val (pe_g ps hr3 (pa_cons (pv 0) (pa_cons (pe_ix ix_list (pv 1) pe_int (fun _ _ => rfl)) (pa_cons (pe_ix ix_list (pv 3) pe_int (fun _ _ => rfl)) pa_nil)))))))))
      (pss_one (ps_set (i := 3) nd rfl (.inl rfl) (pe_g G hr4 (pa_cons (pv 0) (pa_cons (pe_ix ix_list (pv 1) pe_int (fun _ _ => rfl)) pa_nil))))))
    (pss_one (ps_ret (pe_ifExp (pt_cmpR neL (pv 3) (pe_lst pa_nil) (nomark _)) (pe_lst (pa_cons (pe_g (ok_law_apply T) (hr.mono (by omega)) (pa_cons (pv 0) (pa_cons (pe_ix ix_list (pv 1) pe_int (fun _ _ => rfl)) (pa_cons (pe_ix ix_list (pv 3) pe_int (fun _ _ => rfl)) pa_nil)))) pa_nil)) (pe_lst pa_nil))))))))))), ?_⟩
  obtain ⟨pl, m, a, F, ns, own, rd, p, st, es, rfl, hP, hL, hS, m1, m2, m3, hz, q1, q0⟩ := h
  have hS0 := hS
  cases hS with
  | @lst _ _ l i xs h hl ne ok =>
    refine ⟨_, rfl, a, _, 0, _, rfl, rfl, SqL.of h, atI_nat (j := 0) rfl, ?_⟩
    refine ⟨_, rfl, rfl, _, rfl, ?_⟩
    refine ifT (by show decide (V.str (Str.ofString "list") = V.str (Str.ofString "list")) = true; decide +kernel) ?_
    refine ⟨_, rfl, a, _, 2, _, rfl, rfl, SqL.of h, atI_nat (j := 2) rfl, _, _, rfl, rfl, ?_⟩
    refine ⟨_, rfl, a, _, 2, 2, rfl, rfl, h, rfl, ?_⟩
    have h1 : (upd H a (.lst ([V.str "list", .ref l, .int i].set 2 (.int ((i : Int) + 1))))) a = some (.lst [.str "list", .ref l, .int ((i : Int) + 1)]) := upd_same
    have k1 : Kp (fun b => b = m ∨ b ∈ [a]) H (upd H a (.lst ([V.str "list", .ref l, .int i].set 2 (.int ((i : Int) + 1))))) := (kp_set (M := (· = a)) rfl h ns_lst).mono fun b e => .inr (List.mem_singleton.mpr e)
    have hl1 : (upd H a (.lst ([V.str "list", .ref l, .int i].set 2 (.int ((i : Int) + 1))))) l = some (.lst xs) := (upd_ne ne).trans hl
    refine ⟨_, rfl, a, _, 1, _, rfl, rfl, SqL.of h1, atI_nat (j := 1) rfl, ?_⟩
    refine ⟨_, rfl, a, _, 2, _, rfl, rfl, SqL.of h1, atI_nat (j := 2) rfl, _, _, rfl, rfl, _, rfl, ?_⟩
    refine ⟨_, rfl, a, _, 2, _, rfl, rfl, SqL.of h1, atI_nat (j := 2) rfl, _, rfl, l, xs, rfl, SqL.of hl1, fun g ng => ?_⟩
    have ga : g ≠ a := fun e => by rw [e, h1] at ng; cases ng
    have hgH : H g = none := (upd_ne ga).symm.trans ng
    have ec : cutV xs (some ((i : Int) + 1 - 1)) (some ((i : Int) + 1)) = (xs.drop i).take 1 := by
      unfold cutV
      rw [show (i : Int) + 1 - 1 = ((i : Nat) : Int) by omega, show (i : Int) + 1 = ((i + 1 : Nat) : Int) by omega, HT.sIx_nat, HT.sIx_nat]
      by_cases hi : i < xs.length
      · rw [Nat.min_eq_left (by omega), Nat.min_eq_left (by omega), show i + 1 - i = 1 by omega]
      · rw [Nat.min_eq_right (by omega), Nat.min_eq_right (by omega), List.drop_eq_nil_of_le (Nat.le_refl _), List.drop_eq_nil_of_le (by omega), List.take_nil, List.take_nil]
    have gl : g ≠ l := fun e => by rw [e, hl1] at ng; cases ng
    have gm : g ≠ m := fun e => by obtain ⟨ys, hm, _⟩ := hL; rw [e, hm] at hgH; cases hgH
    have fin : ∀ zs, zs = (xs.drop i).take 1 → Q (.ref g) (upd (upd H a (.lst ([V.str "list", .ref l, .int i].set 2 (.int ((i : Int) + 1))))) g (.lst zs)) := by
      intro zs ez
      have s2 := same_new (o := HO.lst zs) ng
      have k2 := k1.trans (Same.kp s2)
      have hL2 : LogV K (upd (upd H a (.lst ([V.str "list", .ref l, .int i].set 2 (.int ((i : Int) + 1))))) g (.lst zs)) m (es ++ []) := by
        rw [List.append_nil]
        obtain ⟨ys, hm, hy⟩ := hL
        have am : m ≠ a := fun e => m1 (by rw [e]; exact List.mem_cons_self)
        exact ⟨ys, (upd_ne gm.symm).trans ((upd_ne am).trans hm), hy.sml (kp_own_sml hm (fun b hb => ⟨[.str "list", .ref l, .int i], by rw [List.mem_singleton.mp hb]; exact h⟩) k2)⟩
      cases hx : xs.drop i with
      | nil =>
        rw [hx] at q0 ez
        exact q0 rfl _ g k2 hL2 (by rw [ez]; exact upd_same)
      | cons x r =>
        have hx1 : xs.drop (i + 1) = r := by rw [← List.drop_drop, hx]; rfl
        rw [hx] at q1 ez
        refine q1 [] x (r.map fun v => ([], v)) rfl _ g 0 k2 hL2 ?_ (Nat.zero_le _) hgH (by rw [ez]; exact upd_same) (ok x (List.mem_of_mem_drop (by rw [hx]; exact List.mem_cons_self)))
        rw [← hx1]
        exact .lst (i := i + 1) (s2 _ _ h1) (s2 _ _ hl1) ne ok
    exact fin _ ec
  | first h s' a1 a2 =>
    refine ⟨_, rfl, a, _, 0, _, rfl, rfl, SqL.of h, atI_nat (j := 0) rfl, ?_⟩
    refine ⟨_, rfl, rfl, _, rfl, ?_⟩
    refine ifF (by show decide (V.str (Str.ofString "islice") = V.str (Str.ofString "list")) = false; decide +kernel) ?_
    refine ⟨_, rfl, rfl, _, rfl, ?_⟩
    refine ifT (by show decide (V.str (Str.ofString "islice") = V.str (Str.ofString "islice")) = true; decide +kernel) ?_
    refine ⟨_, rfl, _, rfl, ⟨a, _, _, _, _, _, rfl, h⟩, pl, m, a, F, ns, _, _, _, _, es, rfl, hP, hL, hS0, m1, m2, m3, hz, q1, q0⟩
  | slice h hk s' a1 a2 =>
    refine ⟨_, rfl, a, _, 0, _, rfl, rfl, SqL.of h, atI_nat (j := 0) rfl, ?_⟩
    refine ⟨_, rfl, rfl, _, rfl, ?_⟩
    refine ifF (by show decide (V.str (Str.ofString "islice") = V.str (Str.ofString "list")) = false; decide +kernel) ?_
    refine ⟨_, rfl, rfl, _, rfl, ?_⟩
    refine ifT (by show decide (V.str (Str.ofString "islice") = V.str (Str.ofString "islice")) = true; decide +kernel) ?_
    refine ⟨_, rfl, _, rfl, ⟨a, _, _, _, _, _, rfl, h⟩, pl, m, a, F, ns, _, _, _, _, es, rfl, hP, hL, hS0, m1, m2, m3, hz, q1, q0⟩
  | @takew e _ b c own rd p st ts h ht hts s' a1 a2 c1 c2 =>
    obtain ⟨_, z⟩ | ⟨e', rfl, z⟩ := hsp
    · cases z
    obtain rfl : e = e' := Nat.succ.inj z
    have am : a ≠ m := fun e => m1 (by rw [e]; exact List.mem_cons_self)
    refine ⟨_, rfl, a, _, 0, _, rfl, rfl, SqL.of h, atI_nat (j := 0) rfl, ?_⟩
    refine ⟨_, rfl, rfl, _, rfl, ?_⟩
    refine ifF (by show decide (V.str (Str.ofString "takewhile") = V.str (Str.ofString "list")) = false; decide +kernel) ?_
    refine ⟨_, rfl, rfl, _, rfl, ?_⟩
    refine ifF (by show decide (V.str (Str.ofString "takewhile") = V.str (Str.ofString "islice")) = false; decide +kernel) ?_
    refine ⟨_, rfl, rfl, _, rfl, ?_⟩
    refine ifT (by show decide (V.str (Str.ofString "takewhile") = V.str (Str.ofString "takewhile")) = true; decide +kernel) ?_
    refine ⟨_, rfl, a, _, 3, _, rfl, rfl, SqL.of h, atI_nat (j := 3) rfl, false, rfl, ?_⟩
    refine ifF rfl ?_
    refine ⟨_, rfl, _, rfl, a, _, 1, _, rfl, rfl, SqL.of h, atI_nat (j := 1) rfl, ?_⟩
    refine ⟨pl, m, b, F, ns, own, rd, p, st, es, rfl, hP, hL, s', fun z => m1 (List.mem_cons_of_mem _ z), fun z => m2 (List.mem_cons_of_mem _ z), fun z => m3 (List.mem_cons_of_mem _ z), by omega, ?_, ?_⟩
    · intro cs v rest hst H1 g p' kk hL1 hS1 hp' hg hg1 hv
      have na : ¬ (a = m ∨ a ∈ own) := fun z => z.elim am a1
      have nc : ¬ (c = m ∨ c ∈ own) := fun z => z.elim (fun e => m2 (by rw [e]; exact List.mem_cons_self)) c2
      have npl : ¬ (pl = m ∨ pl ∈ own) := fun z => z.elim (by obtain ⟨_, _, h, _⟩ := hP; exact h) fun z => m3 (List.mem_cons_of_mem _ z)
      refine ⟨_, rfl, rfl, _, rfl, ?_⟩
      refine ifT (by show decide (V.str (Str.ofString "takewhile") = V.str (Str.ofString "takewhile")) = true; decide +kernel) ?_
      refine ⟨_, rfl, by show 0 ≤ sizeLine; decide, fun t nt => ?_⟩
      have s2 := same_new (o := HO.lst []) nt
      have k2 := kk.trans (Same.kp s2)
      have h2 := k2 _ _ h (.inl na)
      obtain ⟨ys, hm, hy⟩ := id hL
      have sm := kp_own_sml hm s'.own_lst.1 k2
      have hT2 := ht.keep sm fun o ho => k2 _ _ ho (.inl nc)
      have hP2 := hP.keep sm fun o ho => k2 _ _ ho (.inl npl)
      have hL2 : LogV K (upd H1 t (.lst [])) m (es ++ cs) := by
        obtain ⟨zs, hm1, hz1⟩ := hL1
        exact ⟨zs, s2 _ _ hm1, hz1.sml fun b o e _ => s2 b o e⟩
      obtain ⟨d, hd1, hd2, hd3⟩ := dp_one (K := K) (s2 _ _ hg1) hv
      refine ⟨d, .list [], hd1, dp_nilL upd_same, hd2, rfl, _, rfl, ifT (by rw [hd3]; rfl) ?_⟩
      refine ⟨_, rfl, _, rfl, a, _, 2, _, rfl, rfl, SqL.of h2, atI_nat (j := 2) rfl, _, rfl, g, _, 0, _, rfl, rfl, SqL.of (s2 _ _ hg1), atI_nat (j := 0) rfl, ?_⟩
      refine ⟨pl, m, c, F, ns, ts, v, es ++ cs, rfl, hP2, hL2, hT2, fun e => nc (.inl e), hts.2, hv, by rw [List.length_append]; have := hts.1; omega, fun H3 k3 hL3 => ?_⟩
      refine ⟨_, rfl, _, rfl, a, _, 3, 3, rfl, rfl, k3 _ _ h2 (.inl am), rfl, ?_⟩
      have k3' : Kp (fun b => b = m ∨ b ∈ a :: own) H H3 := (k2.mono fun b e => e.imp id (List.mem_cons_of_mem _)).trans (k3.mono fun b e => .inl e)
      generalize hpz : passF F ts v = pz at *
      obtain ⟨bz, lz⟩ := pz
      have g3 : H3 g = some (.lst [v]) := k3 _ _ (s2 _ _ hg1) (.inl fun e => by rw [e, hm] at hg; cases hg)
      have ga : g ≠ a := fun e => by rw [e, h] at hg; cases hg
      have eit : st = ⟨(cs, v) :: rest, st.fin⟩ := by rw [← hst]
      have h3 := k3 _ _ h2 (.inl am)
      cases bz with
      | true =>
        have h4 : (upd H3 a (.lst ([V.str "takewhile", .ref b, .ref c, .bl false].set 3 (.bl (!true))))) a = some (.lst [.str "takewhile", .ref b, .ref c, .bl false]) := upd_same
        refine ⟨_, rfl, a, _, 3, _, rfl, rfl, SqL.of h4, atI_nat (j := 3) rfl, false, rfl, ?_⟩
        refine ifF rfl ⟨_, rfl, ?_⟩
        have k4 : Kp (fun b => b = m ∨ b ∈ a :: own) H (upd H3 a (.lst ([V.str "takewhile", .ref b, .ref c, .bl false].set 3 (.bl (!true))))) := k3'.trans (kp_set (M := fun b => b = m ∨ b ∈ a :: own) (.inr List.mem_cons_self) h3 ns_lst)
        have sm34 : SmL H3 (upd H3 a (.lst ([V.str "takewhile", .ref b, .ref c, .bl false].set 3 (.bl (!true))))) := fun x o e n => (upd_ne fun z => n _ (by rw [z, h3] at e; exact (Option.some.inj e).symm)).trans e
        have k14 : Kp (fun b => b = m ∨ b = a) H1 (upd H3 a (.lst ([V.str "takewhile", .ref b, .ref c, .bl false].set 3 (.bl (!true))))) := ((Same.kp s2).trans (k3.mono fun b e => .inl e)).trans (kp_set (M := fun b => b = m ∨ b = a) (.inr rfl) h3 ns_lst)
        obtain ⟨ys1, hm1, _⟩ := id hL1
        have sm5 := kp_own_sml (own := [a]) hm1 (fun x hx => ⟨[.str "takewhile", .ref b, .ref c, .bl false], by rw [List.mem_singleton.mp hx]; exact kk _ _ h (.inl na)⟩) (k14.mono fun b e => e.imp id fun z => List.mem_singleton.mpr z)
        have k5 : ∀ b', b' ∈ own ∨ b' ∈ rd → ∀ o, H1 b' = some o → (upd H3 a (.lst ([V.str "takewhile", .ref b, .ref c, .bl false].set 3 (.bl (!true))))) b' = some o := fun b' hb o ho => k14 _ _ ho (.inl fun z => by
          rcases z with rfl | rfl
          · exact hb.elim (fun z => m1 (List.mem_cons_of_mem _ z)) fun z => m2 (List.mem_cons_of_mem _ z)
          · exact hb.elim a1 a2)
        have e1 : takeStep F ts () v = (lz, some v, (), false) := by unfold takeStep; rw [hpz]; rfl
        have e2 : trS (takeStep F ts) () st = Strm.cons (cs ++ lz, v) (trS (takeStep F ts) () ⟨rest, st.fin⟩) := by
          have e3 : tr (takeStep F ts) () [] ((cs, v) :: rest) st.fin = Strm.cons (cs ++ lz, v) (trS (takeStep F ts) () ⟨rest, st.fin⟩) := by rw [tr_some e1, if_neg Bool.false_ne_true]; rfl
          rw [← e3, ← hst]; rfl
        have ei : (trS (takeStep F ts) () st).items = (cs ++ lz, v) :: (trS (takeStep F ts) () ⟨rest, st.fin⟩).items := by rw [e2]; rfl
        have hL4 : LogV K (upd H3 a (.lst ([V.str "takewhile", .ref b, .ref c, .bl false].set 3 (.bl (!true))))) m (es ++ (cs ++ lz)) := by
          obtain ⟨zs, hm3, hz3⟩ := hL3
          rw [← List.append_assoc]
          exact ⟨zs, (upd_ne am.symm).trans hm3, hz3.sml sm34⟩
        have hS4 : SrcAt K F ns (upd H3 a (.lst ([V.str "takewhile", .ref b, .ref c, .bl false].set 3 (.bl (!true))))) (e + 1) a (a :: own) (c :: rd) (p' + 16 * rest.length) ⟨(trS (takeStep F ts) () ⟨rest, st.fin⟩).items, (trS (takeStep F ts) () st).fin⟩ := by
          have e4 : (⟨(trS (takeStep F ts) () ⟨rest, st.fin⟩).items, (trS (takeStep F ts) () st).fin⟩ : Strm V Ev) = trS (takeStep F ts) () ⟨rest, st.fin⟩ := by rw [e2]; rfl
          rw [e4]
          have sm4 := kp_own_sml (ms := ys) hm (fun b hb => (SrcAt.takew (F := F) h ht hts s' a1 a2 c1 c2).own_lst.1 b hb) k4
          exact .takew (p := p') (st := ⟨rest, st.fin⟩) h4 (ht.keep sm4 fun o ho => k4 _ _ ho (.inl fun z => z.elim (fun e => nc (.inl e)) fun z => (List.mem_cons.mp z).elim c1 c2)) hts (hS1.keep sm5 k5) a1 a2 c1 c2
        have fin := q1 (cs ++ lz) v (trS (takeStep F ts) () ⟨rest, st.fin⟩).items ei _ g (p' + 16 * rest.length) k4 hL4 hS4 (by rw [List.length_append]; have := passF_len (F := F) (ts := ts) (v := v) (fun t ht => (hts.2 t ht).1); rw [hpz] at this; rw [eit]; show _ ≤ p + 16 * (rest.length + 1); have := hts.1; dsimp only at *; omega) hg ((upd_ne ga).trans g3) hv
        exact fin
      | false =>
        have h4 : (upd H3 a (.lst ([V.str "takewhile", .ref b, .ref c, .bl false].set 3 (.bl (!false))))) a = some (.lst [.str "takewhile", .ref b, .ref c, .bl true]) := upd_same
        refine ⟨_, rfl, a, _, 3, _, rfl, rfl, SqL.of h4, atI_nat (j := 3) rfl, true, rfl, ?_⟩
        refine ifT rfl ⟨by show 0 ≤ sizeLine; decide, fun u nu => ?_⟩
        have e1 : takeStep F ts () v = (lz, none, (), true) := by unfold takeStep; rw [hpz]; rfl
        have e2 : trS (takeStep F ts) () st = ⟨[], cs ++ lz⟩ := by
          have e3 : tr (takeStep F ts) () [] ((cs, v) :: rest) st.fin = ⟨[], cs ++ lz⟩ := by rw [tr_none e1, if_pos rfl]; rfl
          rw [← e3, ← hst]; rfl
        have k4 : Kp (fun b => b = m ∨ b ∈ a :: own) H (upd H3 a (.lst ([V.str "takewhile", .ref b, .ref c, .bl false].set 3 (.bl (!false))))) := k3'.trans (kp_set (M := fun b => b = m ∨ b ∈ a :: own) (.inr List.mem_cons_self) h3 ns_lst)
        have s5 := same_new (o := HO.lst []) nu
        have fin := q0 (by rw [e2]) _ u (k4.trans (Same.kp s5)) (by
          rw [e2]
          obtain ⟨zs, hm3, hz3⟩ := hL3
          show LogV K _ m (es ++ (cs ++ lz))
          rw [← List.append_assoc]
          exact ⟨zs, s5 _ _ ((upd_ne am.symm).trans hm3), hz3.sml fun x o e n => s5 _ _ ((upd_ne fun z => n _ (by rw [z, h3] at e; exact (Option.some.inj e).symm)).trans e)⟩) upd_same
        exact fin
    · intro hst H1 g kk hL1 hg1
      refine ⟨_, rfl, rfl, _, rfl, ?_⟩
      refine ifT (by show decide (V.str (Str.ofString "takewhile") = V.str (Str.ofString "takewhile")) = true; decide +kernel) ?_
      have na : ¬ (a = m ∨ a ∈ own) := fun z => z.elim am a1
      refine ⟨_, rfl, by show 0 ≤ sizeLine; decide, fun t nt => ?_⟩
      have s2 := same_new (o := HO.lst []) nt
      have k2 := kk.trans (Same.kp s2)
      have h2 := k2 _ _ h (.inl na)
      refine ⟨.list [], .list [], dp_nilL (s2 _ _ hg1), dp_nilL upd_same, rfl, rfl, _, rfl, ifF rfl ?_⟩
      refine ⟨_, rfl, a, _, 3, 3, rfl, rfl, h2, rfl, ?_⟩
      have h4 : (upd (upd H1 t (.lst [])) a (.lst ([V.str "takewhile", .ref b, .ref c, .bl false].set 3 (.bl false)))) a = some (.lst [.str "takewhile", .ref b, .ref c, .bl false]) := upd_same
      refine ⟨_, rfl, a, _, 3, _, rfl, rfl, SqL.of h4, atI_nat (j := 3) rfl, false, rfl, ?_⟩
      refine ifF rfl ⟨_, rfl, ?_⟩
      have ga : g ≠ a := fun e => by rw [e, kk _ _ h (.inl na)] at hg1; cases hg1
      have k4 : Kp (fun b => b = m ∨ b ∈ a :: own) H (upd (upd H1 t (.lst [])) a (.lst ([V.str "takewhile", .ref b, .ref c, .bl false].set 3 (.bl false)))) := (k2.mono fun b e => e.imp id (List.mem_cons_of_mem _)).trans (kp_set (M := fun b => b = m ∨ b ∈ a :: own) (.inr List.mem_cons_self) h2 ns_lst)
      have e2 : trS (takeStep F ts) () st = ⟨[], st.fin⟩ := by
        obtain ⟨it, fn⟩ := st
        obtain rfl : it = [] := hst
        show tr _ _ _ _ _ = _
        rw [tr_nil]; rfl
      have fin := q0 (by rw [e2]) _ g k4 (by
        rw [e2]
        obtain ⟨zs, hm3, hz3⟩ := hL1
        exact ⟨zs, (upd_ne am.symm).trans (s2 _ _ hm3), hz3.sml fun x o e n => (upd_ne fun z => n _ (by rw [z] at e; have := s2 _ _ e; rw [h2] at this; exact (Option.some.inj this).symm)).trans (s2 _ _ e)⟩) ((upd_ne ga).trans (s2 _ _ hg1))
      exact fin
  | @dropw e _ b c own rd p st ts op h ht hts s' a1 a2 c1 c2 =>
    obtain ⟨_, z⟩ | ⟨e', rfl, z⟩ := hsp
    · cases z
    obtain rfl : e = e' := Nat.succ.inj z
    have am : a ≠ m := fun e => m1 (by rw [e]; exact List.mem_cons_self)
    refine ⟨_, rfl, a, _, 0, _, rfl, rfl, SqL.of h, atI_nat (j := 0) rfl, ?_⟩
    refine ⟨_, rfl, rfl, _, rfl, ?_⟩
    refine ifF (by show decide (V.str (Str.ofString "dropwhile") = V.str (Str.ofString "list")) = false; decide +kernel) ?_
    refine ⟨_, rfl, rfl, _, rfl, ?_⟩
    refine ifF (by show decide (V.str (Str.ofString "dropwhile") = V.str (Str.ofString "islice")) = false; decide +kernel) ?_
    refine ⟨_, rfl, rfl, _, rfl, ?_⟩
    refine ifF (by show decide (V.str (Str.ofString "dropwhile") = V.str (Str.ofString "takewhile")) = false; decide +kernel) ?_
    refine ⟨_, rfl, _, rfl, a, _, 1, _, rfl, rfl, SqL.of h, atI_nat (j := 1) rfl, ?_⟩
    have na : ¬ (a = m ∨ a ∈ own) := fun z => z.elim am a1
    have nc : ¬ (c = m ∨ c ∈ a :: own) := fun z => z.elim (fun e => m2 (by rw [e]; exact List.mem_cons_self)) fun z => (List.mem_cons.mp z).elim c1 c2
    have npl : ¬ (pl = m ∨ pl ∈ a :: own) := fun z => z.elim (by obtain ⟨_, _, h, _⟩ := hP; exact h) m3
    have i1 : m ∉ own := fun z => m1 (List.mem_cons_of_mem _ z)
    have i2 : m ∉ rd := fun z => m2 (List.mem_cons_of_mem _ z)
    have i3 : pl ∉ own := fun z => m3 (List.mem_cons_of_mem _ z)
    obtain ⟨ysm, hm, hym⟩ := id hL
    have hown := hS0.own_lst.1
    try delta tNil
    with_reducible refine spPull_of (F := F) hP hL s' i1 i2 i3 ?_ ?_ (fun H1 g kk hg hres => ?_)
    · omega
    · rfl
    refine ⟨_, rfl, rfl, _, rfl, ?_⟩
    refine ifF (by show decide (V.str (Str.ofString "dropwhile") = V.str (Str.ofString "takewhile")) = false; decide +kernel) ?_
    refine ⟨_, rfl, rfl, _, rfl, ?_⟩
    refine ifT (by show decide (V.str (Str.ofString "dropwhile") = V.str (Str.ofString "dropwhile")) = true; decide +kernel) ?_
    refine ⟨fun n σ H' => ∃ (st' : Strm V Ev) (acc : List Ev) (opb : Bool) (p' : Nat) (g : Addr), σ = [some (.ref pl), some (.ref a), some (.str "dropwhile"), some (.ref g)] ∧ Kp (fun b => b = m ∨ b ∈ a :: own) H H' ∧ H' a = some (.lst [.str "dropwhile", .ref b, .ref c, .bl opb]) ∧ (st'.items ≠ [] → H g = none) ∧
      PullRes K F ns m e b own rd p' st' (es ++ acc) H' g ∧ tr (dropStep F ts) opb acc st'.items st'.fin = trS (dropStep F ts) op st ∧ acc.length + p' + 16 * (st'.items.length - (if opb = true then 1 else 0)) ≤ p + 16 * st.items.length ∧ n = 2 * st'.items.length + (if opb = true then 0 else 1),
      ⟨_, st, [], op, p, g, rfl, kk.mono fun b e => e.imp id (List.mem_cons_of_mem _), kk _ _ h (.inl na), hg, by rw [List.append_nil]; exact hres, rfl, by cases op <;> simp <;> omega, rfl⟩, ?_⟩
    rintro n σ H2 ⟨st', acc, opb, p', g, rfl, k2, h2, hg2, hres, htr, hbd, rfl⟩
    refine ⟨_, rfl, by show 0 ≤ sizeLine; decide, fun t nt => ?_⟩
    have s3 := same_new (o := HO.lst []) nt
    have k3 := k2.trans (Same.kp s3)
    have h3 := s3 _ _ h2
    rcases hres with ⟨hi, hl, hg1⟩ | ⟨cs, v, rest, p'', hi, hl, hS1, hp', hg1, hv⟩
    · refine ⟨.list [], .list [], dp_nilL (s3 _ _ hg1), dp_nilL upd_same, rfl, rfl, _, rfl, ifF rfl ?_⟩
      refine ifF rfl ⟨_, rfl, ?_⟩
      have e2 : trS (dropStep F ts) op st = ⟨[], acc ++ st'.fin⟩ := by rw [← htr, hi, tr_nil]
      have fin := q0 (by rw [e2]) _ g k3 (by
        rw [e2]
        show LogV K _ m (es ++ (acc ++ st'.fin))
        rw [← List.append_assoc]
        exact hl.keep (SmL.of s3) (fun o e => s3 _ _ e)) (s3 _ _ hg1)
      exact fin
    · have hg2 := hg2 (by rw [hi]; exact List.cons_ne_nil _ _)
      have ga : g ≠ a := fun e => by rw [e, h] at hg2; cases hg2
      obtain ⟨d, hd1, hd2, hd3⟩ := dp_one (K := K) (s3 _ _ hg1) hv
      refine ⟨d, .list [], hd1, dp_nilL upd_same, hd2, rfl, _, rfl, ifT (by rw [hd3]; rfl) ?_⟩
      refine ⟨_, rfl, a, _, 3, _, rfl, rfl, SqL.of h3, atI_nat (j := 3) rfl, opb, rfl, ?_⟩
      cases opb with
      | true =>
        refine ifF rfl ⟨_, rfl, ?_⟩
        have e1 : dropStep F ts true v = ([], some v, true, false) := rfl
        have e2 : trS (dropStep F ts) op st = Strm.cons (acc ++ cs ++ [], v) (trS (dropStep F ts) true ⟨rest, st'.fin⟩) := by rw [← htr, hi, tr_some e1, if_neg Bool.false_ne_true]; rfl
        have e4 : (⟨(trS (dropStep F ts) true ⟨rest, st'.fin⟩).items, (trS (dropStep F ts) op st).fin⟩ : Strm V Ev) = trS (dropStep F ts) true ⟨rest, st'.fin⟩ := by rw [e2]; rfl
        have hS4 : SrcAt K F ns (upd H2 t (.lst [])) (e + 1) a (a :: own) (c :: rd) (p'' + 16 * rest.length) ⟨(trS (dropStep F ts) true ⟨rest, st'.fin⟩).items, (trS (dropStep F ts) op st).fin⟩ := by
          rw [e4]
          exact .dropw (p := p'') (st := ⟨rest, st'.fin⟩) h3 (ht.keep (kp_own_sml hm hown k3) fun o ho => k3 _ _ ho (.inl nc)) hts (hS1.keep (SmL.of s3) fun b _ o ho => s3 _ _ ho) a1 a2 c1 c2
        have fin := q1 (acc ++ cs ++ []) v _ (by rw [e2]; rfl) _ g (p'' + 16 * rest.length) k3 (by
          rw [List.append_nil, ← List.append_assoc]
          exact hl.keep (SmL.of s3) (fun o e => s3 _ _ e)) hS4 (by
          rw [hi] at hbd
          simp only [List.length_append, List.length_nil, List.length_cons, if_true] at hbd ⊢
          omega) hg2 (s3 _ _ hg1) hv
        exact fin
      | false =>
        refine ifT rfl ⟨_, fun _ _ z => z, ?_⟩
        have hP3 := hP.keep (kp_own_sml hm hown k3) fun o ho => k3 _ _ ho (.inl npl)
        have hT3 := ht.keep (kp_own_sml hm hown k3) fun o ho => k3 _ _ ho (.inl nc)
        have hL3 := hl.keep (SmL.of s3) (fun o e => s3 _ _ e)
        refine ⟨_, rfl, _, rfl, a, _, 2, _, rfl, rfl, SqL.of h3, atI_nat (j := 2) rfl, _, rfl, g, _, 0, _, rfl, rfl, SqL.of (s3 _ _ hg1), atI_nat (j := 0) rfl, ?_⟩
        refine ⟨pl, m, c, F, ns, ts, v, _, rfl, hP3, hL3, hT3, fun e => nc (.inl e), hts.2, hv, by simp only [List.length_append]; have := hts.1; omega, fun H4 k4 hL4 => ?_⟩
        have h4 := k4 _ _ h3 (.inl am)
        refine ⟨_, rfl, _, rfl, a, _, 3, 3, rfl, rfl, h4, rfl, ?_⟩
        have hpl := passF_len (F := F) (ts := ts) (v := v) (fun t ht => (hts.2 t ht).1)
        generalize hpz : passF F ts v = pz at *
        obtain ⟨bz, lz⟩ := pz
        have gm : g ≠ m := fun e => by rw [e, hm] at hg2; cases hg2
        have g4 := k4 _ _ (s3 _ _ hg1) (.inl gm)
        have h5 : (upd H4 a (.lst ([V.str "dropwhile", .ref b, .ref c, .bl false].set 3 (.bl (!bz))))) a = some (.lst [.str "dropwhile", .ref b, .ref c, .bl (!bz)]) := upd_same
        have k5 : Kp (fun b => b = m ∨ b ∈ a :: own) H (upd H4 a (.lst ([V.str "dropwhile", .ref b, .ref c, .bl false].set 3 (.bl (!bz))))) := (k3.trans (k4.mono fun b e => .inl e)).trans (kp_set (M := fun b => b = m ∨ b ∈ a :: own) (.inr List.mem_cons_self) h4 ns_lst)
        have k25 : Kp (fun b => b = m ∨ b = a) H2 (upd H4 a (.lst ([V.str "dropwhile", .ref b, .ref c, .bl false].set 3 (.bl (!bz))))) := ((Same.kp s3).trans (k4.mono fun b e => .inl e)).trans (kp_set (M := fun b => b = m ∨ b = a) (.inr rfl) h4 ns_lst)
        obtain ⟨ys2, hm2, _⟩ := id hl
        have sm25 := kp_own_sml (own := [a]) hm2 (fun x hx => ⟨[.str "dropwhile", .ref b, .ref c, .bl false], by rw [List.mem_singleton.mp hx]; exact h2⟩) (k25.mono fun b e => e.imp id fun z => List.mem_singleton.mpr z)
        have kk5 : ∀ b', b' ∈ own ∨ b' ∈ rd → ∀ o, H2 b' = some o → (upd H4 a (.lst ([V.str "dropwhile", .ref b, .ref c, .bl false].set 3 (.bl (!bz))))) b' = some o := fun b' hb o ho => k25 _ _ ho (.inl fun z => by
          rcases z with rfl | rfl
          · exact hb.elim i1 i2
          · exact hb.elim a1 a2)
        have hS5 := hS1.keep sm25 kk5
        have hP5 := hP.keep (kp_own_sml hm hown k5) fun o ho => k5 _ _ ho (.inl npl)
        have hL5 := hL4.keep (SmL.put (ys := [V.str "dropwhile", .ref b, .ref c, .bl false].set 3 (.bl (!bz))) h4) (fun o e => (upd_ne am.symm).trans e)
        rw [hi] at hbd htr
        simp only [List.length_cons, Bool.false_eq_true, if_false] at hbd
        cases bz with
        | true =>
          refine ⟨_, rfl, a, _, 3, _, rfl, rfl, SqL.of h5, atI_nat (j := 3) rfl, false, rfl, ?_⟩
          refine ifF rfl ?_
          refine ⟨_, rfl, _, rfl, a, _, 1, _, rfl, rfl, SqL.of h5, atI_nat (j := 1) rfl, ?_⟩
          have e1 : dropStep F ts false v = (lz, none, false, false) := by unfold dropStep; rw [hpz]; rfl
          rw [tr_none e1, if_neg Bool.false_ne_true] at htr
          try delta tNil
          with_reducible refine spPull_of (F := F) (es := es ++ (acc ++ cs ++ lz)) hP5 ?_ hS5 i1 i2 i3 ?_ ?_ (fun H6 g6 k6 hg6 hres6 => ?_)
          · rw [← List.append_assoc, ← List.append_assoc] ; exact hL5
          · (simp only [List.length_append] at *; (try dsimp only at hpl); have := hts.1; omega)
          · rfl
          refine ⟨_, ?_, ⟨rest, st'.fin⟩, acc ++ cs ++ lz, false, p'', g6, rfl, k5.trans (k6.mono fun b e => e.imp id (List.mem_cons_of_mem _)), k6 _ _ h5 (.inl na), ?_, hres6, htr, ?_, rfl⟩
          · rw [hi]; simp
          · exact fun z => fresh_back k5 (fun b hb => by
              rcases hb with rfl | hb
              · obtain ⟨zs, hz, _⟩ := hL5; exact ⟨_, hz⟩
              · rcases List.mem_cons.mp hb with rfl | hb
                · exact ⟨_, h5⟩
                · obtain ⟨zs, hz⟩ := hS5.own_lst.1 b hb; exact ⟨_, hz⟩) (hg6 z)
          · simp only [List.length_append, Bool.false_eq_true, if_false]; (try dsimp only at hpl ⊢); have := hts.1; omega
        | false =>
          refine ⟨_, rfl, a, _, 3, _, rfl, rfl, SqL.of h5, atI_nat (j := 3) rfl, true, rfl, ?_⟩
          refine ifT rfl ⟨_, rfl, ?_⟩
          have e1 : dropStep F ts false v = (lz, some v, true, false) := by unfold dropStep; rw [hpz]; rfl
          have e0 : dropStep F ts true v = ([], some v, true, false) := rfl
          rw [tr_some e1, if_neg Bool.false_ne_true] at htr
          refine ⟨_, ?_, ⟨(lz, v) :: rest, st'.fin⟩, acc ++ cs, true, lz.length + p'', g, rfl, k5, h5, fun _ => hg2, .inr ⟨lz, v, rest, p'', rfl, by rw [← List.append_assoc]; exact hL5, hS5, Nat.le_refl _, (upd_ne ga).trans g4, hv⟩, ?_, ?_, rfl⟩
          · rw [hi]; simp
          · show tr (dropStep F ts) true (acc ++ cs) ((lz, v) :: rest) st'.fin = _
            rw [tr_some e0, if_neg Bool.false_ne_true, List.append_nil]
            exact htr
          · simp only [List.length_append, List.length_cons, if_true]; (try dsimp only at hpl ⊢); have := hts.1; omega
  | @rows e _ b c nn own rd p st ts wd h ht hn hts hw s' a1 a2 c1 c2 =>
    obtain ⟨_, z⟩ | ⟨e', rfl, z⟩ := hsp
    · cases z
    obtain rfl : e = e' := Nat.succ.inj z
    have am : a ≠ m := fun e => m1 (by rw [e]; exact List.mem_cons_self)
    refine ⟨_, rfl, a, _, 0, _, rfl, rfl, SqL.of h, atI_nat (j := 0) rfl, ?_⟩
    refine ⟨_, rfl, rfl, _, rfl, ?_⟩
    refine ifF (by show decide (V.str (Str.ofString "rows") = V.str (Str.ofString "list")) = false; decide +kernel) ?_
    refine ⟨_, rfl, rfl, _, rfl, ?_⟩
    refine ifF (by show decide (V.str (Str.ofString "rows") = V.str (Str.ofString "islice")) = false; decide +kernel) ?_
    refine ⟨_, rfl, rfl, _, rfl, ?_⟩
    refine ifF (by show decide (V.str (Str.ofString "rows") = V.str (Str.ofString "takewhile")) = false; decide +kernel) ?_
    refine ⟨_, rfl, _, rfl, a, _, 1, _, rfl, rfl, SqL.of h, atI_nat (j := 1) rfl, ?_⟩
    have na : ¬ (a = m ∨ a ∈ own) := fun z => z.elim am a1
    have nc : ¬ (c = m ∨ c ∈ a :: own) := fun z => z.elim (fun e => m2 (by rw [e]; exact List.mem_cons_self)) fun z => (List.mem_cons.mp z).elim c1 c2
    have npl : ¬ (pl = m ∨ pl ∈ a :: own) := fun z => z.elim (by obtain ⟨_, _, h, _⟩ := hP; exact h) m3
    have i1 : m ∉ own := fun z => m1 (List.mem_cons_of_mem _ z)
    have i2 : m ∉ rd := fun z => m2 (List.mem_cons_of_mem _ z)
    have i3 : pl ∉ own := fun z => m3 (List.mem_cons_of_mem _ z)
    obtain ⟨ysm, hm, hym⟩ := id hL
    have hown := hS0.own_lst.1
    try delta tNil
    with_reducible refine spPull_of (F := F) hP hL s' i1 i2 i3 ?_ ?_ (fun H1 g kk hg hres => ?_)
    · omega
    · rfl
    refine ⟨_, rfl, rfl, _, rfl, ?_⟩
    refine ifF (by show decide (V.str (Str.ofString "rows") = V.str (Str.ofString "takewhile")) = false; decide +kernel) ?_
    refine ⟨_, rfl, rfl, _, rfl, ?_⟩
    refine ifF (by show decide (V.str (Str.ofString "rows") = V.str (Str.ofString "dropwhile")) = false; decide +kernel) ?_
    refine ⟨fun n σ H' => ∃ (st' : Strm V Ev) (acc : List Ev) (p' : Nat) (g : Addr), σ = [some (.ref pl), some (.ref a), some (.str "rows"), some (.ref g)] ∧ Kp (fun b => b = m ∨ b ∈ a :: own) H H' ∧ H' a = some (.lst [.str "rows", .ref b, .ref c, .ref nn]) ∧ (st'.items ≠ [] → H g = none) ∧
      PullRes K F ns m e b own rd p' st' (es ++ acc) H' g ∧ tr (rowsStep F ts wd) () acc st'.items st'.fin = trS (rowsStep F ts wd) () st ∧ acc.length + p' + 16 * st'.items.length ≤ p + 16 * st.items.length ∧ n = st'.items.length,
      ⟨_, st, [], p, g, rfl, kk.mono fun b e => e.imp id (List.mem_cons_of_mem _), kk _ _ h (.inl na), hg, by rw [List.append_nil]; exact hres, rfl, by simp, rfl⟩, ?_⟩
    rintro n σ H2 ⟨st', acc, p', g, rfl, k2, h2, hg2, hres, htr, hbd, rfl⟩
    refine ⟨_, rfl, by show 0 ≤ sizeLine; decide, fun t nt => ?_⟩
    have s3 := same_new (o := HO.lst []) nt
    have k3 := k2.trans (Same.kp s3)
    have h3 := s3 _ _ h2
    rcases hres with ⟨hi, hl, hg1⟩ | ⟨cs, v, rest, p'', hi, hl, hS1, hp', hg1, hv⟩
    · refine ⟨.list [], .list [], dp_nilL (s3 _ _ hg1), dp_nilL upd_same, rfl, rfl, _, rfl, ifF rfl ?_⟩
      refine ifF rfl ?_
      refine ⟨_, rfl, by show 0 ≤ sizeLine; decide, fun t2 nt2 => ?_⟩
      have s4 := same_new (o := HO.lst []) nt2
      refine ⟨.list [], .list [], dp_nilL (s4 _ _ (s3 _ _ hg1)), dp_nilL upd_same, rfl, rfl, _, rfl, ifF rfl ?_⟩
      refine ⟨by show 0 ≤ sizeLine; decide, fun u nu => ?_⟩
      have s5 := same_new (o := HO.lst []) nu
      have k5 := (k3.trans (Same.kp s4)).trans (Same.kp s5)
      have e2 : trS (rowsStep F ts wd) () st = ⟨[], acc ++ st'.fin⟩ := by rw [← htr, hi, tr_nil]
      have fin := q0 (by rw [e2]) _ u k5 (by
        rw [e2]
        show LogV K _ m (es ++ (acc ++ st'.fin))
        rw [← List.append_assoc]
        exact hl.keep (((SmL.of s3).trans (SmL.of s4)).trans (SmL.of s5)) (fun o e => s5 _ _ (s4 _ _ (s3 _ _ e)))) upd_same
      exact fin
    · have hg2 := hg2 (by rw [hi]; exact List.cons_ne_nil _ _)
      have ga : g ≠ a := fun e => by rw [e, h] at hg2; cases hg2
      obtain ⟨d, hd1, hd2, hd3⟩ := dp_one (K := K) (s3 _ _ hg1) hv
      refine ⟨d, .list [], hd1, dp_nilL upd_same, hd2, rfl, _, rfl, ifT (by rw [hd3]; rfl) ?_⟩
      have hP3 := hP.keep (kp_own_sml hm hown k3) fun o ho => k3 _ _ ho (.inl npl)
      have hT3 := ht.keep (kp_own_sml hm hown k3) fun o ho => k3 _ _ ho (.inl nc)
      have hL3 := hl.keep (SmL.of s3) (fun o e => s3 _ _ e)
      refine ⟨_, rfl, _, rfl, a, _, 2, _, rfl, rfl, SqL.of h3, atI_nat (j := 2) rfl, _, rfl, g, _, 0, _, rfl, rfl, SqL.of (s3 _ _ hg1), atI_nat (j := 0) rfl, ?_⟩
      refine ⟨pl, m, c, F, ns, ts, v, _, rfl, hP3, hL3, hT3, fun e => nc (.inl e), hts.2, hv, by simp only [List.length_append]; have := hts.1; omega, fun H4 k4 hL4 => ?_⟩
      have h4 := k4 _ _ h3 (.inl am)
      have hpl := passF_len (F := F) (ts := ts) (v := v) (fun t ht => (hts.2 t ht).1)
      generalize hpz : passF F ts v = pz at *
      obtain ⟨bz, lz⟩ := pz
      have gm : g ≠ m := fun e => by rw [e, hm] at hg2; cases hg2
      have g4 := k4 _ _ (s3 _ _ hg1) (.inl gm)
      have k04 : Kp (fun b => b = m ∨ b ∈ a :: own) H H4 := k3.trans (k4.mono fun b e => .inl e)
      have k24 : Kp (· = m) H2 H4 := (Same.kp s3).trans k4
      obtain ⟨ys2, hm2, _⟩ := id hl
      have sm24 := kp_sml hm2 k24
      have hS4 := hS1.keep sm24 fun b' hb o ho => k24 _ _ ho (.inl fun z => by rw [z] at hb; exact hb.elim i1 i2)
      have hP4 := hP.keep (kp_own_sml hm hown k04) fun o ho => k04 _ _ ho (.inl npl)
      rw [hi] at hbd htr
      simp only [List.length_cons] at hbd
      have al4 : ∀ b, b = m ∨ b ∈ a :: own → ∃ o, H4 b = some o := fun b hb => by
              rcases hb with rfl | hb
              · obtain ⟨zs, hz, _⟩ := hL4; exact ⟨_, hz⟩
              · rcases List.mem_cons.mp hb with rfl | hb
                · exact ⟨_, h4⟩
                · obtain ⟨zs, hz⟩ := hS4.own_lst.1 b hb; exact ⟨_, hz⟩
      cases bz with
      | true =>
        refine ⟨true, rfl, ifF rfl ?_⟩
        refine ⟨_, rfl, by show 0 ≤ sizeLine; decide, fun t2 nt2 => ?_⟩
        have s5 := same_new (o := HO.lst []) nt2
        obtain ⟨d, hd1, hd2, hd3⟩ := dp_one (K := K) (s5 _ _ g4) hv
        refine ⟨d, .list [], hd1, dp_nilL upd_same, hd2, rfl, _, rfl, ifT (by rw [hd3]; rfl) ?_⟩
        refine ⟨_, rfl, _, rfl, a, _, 3, _, rfl, rfl, SqL.of (s5 _ _ h4), atI_nat (j := 3) rfl, _, rfl, g, _, 0, _, rfl, rfl, SqL.of (s5 _ _ g4), atI_nat (j := 0) rfl, ?_⟩
        have sm05 := (kp_own_sml hm hown k04).trans (SmL.of s5)
        have hFok : ∀ k ∈ ns, ActOk (F k) := by obtain ⟨d, _, _, h3⟩ := hP; exact fns_ok h3
        have hbo := behF_ok (F := F) (ns := wd) (fun n hn => hFok n (hw.2 n hn)) hv
        have hbl := behF_len F wd v
        refine ⟨pl, m, nn, F, ns, wd, v, _, rfl, hP4.keep (SmL.of s5) (fun o e => s5 _ _ e), hL4.keep (SmL.of s5) (fun o e => s5 _ _ e), sm05.seqT hn, hw.2, hv, by simp only [List.length_append]; (try dsimp only at hpl ⊢); have := hts.1; have := hw.1; omega, fun H6 k6 hL6 => ?_⟩
        refine ⟨by show 1 ≤ sizeLine; decide, fun u nu => ?_⟩
        have s7 := same_new (o := HO.lst [(behF F wd v).1]) nu
        have e1 : rowsStep F ts wd () v = (lz ++ (behF F wd v).2, some (behF F wd v).1, (), false) := by unfold rowsStep; rw [hpz]; rfl
        rw [tr_some e1, if_neg Bool.false_ne_true] at htr
        have k46 : Kp (· = m) H4 H6 := (Same.kp s5).trans k6
        have k06 := k04.trans (k46.mono fun b e => .inl e)
        have k07 := k06.trans (Same.kp s7)
        have h7 := s7 _ _ (k6 _ _ (s5 _ _ h4) (.inl am))
        have e4 : (⟨(trS (rowsStep F ts wd) () ⟨rest, st'.fin⟩).items, (trS (rowsStep F ts wd) () st).fin⟩ : Strm V Ev) = trS (rowsStep F ts wd) () ⟨rest, st'.fin⟩ := by rw [← htr]; rfl
        obtain ⟨ys4, hm4, _⟩ := id hL4
        have sm47 := (kp_sml hm4 k46).trans (SmL.of s7)
        have hS7 : SrcAt K F ns (upd H6 u (.lst [(behF F wd v).1])) (e + 1) a (a :: own) (c :: rd) (p'' + 16 * rest.length) ⟨(trS (rowsStep F ts wd) () ⟨rest, st'.fin⟩).items, (trS (rowsStep F ts wd) () st).fin⟩ := by
          rw [e4]
          exact .rows (p := p'') (st := ⟨rest, st'.fin⟩) h7 (ht.keep (kp_own_sml hm hown k07) fun o ho => k07 _ _ ho (.inl nc)) ((kp_own_sml hm hown k07).seqT hn) hts hw (hS4.keep sm47 fun b' hb o ho => s7 _ _ (k46 _ _ ho (.inl fun z => by rw [z] at hb; exact hb.elim i1 i2))) a1 a2 c1 c2
        have fin := q1 (acc ++ cs ++ (lz ++ (behF F wd v).2)) (behF F wd v).1 _ (by rw [← htr]; rfl) _ u (p'' + 16 * rest.length) k07 (by
          have := hL6.keep (SmL.of s7) (fun o e => s7 _ _ e)
          simp only [List.append_assoc] at this ⊢
          exact this) hS7 (by
          simp only [List.length_append]
          dsimp only at hpl
          have := hts.1
          have := hw.1
          omega) (fresh_back k06 (fun b hb => by
            obtain ⟨o, ho⟩ := al4 b hb
            rcases Classical.em (b = m) with rfl | z
            · obtain ⟨zs, hz, _⟩ := hL6; exact ⟨_, hz⟩
            · exact ⟨_, k46 _ _ ho (.inl z)⟩) nu) upd_same hbo
        exact fin
      | false =>
        refine ⟨false, rfl, ifT rfl ⟨_, fun _ _ z => z, ?_⟩⟩
        refine ⟨_, rfl, _, rfl, a, _, 1, _, rfl, rfl, SqL.of h4, atI_nat (j := 1) rfl, ?_⟩
        have e1 : rowsStep F ts wd () v = (lz, none, (), false) := by unfold rowsStep; rw [hpz]; rfl
        rw [tr_none e1, if_neg Bool.false_ne_true] at htr
        try delta tNil
        with_reducible refine spPull_of (F := F) (es := es ++ (acc ++ cs ++ lz)) hP4 ?_ hS4 i1 i2 i3 ?_ ?_ (fun H6 g6 k6 hg6 hres6 => ?_)
        · rw [← List.append_assoc, ← List.append_assoc] ; exact hL4
        · (simp only [List.length_append] at *; (try dsimp only at hpl); have := hts.1; omega)
        · rfl
        refine ⟨_, ?_, ⟨rest, st'.fin⟩, acc ++ cs ++ lz, p'', g6, rfl, k04.trans (k6.mono fun b e => e.imp id (List.mem_cons_of_mem _)), k6 _ _ h4 (.inl na), fun z => fresh_back k04 al4 (hg6 z), hres6, htr, ?_, rfl⟩
        · rw [hi]; simp
        · simp only [List.length_append]; (try dsimp only at hpl ⊢); have := hts.1; omega
end
end K

set_option Elab.async false
set_option linter.all false
set_option maxRecDepth 100000
set_option maxHeartbeats 4000000
/-! KL11: the law's pull at every depth; a whole source. -/
namespace K
open PySem PySem.Spec PyProof.Rows L2 He TL LamX
section
variable {V E S : Type}
def Strm.len (s : Strm V E) : Nat := s.run.2.length
theorem tr_len (st : Step S V E) (b : Nat) (hb : ∀ q v, (st q v).1.length ≤ b) : ∀ (items : List (List E × V)) (q : S) (acc fin : List E),
    (tr st q acc items fin).run.2.length ≤ acc.length + (⟨items, fin⟩ : Strm V E).run.2.length + b * items.length ∧ (tr st q acc items fin).items.length ≤ items.length
  | [], q, acc, fin => by
    rw [tr_nil]
    simp [Strm.run]
  | (l, v) :: rest, q, acc, fin => by
    obtain ⟨lg, r, q', ov, e⟩ : ∃ lg r q' ov, st q v = (lg, r, q', ov) := ⟨_, _, _, _, rfl⟩
    have hl := hb q v
    rw [e] at hl
    have hl : lg.length ≤ b := hl
    have er : (⟨(l, v) :: rest, fin⟩ : Strm V E).run.2.length = l.length + (⟨rest, fin⟩ : Strm V E).run.2.length := by
      simp [Strm.run]
    rw [er]
    cases r with
    | none =>
      rw [tr_none e]
      have ih := tr_len st b hb rest q' (acc ++ l ++ lg) fin
      split
      · simp only [Strm.run, List.map_nil, List.flatten_nil, List.nil_append, List.length_append, List.length_cons, List.length_nil, Nat.mul_add]
        omega
      · simp only [List.length_append, List.length_cons, Nat.mul_add] at ih ⊢
        omega
    | some v1 =>
      rw [tr_some e, run_cons]
      have ih := tr_len st b hb rest q' [] fin
      cases ov with
      | true =>
        rw [if_pos rfl, run_nil]
        simp only [List.length_append, List.length_cons, List.length_nil, Nat.mul_add, Strm.cons, Strm.nil] at ih ⊢
        omega
      | false =>
        rw [if_neg Bool.false_ne_true]
        simp only [List.length_append, List.length_cons, List.length_nil, Nat.mul_add, Strm.cons] at ih ⊢
        omega
theorem trS_len (st : Step S V E) (b : Nat) (hb : ∀ q v, (st q v).1.length ≤ b) (q : S) (s : Strm V E) : (trS st q s).run.2.length ≤ s.run.2.length + b * s.items.length := by
  have := (tr_len st b hb s.items q [] s.fin).1
  rw [List.length_nil, Nat.zero_add] at this
  exact this
theorem trS_items (st : Step S V E) (b : Nat) (hb : ∀ q v, (st q v).1.length ≤ b) (q : S) (s : Strm V E) : (trS st q s).items.length ≤ s.items.length := (tr_len st b hb s.items q [] s.fin).2
theorem lst_run (xs : List V) : (Strm.lst (E := E) xs).run = (xs, []) := by
  unfold Strm.run Strm.lst
  simp only [List.map_map, List.append_nil]
  congr 1
  · exact List.map_id _
  · induction xs with
    | nil => rfl
    | cons x r ih => simpa using ih
end
section
variable {K : PySem.W.Frag} {F : Nm → Act} {ns : List Nm}
theorem pass_le {ts : List Tst} (h : TsOk ns ts) (v : V) : (passF F ts v).2.length ≤ 12 := by
  have := passF_len (F := F) (ts := ts) (v := v) fun t ht => (h.2 t ht).1
  have := h.1
  omega
/-- all calls that a source can make, and its items -/
theorem SrcAt.total {H : Hp} {d : Nat} {a : Addr} {own rd : List Addr} {p : Nat} {st : Strm V Ev} (h : SrcAt K F ns H d a own rd p st) : st.run.2.length ≤ p := by
  induction h with
  | lst h hl ne ok => rw [lst_run]; exact Nat.le_refl _
  | @rows d a b c nn own rd p st ts w h ht hn hts hw s' a1 a2 c1 c2 ih =>
    have := trS_len (rowsStep F ts w) 16 (fun q v => by
      have := pass_le (F := F) hts v
      have := behF_len F w v
      have := hw.1
      unfold rowsStep
      split
      · simp only [List.length_append]; omega
      · show (passF F ts v).2.length ≤ 16
        omega) () st
    omega
  | @takew d a b c own rd p st ts h ht hts s' a1 a2 c1 c2 ih =>
    have := trS_len (takeStep F ts) 16 (fun q v => by
      have := pass_le (F := F) hts v
      unfold takeStep
      split <;> (show (passF F ts v).2.length ≤ 16; omega)) () st
    omega
  | @dropw d a b c own rd p st ts op h ht hts s' a1 a2 c1 c2 ih =>
    have := trS_len (dropStep F ts) 16 (fun q v => by
      have := pass_le (F := F) hts v
      unfold dropStep
      split
      · exact Nat.zero_le _
      · split <;> (show (passF F ts v).2.length ≤ 16; omega)) op st
    omega
  | @first d a b own rd p i n st h s' a1 a2 ih =>
    unfold firstS
    split
    · exact Nat.zero_le _
    · have := trS_len (firstStep n) 0 (fun q v => Nat.le_refl _) i st
      omega
  | @slice d a b own rd p i nx k st h hk s' a1 a2 ih =>
    have := trS_len (sliceStep k) 0 (fun q v => by unfold sliceStep; split <;> exact Nat.le_refl _) (i, nx) st
    omega
end
section
variable {P : Program} {w : World} {K : PySem.W.Frag} {mg : Str → Option Value} {base : Heap}
theorem ok_pull_all (T : Tx K mg w) : ∀ d : Nat, Ok1 P w K mg base (7 + 2 * d) "_law_pull" ["_law_play_here", "_law_source"] (spPull K d)
  | 0 => ok_pull (k := 1) T (ok_pull_no T 4) (.inl ⟨rfl, rfl⟩)
  | d + 1 => by
    have G := ok_pull_all T d
    rw [show 7 + 2 * d = 3 + 2 * d + 4 by omega] at G
    have := ok_pull (k := 3 + 2 * d) T G (.inr ⟨d, rfl, rfl⟩)
    rw [show 3 + 2 * d + 6 = 7 + 2 * (d + 1) by omega] at this
    exact this
def spAll (K : PySem.W.Frag) (d : Nat) : Sp := fun vs H Q _ => ∃ (pl m a : Addr) (F : Nm → Act) (ns : List Nm) (own rd : List Addr) (p : Nat) (st : Strm V Ev) (es : List Ev), vs = [.ref pl, .ref a] ∧ PlayV H pl m F ns ∧ LogV K H m es ∧ SrcAt K F ns H d a own rd p st ∧ m ∉ own ∧ m ∉ rd ∧ pl ∉ own ∧ es.length + p ≤ 9000 ∧ st.items.length ≤ 100 ∧
  ∀ H' g, Kp (fun b => b = m ∨ b ∈ own) H H' → LogV K H' m (es ++ st.run.2) → H g = none → H' g = some (.lst st.run.1) → (∀ v ∈ st.run.1, VOk v) → Q (.ref g) H'
theorem ok_law_all {d : Nat} (T : Tx K mg w) : Ok1 P w K mg base (8 + 2 * d) "_law_all" ["_law_play_here", "_law_source"] (spAll K d) := by
  have nd := sc_law_all.nd
  have G := ok_pull_all (P := P) (base := base) T d
  rw [show 8 + 2 * d = 7 + 2 * d + 1 by omega]
  generalize 7 + 2 * d = c at G
  refine T.d_law_all.mk sc_law_all bn_law_all (fun vs H Q E h => ?_) (fun cdv A outer s H vs Q E hr h => ?_)
  · obtain ⟨pl, m, a, F, ns, own, rd, p, st, es, rfl, _⟩ := h
    rfl
  · obtain ⟨pl, m, a, F, ns, own, rd, p, st, es, rfl, hP, hL, hS, m1, m2, m3, hz, hit, q⟩ := h
    have neL := op_neD (X := (cxOf CX0 P w K mg base ["_law_play_here", "_law_source", "_law_found", "_law_got"] "_law_all" (defScope s_law_all) (ga K "_law_all") cdv A outer s H E).nox) hr.units
    refine ⟨_, pss_cons (ps_par (i := 2) (j := 3) (by rfl) nd rfl rfl (by decide) rfl rfl (pa_cons (pe_lst pa_nil) (pa_cons (pe_g G hr (pa_cons (pv 0) (pa_cons (pv 1) pa_nil))) pa_nil)) (by rfl))
      (pss_cons (ps_while PassesOwn.never (pt_cmpR neL (pv 3) (pe_lst pa_nil) (nomark _))
        (pss_one (ps_par (i := 2) (j := 3) (by rfl) nd rfl rfl (by decide) rfl rfl (pa_cons (pe_op op_cat (pv 2) (pv 3)) (pa_cons (pe_g G hr (pa_cons (pv 0) (pa_cons (pv 1) pa_nil))) pa_nil)) (by rfl))))
      (pss_one (ps_ret (pv 2)))), ?_⟩
    have hown := hS.own_lst.1
    obtain ⟨ysm, hm, hym⟩ := id hL
    have npl : ¬ (pl = m ∨ pl ∈ own) := fun z => z.elim (by obtain ⟨_, _, h, _⟩ := hP; exact h) m3
    refine ⟨by show 0 ≤ sizeLine; decide, fun f nf => ?_⟩
    have s1 := same_new (o := HO.lst []) nf
    have fm : ∀ {H1 : Hp} {es1 : List Ev}, LogV K H1 m es1 → ∀ x, H1 x = none → x ≠ m := fun hl x hx e => by
      obtain ⟨zs, hz, _⟩ := hl
      rw [e, hz] at hx; cases hx
    have fo : ∀ {H1 : Hp} {d p st}, SrcAt K F ns H1 d a own rd p st → ∀ x, H1 x = none → x ∉ own := fun hs x hx e => by
      obtain ⟨zs, hz⟩ := hs.own_lst.1 x e
      rw [hz] at hx; cases hx
    have nfM : ¬ (f = m ∨ f ∈ own) := fun z => z.elim (fm hL f nf) (fo hS f nf)
    refine ⟨_, rfl, _, rfl, ?_⟩
    have hS1 := hS.keep (SmL.of s1) (fun b _ o ho => s1 _ _ ho)
    have hP1 := hP.keep (SmL.of s1) fun o ho => s1 _ _ ho
    have hL1 := hL.keep (SmL.of s1) fun o ho => s1 _ _ ho
    try delta tNil
    with_reducible refine spPull_of (F := F) hP1 hL1 hS1 m1 m2 m3 ?_ ?_ (fun H1 g kk hg hres => ?_)
    · exact hz
    · rfl
    have k1 : Kp (fun b => b = m ∨ b ∈ own) H H1 := (Same.kp s1).trans kk
    refine ⟨_, _, rfl, ?_⟩
    refine ⟨fun n σ H' => ∃ (done : List V) (st' : Strm V Ev) (acc : List Ev) (p' : Nat) (f g : Addr), σ = [some (.ref pl), some (.ref a), some (.ref f), some (.ref g)] ∧ Kp (fun b => b = m ∨ b ∈ own) H H' ∧ H f = none ∧ H' f = some (.lst done) ∧
      PullRes K F ns m d a own rd p' st' (es ++ acc) H' g ∧ st.run = (done ++ st'.run.1, acc ++ st'.run.2) ∧ acc.length + p' ≤ p ∧ (∀ v ∈ done, VOk v) ∧ done.length + st'.items.length = st.items.length ∧ n = st'.items.length,
      ⟨_, [], st, [], p, f, g, rfl, k1, nf, kk _ _ upd_same (.inl nfM), by rw [List.append_nil]; exact hres, rfl, by simp, (fun v hv => by cases hv), by simp, rfl⟩, ?_⟩
    rintro n σ H2 ⟨done, st', acc, p', f, g, rfl, k2, hf, hf2, hres, hrun, hbd, hok, hcnt, rfl⟩
    refine ⟨_, rfl, by show 0 ≤ sizeLine; decide, fun t nt => ?_⟩
    have s3 := same_new (o := HO.lst []) nt
    have k3 := k2.trans (Same.kp s3)
    rcases hres with ⟨hi, hl, hg1⟩ | ⟨cs, v, rest, p'', hi, hl, hS2, hp', hg1, hv⟩
    · refine ⟨.list [], .list [], dp_nilL (s3 _ _ hg1), dp_nilL upd_same, rfl, rfl, _, rfl, ifF rfl ⟨_, rfl, ?_⟩⟩
      have er : st'.run = ([], st'.fin) := by unfold Strm.run; rw [hi]; rfl
      rw [er, List.append_nil] at hrun
      have fin := q _ f k3 (by
        rw [hrun]
        show LogV K _ m (es ++ (acc ++ st'.fin))
        rw [← List.append_assoc]
        exact hl.keep (SmL.of s3) (fun o e => s3 _ _ e)) hf (by rw [hrun]; exact s3 _ _ hf2) (by rw [hrun]; exact hok)
      exact fin
    · obtain ⟨d', hd1, hd2, hd3⟩ := dp_one (K := K) (s3 _ _ hg1) hv
      refine ⟨d', .list [], hd1, dp_nilL upd_same, hd2, rfl, _, rfl, ifT (by rw [hd3]; rfl) ⟨_, fun _ _ z => z, ?_⟩⟩
      rw [hi] at hcnt
      have hsz : (done ++ [v]).length ≤ sizeLine := by
        rw [List.length_append]
        simp only [List.length_cons, List.length_nil] at hcnt ⊢
        exact Nat.le_trans (show done.length + 1 ≤ 200 by omega) (by decide)
      refine ⟨_, rfl, _, rfl, f, g, done, [v], rfl, rfl, s3 _ _ hf2, s3 _ _ hg1, by rw [List.length_append] at hsz; exact hsz, fun f2 nf2 => ?_⟩
      have s4 := same_new (o := HO.lst (done ++ [v])) nf2
      have s34 := s3.trans s4
      have hS3 := hS2.keep (SmL.of s34) (fun b _ o ho => s34 _ _ ho)
      have hS3' := hS2.keep (SmL.of s3) (fun b _ o ho => s3 _ _ ho)
      have hl3' := hl.keep (SmL.of s3) (fun o ho => s3 _ _ ho)
      have nfM2 : ¬ (f2 = m ∨ f2 ∈ own) := fun z => z.elim (fm hl3' f2 nf2) (fo hS3' f2 nf2)
      have hf2H : H f2 = none := fresh_back k3 (fun b hb => by
        rcases hb with rfl | hb
        · obtain ⟨zs, hz, _⟩ := hl3'; exact ⟨_, hz⟩
        · obtain ⟨zs, hz⟩ := hS3'.own_lst.1 b hb; exact ⟨_, hz⟩) nf2
      have k4 := k3.trans (Same.kp s4)
      refine ⟨_, rfl, _, rfl, ?_⟩
      have hP4 := hP.keep (kp_own_sml hm hown k4) fun o ho => k4 _ _ ho (.inl npl)
      have hL4 := hl.keep (SmL.of s34) fun o ho => s34 _ _ ho
      try delta tNil
      with_reducible refine spPull_of (F := F) (es := es ++ acc ++ cs) hP4 hL4 hS3 m1 m2 m3 ?_ ?_ (fun H6 g6 k6 hg6 hres6 => ?_)
      · (simp only [List.length_append]; omega)
      · rfl
      refine ⟨_, _, rfl, _, ?_, done ++ [v], ⟨rest, st'.fin⟩, acc ++ cs, p'', f2, g6, rfl, k4.trans k6, hf2H, k6 _ _ upd_same (.inl nfM2), by rw [← List.append_assoc]; exact hres6, ?_, ?_, ?_, ?_, rfl⟩
      · rw [hi]; simp
      · rw [hrun]
        have er : st'.run = Strm.run (Strm.cons (cs, v) ⟨rest, st'.fin⟩) := by unfold Strm.run; rw [hi]; rfl
        rw [er, run_cons]
        simp only [List.append_assoc, List.singleton_append]
      · simp only [List.length_append]; omega
      · intro x hx
        rcases List.mem_append.mp hx with z | z
        · exact hok x z
        · rw [List.mem_singleton.mp z]; exact hv
      · simp only [List.length_append, List.length_cons, List.length_nil] at hcnt ⊢; omega
end
end K

set_option Elab.async false
set_option linter.all false
set_option maxRecDepth 100000
set_option maxHeartbeats 4000000
/-! KL12: the law's reading of a call. -/
namespace K
open PySem PySem.Spec PyProof.Rows L2 He TL LamX
theorem cut_mk (t : List Nat) (lo hi : Option Int) {a b : Nat} (ha : HT.sIx t.length 0 lo = a) (hb : HT.sIx t.length t.length hi = b) : cutS (mk t) lo hi = mk ((t.drop a).take (b - a)) := by
  refine ext_tl ?_
  show ((tl (mk t)).drop (HT.sIx (mk t).length 0 lo)).take (HT.sIx (mk t).length (mk t).length hi - HT.sIx (mk t).length 0 lo) = _
  rw [len_mk, ha, hb]
  rfl
theorem sIx_neg (n d k : Nat) (h : 1 ≤ k) : HT.sIx n d (some (-(k : Int))) = n - k := by
  show (if (-(k : Int)) < 0 then ((-(k : Int)) + (n : Int)).toNat else min (-(k : Int)).toNat n) = n - k
  rw [if_pos (by omega)]
  omega
theorem cut_pre (t : List Nat) (k : Nat) : cutS (mk t) none (some (k : Int)) = mk (t.take k) := by
  rw [cut_mk t none _ (HT.sIx_none _ _) (HT.sIx_nat _ _ _), List.drop_zero, Nat.sub_zero]
  rcases Nat.le_total k t.length with h | h
  · rw [Nat.min_eq_left h]
  · rw [Nat.min_eq_right h, List.take_of_length_le (Nat.le_refl _), List.take_of_length_le h]
theorem cut_suf (t : List Nat) (k : Nat) : cutS (mk t) (some (k : Int)) none = mk (t.drop k) := by
  rw [cut_mk t _ none (HT.sIx_nat _ _ _) (HT.sIx_none _ _)]
  rcases Nat.le_total k t.length with h | h
  · rw [Nat.min_eq_left h, List.take_of_length_le (by rw [List.length_drop]; omega)]
  · rw [Nat.min_eq_right h, Nat.sub_self, List.take_zero, List.drop_eq_nil_of_le h]
theorem cut_lr (t : List Nat) (i j : Nat) : cutS (mk t) (some (i : Int)) (some (j : Int)) = mk ((t.drop i).take (j - i)) := by
  rw [cut_mk t _ _ (HT.sIx_nat _ _ _) (HT.sIx_nat _ _ _)]
  congr 1
  rcases Nat.le_total i t.length with h | h
  · rw [Nat.min_eq_left h]
    rcases Nat.le_total j t.length with h2 | h2
    · rw [Nat.min_eq_left h2]
    · rw [Nat.min_eq_right h2, List.take_of_length_le (by rw [List.length_drop]; omega), List.take_of_length_le (by rw [List.length_drop]; omega)]
  · rw [Nat.min_eq_right h, List.drop_eq_nil_of_le (Nat.le_refl _), List.drop_eq_nil_of_le h, List.take_nil, List.take_nil]
theorem cut_in (a m b : List Nat) {k : Nat} (hk : b.length = k) (h1 : 1 ≤ k) {j : Nat} (hj : a.length = j) : cutS (mk (a ++ (m ++ b))) (some (j : Int)) (some (-(k : Int))) = mk m := by
  rw [cut_mk _ _ _ (HT.sIx_nat _ _ _) (sIx_neg _ _ _ h1)]
  simp only [List.length_append]
  rw [Nat.min_eq_left (by omega), ← hj, List.drop_left, show a.length + (m.length + b.length) - k - a.length = m.length by omega, List.take_left]
theorem cut_end (m b : List Nat) {k : Nat} (hk : b.length = k) (h1 : 1 ≤ k) : cutS (mk (m ++ b)) none (some (-(k : Int))) = mk m := by
  rw [cut_mk _ _ _ (HT.sIx_none _ _) (sIx_neg _ _ _ h1)]
  rw [List.length_append, List.drop_zero, show m.length + b.length - k - 0 = m.length by omega, List.take_left]
theorem find_open {a b : List Nat} (h : 40 ∉ a) : Txt.find (mk (a ++ 40 :: b)) (Str.ofString "(") = (a.length : Int) := by
  have hy : Str.ofString "(" = mk [40] := by decide +kernel
  rw [hy]
  have at_ : ∀ i, PySem.StrLaws.At (mk (a ++ 40 :: b)) (mk [40]) (mk (a ++ 40 :: b)).length i ↔ (a ++ 40 :: b)[i]? = some 40 := fun i => by
    unfold PySem.StrLaws.At
    rw [PySem.StrLaws.subAt_eq, len_mk]
    show i + 1 ≤ (a ++ 40 :: b).length ∧ (((a ++ 40 :: b).drop i).take 1 == [40]) = true ↔ _
    rw [beq_iff_eq]
    constructor
    · rintro ⟨h1, h2⟩
      rw [List.drop_eq_getElem_cons (by omega)] at h2
      simp only [List.take_succ_cons, List.take_zero] at h2
      injection h2 with h2 _
      rw [List.getElem?_eq_getElem (by omega), h2]
    · intro h2
      obtain ⟨hi, e⟩ := List.getElem?_eq_some_iff.mp h2
      refine ⟨by omega, ?_⟩
      rw [List.drop_eq_getElem_cons hi, e]
      rfl
  have h40 : (a ++ 40 :: b)[a.length]? = some 40 := by simp
  unfold Txt.find
  rcases PySem.StrLaws.occ_head (mk (a ++ 40 :: b)) (mk [40]) 1 (Nat.le_refl _) with ⟨_, hn⟩ | ⟨i, r, e, ha, hn⟩
  · exact absurd ((at_ _).mpr h40) (hn _)
  · rw [e]
    have h1 := (at_ i).mp ha
    have h2 : i = a.length := by
      rcases Nat.lt_trichotomy i a.length with z | z | z
      · rw [List.getElem?_append_left z] at h1
        exact absurd (List.mem_of_getElem? h1) h
      · exact z
      · exact absurd ((at_ _).mpr h40) (hn _ z)
    rw [h2]
theorem tsts_nil {K : PySem.W.Frag} {H : Hp} {c : Addr} (h : H c = some (.lst [])) : TstsAt K H c [] := ⟨[], h, rfl, fun i y t h => by simp at h⟩
theorem tsts_one {K : PySem.W.Frag} {H : Hp} {c y a : Addr} {t : Tst} (h : H c = some (.lst [.ref y])) (hy : SqT K H y [.ref a, .bl t.2]) (ha : SqT K H a (t.1.map fun n => V.str (mk n))) : TstsAt K H c [t] := ⟨[.ref y], h, rfl, fun i z u h1 h2 => by
  match i, h1, h2 with
  | 0, h1, h2 =>
    cases h1
    cases h2
    exact ⟨y, a, rfl, hy, ha⟩⟩
section
variable {P : Program} {w : World} {K : PySem.W.Frag} {mg : Str → Option Value} {base : Heap}
def spWrit (K : PySem.W.Frag) : Sp := fun vs H Q _ => ∃ (w : List Nm) (t : List Nat), vs = [.str (mk (appl w [120] ++ t))] ∧ NamesL w ∧ 40 ∉ t ∧ (appl w [120] ++ t).length ≤ 900 ∧ ∀ H' x, Same H H' → SqT K H' x (w.map fun n => V.str (mk n)) → Q (.ref x) H'
theorem ok_law_names_of (T : Tx K mg w) : Ok1 P w K mg base 1 "_law_names_of" ["_law_written"] (spWrit K) := by
  refine T.d_law_names_of.mk sc_law_names_of bn_law_names_of (fun vs H Q E h => ?_) (fun cdv A outer s H vs Q E hr h => ?_)
  · obtain ⟨w, t, rfl, _⟩ := h
    rfl
  · obtain ⟨w, t, rfl, hw, ht, hl, q⟩ := h
    refine ⟨_, pss_one (ps_ret (pe_callTy call_tuple_of (by rfl) T.z_tuple bt_tuple (pa_cons (pe_slice sl_list (pe_split (pv 0) pe_str) po_none (po_some (pe_un un_neg pe_int))) pa_nil))), ?_⟩
    refine ⟨_, rfl, ⟨_, rfl⟩, _, _, rfl, rfl, by decide +kernel, small_line (by show (mk (appl w [120] ++ t)).length + 2 ≤ 1000; rw [len_mk]; omega), fun p np => ?_⟩
    have esp : Txt.split (mk (appl w [120] ++ t)) "(" = w.map mk ++ [mk (120 :: List.replicate w.length 41 ++ t)] := by
      rw [appl_eq, List.append_assoc, split_appl hw (by simp [List.mem_replicate, ht])]
      rfl
    rw [esp]
    refine ⟨1, rfl, -1, rfl, p, _, rfl, SqL.of upd_same, fun g ng => ?_⟩
    have ec : cutV (List.map V.str (List.map mk w ++ [mk (120 :: List.replicate w.length 41 ++ t)])) none (some (-1)) = w.map fun n => V.str (mk n) := by
      rw [List.map_append, List.map_map]
      exact cut_init _ _
    rw [ec]
    refine ⟨g, _, rfl, .inl ⟨SqL.of upd_same, fun x nx => ?_⟩⟩
    exact q _ x (((same_new np).trans (same_new ng)).trans (same_new nx)) (SqT.of upd_same)
def clNames (c : Cl) : List Nm := sgNames (clSg true c)
def spBegun (K : PySem.W.Frag) (d : Nat) : Sp := fun vs H Q _ => ∃ (c : Cl) (a : Addr) (F : Nm → Act) (ns : List Nm) (own rd : List Addr) (p : Nat) (st : Strm V Ev), vs = [.str (mk (clL c)), .ref a] ∧ ClOk c ∧ (∀ n ∈ clNames c, n ∈ ns) ∧ SrcAt K F ns H d a own rd p st ∧
  ∀ H' x own' rd' p', Same H H' → (∀ y ∈ own', y ∈ own ∨ H y = none) → (∀ y ∈ rd', y ∈ rd ∨ H y = none) → p' ≤ p + 16 * st.items.length → SrcAt K F ns H' (d + 1) x own' rd' p' (clS F st c) → Q (.ref x) H'
theorem ok_law_call_begun {d : Nat} (T : Tx K mg w) : Ok1 P w K mg base 2 "_law_call_begun" ["_law_body", "_law_source"] (spBegun K d) := by
  have nd := sc_law_call_begun.nd
  refine T.d_law_call_begun.mk sc_law_call_begun bn_law_call_begun (fun vs H Q E h => ?_) (fun cdv A outer s H vs Q E hr h => ?_)
  · obtain ⟨c, a, F, ns, own, rd, p, st, rfl, _⟩ := h
    rfl
  · obtain ⟨c, a, F, ns, own, rd, p, st, rfl, hc, hns, hS, q⟩ := h
    refine ⟨_, pss_cons (ps_set (i := 2) nd rfl (.inl rfl) (pe_slice sl_str (pv 0) po_none (po_some (pe_bm PySem.F.plainAttrs_str PySem.F.slot_str_find PySem.F.type_str_find mt_find (pv 0) (pa_cons pe_str pa_nil)))))
      (pss_cons (ps_set (i := 3) nd rfl (.inl rfl) (pe_slice sl_str (pv 0) (po_some (pe_op op_add (pe_callB call_len (by rfl) T.z_len bt_len (pa_cons (pv 2) pa_nil)) pe_int)) (po_some (pe_un un_neg pe_int))))
      (pss_cons (ps_if (pt_cmpR op_eq (pv 2) pe_str (nomark _)) (pss_cons (ps_set (i := 4) nd rfl (.inl rfl) (pe_slice sl_list (pe_split (pv 3) pe_str) (po_some pe_int) po_none))
      (pss_cons (ps_if (pt_cmpR op_eq (pe_callB call_len_seq (by rfl) T.z_len bt_len (pa_cons (pv 4) pa_nil)) pe_int (nomark _)) (pss_one (ps_ret (pe_lst (pa_cons pe_str (pa_cons (pv 1) (pa_cons pe_int (pa_cons pe_int (pa_cons (pe_callTy call_int_str (by rfl) T.z_int bt_int (pa_cons (pe_ix ix_list (pv 4) pe_int (fun _ _ => rfl)) pa_nil)) (pa_cons pe_int pa_nil))))))))) pss_nil)
      (pss_one (ps_ret (pe_lst (pa_cons pe_str (pa_cons (pv 1) (pa_cons pe_int (pa_cons (pe_callTy call_int_str (by rfl) T.z_int bt_int (pa_cons (pe_ix ix_list (pv 4) pe_int (fun _ _ => rfl)) pa_nil)) (pa_cons pe_non (pa_cons (pe_ifExp (pt_cmpR op_eq (pe_callB call_len_seq (by rfl) T.z_len bt_len (pa_cons (pv 4) pa_nil)) pe_int (nomark _)) (pe_callTy call_int_str (by rfl) T.z_int bt_int (pa_cons (pe_ix ix_list (pv 4) pe_int (fun _ _ => rfl)) pa_nil)) pe_int) pa_nil))))))))))) pss_nil)
      (pss_cons (ps_set (i := 5) nd rfl (.inl rfl) (pe_slice sl_str (pv 3) po_none (po_some (pe_un un_neg pe_int))))
      (pss_cons (ps_set (i := 6) nd rfl (.inl rfl) (pe_ifExp (pt_cmpR op_eq (pe_slice sl_str (pv 5) po_none (po_some pe_int)) pe_str (nomark _)) (pe_g (ok_law_names_of T) hr (pa_cons (pe_slice sl_str (pv 5) (po_some pe_int) po_none) pa_nil)) (pe_tup (pa_cons (pv 5) pa_nil))))
      (pss_cons (ps_if (pt_cmpR op_eq (pv 2) pe_str (nomark _)) (pss_one (ps_ret (pe_lst (pa_cons pe_str (pa_cons (pv 1) (pa_cons (pe_lst pa_nil) (pa_cons (pv 6) pa_nil))))))) pss_nil)
      (pss_cons (ps_set (i := 7) nd rfl (.inl rfl) (pe_lst (pa_cons (pe_tup (pa_cons (pv 6) (pa_cons pe_bl pa_nil))) pa_nil)))
      (pss_one (ps_ret (pe_ifExp (pt_cmpR op_eq (pv 2) pe_str (nomark _)) (pe_lst (pa_cons pe_str (pa_cons (pv 1) (pa_cons (pv 7) (pa_cons (pe_tup pa_nil) pa_nil))))) (pe_lst (pa_cons (pv 2) (pa_cons (pv 1) (pa_cons (pv 7) (pa_cons pe_bl pa_nil)))))))))))))), ?_⟩
    have hlen : (mk (clL c)).length ≤ 70 := by rw [len_mk]; exact clL_len hc
    have hz : (mk (clL c)).length ≤ sizeLine := small_line (by omega)
    refine ⟨_, rfl, _, rfl, rfl, mk (clL c), _, rfl, rfl, _, rfl, mk (clL c), rfl, hz, ?_⟩
    cases hs : c.sl with
    | true =>
      have e0 : clL c = L "islice" ++ 40 :: ((L "rows, " ++ sliceL c) ++ [41]) := by
        rw [clL_sl hs, show L "islice(rows, " = L "islice" ++ 40 :: L "rows, " by decide +kernel]
        simp only [List.append_assoc, List.cons_append]
      have ef : Txt.find (mk (clL c)) (Str.ofString "(") = ((L "islice").length : Int) := by rw [e0]; exact find_open (by decide +kernel)
      have ew : cutS (mk (clL c)) none (some (Txt.find (mk (clL c)) (Str.ofString "("))) = mk (L "islice") := by
        rw [ef, cut_pre, e0, List.take_left]
      rw [ew]
      have ei : cutS (mk (clL c)) (some (((mk (L "islice")).length : Int) + 1)) (some (-1)) = mk (L "rows, " ++ sliceL c) := by
        rw [e0, show L "islice" ++ 40 :: (L "rows, " ++ sliceL c ++ [41]) = (L "islice" ++ [40]) ++ ((L "rows, " ++ sliceL c) ++ [41]) by simp]
        exact cut_in (L "islice" ++ [40]) (L "rows, " ++ sliceL c) [41] (k := 1) rfl (Nat.le_refl _) (j := 7) (by decide +kernel)
      refine ⟨_, rfl, _, rfl, _, (mk (L "islice")).length, rfl, ⟨by show (mk (L "islice")).length ≤ sizeLine; decide +kernel, rfl⟩, _, _, rfl, rfl, _, rfl, 1, rfl, -1, rfl, mk (clL c), rfl, hz, ?_⟩
      rw [ei]
      refine ⟨_, rfl, rfl, _, rfl, ?_⟩
      refine ifT (by decide +kernel) ?_
      have hsl := sliceL_len (c := c)
      refine ⟨_, rfl, ⟨_, rfl⟩, _, _, rfl, rfl, by decide +kernel, small_line (by show (mk (L "rows, " ++ sliceL c)).length + 2 ≤ 1000; rw [len_mk, List.length_append, show (L "rows, ").length = 6 by decide +kernel]; omega), fun g ng => ?_⟩
      have esp : Txt.split (mk (L "rows, " ++ sliceL c)) (Str.ofString ", ") = mk (L "rows") :: Txt.split (mk (sliceL c)) (Str.ofString ", ") := by
        refine map_tl_inj ?_
        have hy : tl (Str.ofString ", ") = [44, 32] := by decide +kernel
        have hk : ∀ x : Str, ¬ Builtin.Str.strKind x < Builtin.Str.strKind (Str.ofString ", ") := fun x => kind_ok (by decide +kernel)
        rw [List.map_cons, split_spl _ _ (by rw [hy]; simp) (hk _), split_spl _ _ (by rw [hy]; simp) (hk _), hy, tl_mk', tl_mk', tl_mk', show L "rows, " = L "rows" ++ [44, 32] by decide +kernel, List.append_assoc]
        exact spl_part1 (s := 44) (S := [32]) (by decide +kernel)
      rw [esp]
      have g0 := same_new (o := HO.lst ((mk (L "rows") :: Txt.split (mk (sliceL c)) (Str.ofString ", ")).map V.str)) ng
      refine ⟨1, rfl, g, _, rfl, SqL.of upd_same, fun g2 ng2 => ?_⟩
      have ec : ∀ (x : V) (ys : List V), cutV (x :: ys) (some 1) none = ys := fun x ys => by
        unfold cutV
        rw [show (1 : Int) = ((1 : Nat) : Int) from rfl, HT.sIx_nat, HT.sIx_none, Nat.min_eq_left (by simp)]
        simp
      rw [List.map_cons, ec]
      have g1 := same_new (o := HO.lst ((Txt.split (mk (sliceL c)) (Str.ofString ", ")).map V.str)) ng2
      have aH : ∀ {H' : Hp} {x : Addr}, Same H H' → H' x = none → x ∉ own ∧ x ∉ rd := fun sm nx => by
        refine ⟨fun z => ?_, fun z => ?_⟩
        · obtain ⟨zs, hz⟩ := hS.own_lst.1 _ z
          rw [sm _ _ hz] at nx; cases nx
        · obtain ⟨zs, hz⟩ := hS.own_lst.2.1 _ z
          rw [sm _ _ hz] at nx; cases nx
      have hb : ∀ {H' : Hp} {x : Addr}, Same H H' → H' x = none → H x = none := fun {H' x} sm nx => by
        cases e : H x with
        | none => rfl
        | some o => rw [sm _ _ e] at nx; cases nx
      have s01 := g0.trans g1
      cases c with
      | call k f => cases hs
      | lam b t => cases hs
      | first n =>
        have hn : n ≤ 9 := hc
        rw [split_first hn] at *
        refine ⟨_, rfl, g2, _, rfl, .inl (SqL.of upd_same), rfl, _, rfl, ?_⟩
        refine ifT (decide_eq_true rfl) ?_
        refine ⟨_, rfl, _, rfl, g2, _, 0, _, rfl, rfl, SqL.of upd_same, atI_nat (j := 0) rfl, mk (dig n), n, rfl, int_dig hn, (by show 1 ≤ 640; decide), ?_⟩
        refine ⟨by show 6 ≤ sizeLine; decide, fun x nx => ?_⟩
        have s2 := s01.trans (same_new (o := .lst [.str "islice", .ref a, .int 0, .int 0, .int (n : Int), .int 1]) nx)
        refine q _ x (x :: own) rd p s2 (fun y hy => (List.mem_cons.mp hy).elim (fun e => .inr (by rw [e]; exact hb s01 nx)) .inl) (fun y hy => .inl hy) (by omega) ?_
        exact .first (i := 0) upd_same (hS.keep (SmL.of s2) fun b _ o ho => s2 _ _ ho) (aH s01 nx).1 (aH s01 nx).2
      | skip n =>
        have hn : n ≤ 9 := hc
        rw [split_skip hn] at *
        refine ⟨_, rfl, g2, _, rfl, .inl (SqL.of upd_same), rfl, _, rfl, ?_⟩
        refine ifF (decide_eq_false fun z => by injection z with z; simp at z) ?_
        refine ⟨_, rfl, _, rfl, g2, _, 0, _, rfl, rfl, SqL.of upd_same, atI_nat (j := 0) rfl, mk (dig n), n, rfl, int_dig hn, (by show 1 ≤ 640; decide), ?_⟩
        refine ⟨_, rfl, g2, _, rfl, .inl (SqL.of upd_same), rfl, _, rfl, ?_⟩
        refine ifF (decide_eq_false fun z => by injection z with z; simp at z) ?_
        refine ⟨by show 6 ≤ sizeLine; decide, fun x nx => ?_⟩
        have s2 := s01.trans (same_new (o := .lst [.str "islice", .ref a, .int 0, .int (n : Int), .non, .int 1]) nx)
        refine q _ x (x :: own) rd p s2 (fun y hy => (List.mem_cons.mp hy).elim (fun e => .inr (by rw [e]; exact hb s01 nx)) .inl) (fun y hy => .inl hy) (by omega) ?_
        exact .slice (i := 0) (nx := n) (k := 1) upd_same (Nat.le_refl _) (hS.keep (SmL.of s2) fun b _ o ho => s2 _ _ ho) (aH s01 nx).1 (aH s01 nx).2
      | every k r =>
        obtain ⟨h1, hk, hn⟩ := hc
        rw [split_every hk hn] at *
        refine ⟨_, rfl, g2, _, rfl, .inl (SqL.of upd_same), rfl, _, rfl, ?_⟩
        refine ifF (decide_eq_false fun z => by injection z with z; simp at z) ?_
        refine ⟨_, rfl, _, rfl, g2, _, 0, _, rfl, rfl, SqL.of upd_same, atI_nat (j := 0) rfl, mk (dig r), r, rfl, int_dig hn, (by show 1 ≤ 640; decide), ?_⟩
        refine ⟨_, rfl, g2, _, rfl, .inl (SqL.of upd_same), rfl, _, rfl, ?_⟩
        refine ifT (decide_eq_true rfl) ?_
        refine ⟨_, rfl, g2, _, 2, _, rfl, rfl, SqL.of upd_same, atI_nat (j := 2) rfl, mk (dig k), k, rfl, int_dig hk, (by show 1 ≤ 640; decide), ?_⟩
        refine ⟨by show 6 ≤ sizeLine; decide, fun x nx => ?_⟩
        have s2 := s01.trans (same_new (o := .lst [.str "islice", .ref a, .int 0, .int (r : Int), .non, .int (k : Int)]) nx)
        refine q _ x (x :: own) rd p s2 (fun y hy => (List.mem_cons.mp hy).elim (fun e => .inr (by rw [e]; exact hb s01 nx)) .inl) (fun y hy => .inl hy) (by omega) ?_
        exact .slice (i := 0) (nx := r) (k := k) upd_same h1 (hS.keep (SmL.of s2) fun b _ o ho => s2 _ _ ho) (aH s01 nx).1 (aH s01 nx).2
    | false =>
      have e0 : clL c = wyL (clW c) ++ 40 :: ((givL c ++ L ", rows") ++ [41]) := by
        rw [clL_eq hs, show L ", rows)" = L ", rows" ++ [41] by decide +kernel, List.append_assoc]
      have ef : Txt.find (mk (clL c)) (Str.ofString "(") = ((wyL (clW c)).length : Int) := by rw [e0]; exact find_open (wyL_free (.inl rfl))
      have ew : cutS (mk (clL c)) none (some (Txt.find (mk (clL c)) (Str.ofString "("))) = mk (wyL (clW c)) := by
        rw [ef, cut_pre, e0, List.take_left]
      rw [ew]
      have hwl := wyL_len (clW c)
      have ei : cutS (mk (clL c)) (some (((mk (wyL (clW c))).length : Int) + 1)) (some (-1)) = mk (givL c ++ L ", rows") := by
        rw [e0, show wyL (clW c) ++ 40 :: (givL c ++ L ", rows" ++ [41]) = (wyL (clW c) ++ [40]) ++ ((givL c ++ L ", rows") ++ [41]) by simp]
        exact cut_in (wyL (clW c) ++ [40]) (givL c ++ L ", rows") [41] (k := 1) rfl (Nat.le_refl _) (j := (mk (wyL (clW c))).length + 1) (by rw [List.length_append, len_mk]; rfl)
      refine ⟨_, rfl, _, rfl, _, (mk (wyL (clW c))).length, rfl, ⟨small_line (by rw [len_mk]; omega), rfl⟩, _, _, rfl, rfl, _, rfl, 1, rfl, -1, rfl, mk (clL c), rfl, hz, ?_⟩
      rw [ei]
      refine ⟨_, rfl, rfl, _, rfl, ?_⟩
      refine ifF (by show decide (V.str (mk (wyL (clW c))) = V.str (Str.ofString "islice")) = false; cases clW c <;> decide +kernel) ?_
      have hgl := givL_len hc
      refine ⟨_, rfl, 6, rfl, -6, rfl, mk (givL c ++ L ", rows"), rfl, small_line (by rw [len_mk, List.length_append, show (L ", rows").length = 6 by decide +kernel]; omega), ?_⟩
      have eg : cutS (mk (givL c ++ L ", rows")) none (some (-6)) = mk (givL c) := cut_end (givL c) (L ", rows") (k := 6) (by decide +kernel) (by decide)
      rw [eg]
      have aH : ∀ {H' : Hp} {x : Addr}, Same H H' → H' x = none → x ∉ own ∧ x ∉ rd := fun sm nx => by
        refine ⟨fun z => ?_, fun z => ?_⟩
        · obtain ⟨zs, hz⟩ := hS.own_lst.1 _ z
          rw [sm _ _ hz] at nx; cases nx
        · obtain ⟨zs, hz⟩ := hS.own_lst.2.1 _ z
          rw [sm _ _ hz] at nx; cases nx
      have hb : ∀ {H' : Hp} {x : Addr}, Same H H' → H' x = none → H x = none := fun {H' x} sm nx => by
        cases e : H x with
        | none => rfl
        | some o => rw [sm _ _ e] at nx; cases nx
      have hgz : (mk (givL c)).length ≤ sizeLine := small_line (by rw [len_mk]; omega)
      refine ⟨_, rfl, 10, rfl, mk (givL c), rfl, hgz, rfl, _, rfl, ?_⟩
      cases c with
      | first n => cases hs
      | skip n => cases hs
      | every k r => cases hs
      | call k f =>
        have hf : isNameL f = true := hc
        have hWN : ([f] : List Nm).length ≤ 4 ∧ ∀ n ∈ [f], n ∈ ns := ⟨by simp, fun n hn => hns n (by cases k <;> exact hn)⟩
        refine ifF (by
          rw [show (some (10 : Int)) = some ((10 : Nat) : Int) from rfl, cut_pre]
          refine decide_eq_false fun z => ?_
          injection z with z
          rw [lit_mk] at z
          have z := mk_inj z
          have h32 : (32 : Nat) ∈ (givL (.call k f)).take 10 := by rw [z]; decide +kernel
          exact name_free hf (by omega) (List.mem_of_mem_take h32)) ?_
        refine ⟨_, rfl, by show 1 ≤ sizeLine; decide, fun nm nnm => ?_⟩
        have s01 := same_new (o := HO.tup [V.str (mk (givL (.call k f)))]) nnm
        have hnm : SqT K (upd H nm (.tup [V.str (mk (givL (.call k f)))])) nm (([f] : List Nm).map fun n => V.str (mk n)) := SqT.of upd_same
        generalize hH1 : upd H nm (.tup [V.str (mk (givL (.call k f)))]) = H1 at *
        cases k with
        | map =>
          refine ⟨_, rfl, rfl, _, rfl, ?_⟩
          refine ifT (by show decide (V.str (mk (wyL .map)) = V.str (Str.ofString "map")) = true; decide +kernel) ?_
          refine ⟨_, rfl, by show 0 ≤ sizeLine; decide, fun t0 nt0 => ⟨_, rfl, by show 4 ≤ sizeLine; decide, fun x nx => ?_⟩⟩
          have u0 := same_new (o := .lst []) nt0
          have sA := s01.trans u0
          have u1 := same_new (o := .lst [.str "rows", .ref a, .ref t0, .ref nm]) nx
          have s2 := sA.trans u1
          refine q _ x (x :: own) (t0 :: rd) (p + 16 * st.items.length) s2 (fun y hy => (List.mem_cons.mp hy).elim (fun e => .inr (by rw [e]; exact hb sA nx)) .inl) (fun y hy => (List.mem_cons.mp hy).elim (fun e => .inr (by rw [e]; exact hb s01 nt0)) .inl) (Nat.le_refl _) ?_
          exact .rows (ts := []) (w := [f]) upd_same (tsts_nil (u1 _ _ upd_same)) (same_seqT (u0.trans u1) hnm) ⟨by simp, fun t ht => by cases ht⟩ hWN (hS.keep (SmL.of s2) fun b _ o ho => s2 _ _ ho) (aH sA nx).1 (aH sA nx).2 (fun e => by rw [← e, upd_same] at nx; cases nx) (aH s01 nt0).1
        | filter =>
          refine ⟨_, rfl, rfl, _, rfl, ?_⟩
          refine ifF (by show decide (V.str (mk (wyL .filter)) = V.str (Str.ofString "map")) = false; decide +kernel) ?_
          refine ⟨_, rfl, by show 2 ≤ sizeLine; decide, fun y ny => ⟨by show 1 ≤ sizeLine; decide, fun t0 nt0 => ?_⟩⟩
          have u0 := same_new (o := .tup [.ref nm, .bl true]) ny
          have u1 := same_new (o := .lst [.ref y]) nt0
          have sY := s01.trans u0
          have sA := sY.trans u1
          refine ⟨_, rfl, rfl, _, rfl, ?_⟩
          refine ifT (by show decide (V.str (mk (wyL .filter)) = V.str (Str.ofString "filter")) = true; decide +kernel) ?_
          refine ⟨_, rfl, _, rfl, by show 0 ≤ sizeLine; decide, fun t1 nt1 => ⟨by show 4 ≤ sizeLine; decide, fun x nx => ?_⟩⟩
          have u2 := same_new (o := .tup []) nt1
          have sB := sA.trans u2
          have u3 := same_new (o := .lst [.str "rows", .ref a, .ref t0, .ref t1]) nx
          have s2 := sB.trans u3
          have u23 := u2.trans u3
          refine q _ x (x :: own) (t0 :: rd) (p + 16 * st.items.length) s2 (fun y hy => (List.mem_cons.mp hy).elim (fun e => .inr (by rw [e]; exact hb sB nx)) .inl) (fun y hy => (List.mem_cons.mp hy).elim (fun e => .inr (by rw [e]; exact hb sY nt0)) .inl) (Nat.le_refl _) ?_
          exact .rows (ts := [([f], true)]) (w := []) upd_same (tsts_one (u23 _ _ upd_same) (same_seqT (u1.trans u23) (SqT.of upd_same)) (same_seqT (u0.trans (u1.trans u23)) hnm)) (SqT.of (u3 _ _ upd_same)) ⟨by simp, fun t ht => by rw [List.mem_singleton.mp ht]; exact hWN⟩ ⟨by simp, fun n hn => by cases hn⟩ (hS.keep (SmL.of s2) fun b _ o ho => s2 _ _ ho) (aH sB nx).1 (aH sB nx).2 (fun e => by rw [← e, u2 _ _ upd_same] at nx; cases nx) (aH sY nt0).1
        | takewhile =>
          refine ⟨_, rfl, rfl, _, rfl, ?_⟩
          refine ifF (by show decide (V.str (mk (wyL .takewhile)) = V.str (Str.ofString "map")) = false; decide +kernel) ?_
          refine ⟨_, rfl, by show 2 ≤ sizeLine; decide, fun y ny => ⟨by show 1 ≤ sizeLine; decide, fun t0 nt0 => ?_⟩⟩
          have u0 := same_new (o := .tup [.ref nm, .bl true]) ny
          have u1 := same_new (o := .lst [.ref y]) nt0
          have sY := s01.trans u0
          have sA := sY.trans u1
          refine ⟨_, rfl, rfl, _, rfl, ?_⟩
          refine ifF (by show decide (V.str (mk (wyL .takewhile)) = V.str (Str.ofString "filter")) = false; decide +kernel) ?_
          refine ⟨_, rfl, _, rfl, _, rfl, by show 4 ≤ sizeLine; decide, fun x nx => ?_⟩
          have u3 := same_new (o := .lst [.str (mk (wyL .takewhile)), .ref a, .ref t0, .bl false]) nx
          have s2 := sA.trans u3
          have hx : (upd (upd (upd H1 y (.tup [.ref nm, .bl true])) t0 (.lst [.ref y])) x (.lst [V.str (mk (wyL .takewhile)), .ref a, .ref t0, .bl false])) x = some (.lst [.str "takewhile", .ref a, .ref t0, .bl false]) := by
            rw [upd_same, show mk (wyL .takewhile) = Str.ofString "takewhile" from (lit_mk _).symm]
          refine q _ x (x :: own) (t0 :: rd) (p + 16 * st.items.length) s2 (fun y hy => (List.mem_cons.mp hy).elim (fun e => .inr (by rw [e]; exact hb sA nx)) .inl) (fun y hy => (List.mem_cons.mp hy).elim (fun e => .inr (by rw [e]; exact hb sY nt0)) .inl) (Nat.le_refl _) ?_
          exact .takew (ts := [([f], true)]) hx (tsts_one (u3 _ _ upd_same) (same_seqT (u1.trans u3) (SqT.of upd_same)) (same_seqT (u0.trans (u1.trans u3)) hnm)) ⟨by simp, fun t ht => by rw [List.mem_singleton.mp ht]; exact hWN⟩ (hS.keep (SmL.of s2) fun b _ o ho => s2 _ _ ho) (aH sA nx).1 (aH sA nx).2 (fun e => by rw [← e, upd_same] at nx; cases nx) (aH sY nt0).1
        | dropwhile =>
          refine ⟨_, rfl, rfl, _, rfl, ?_⟩
          refine ifF (by show decide (V.str (mk (wyL .dropwhile)) = V.str (Str.ofString "map")) = false; decide +kernel) ?_
          refine ⟨_, rfl, by show 2 ≤ sizeLine; decide, fun y ny => ⟨by show 1 ≤ sizeLine; decide, fun t0 nt0 => ?_⟩⟩
          have u0 := same_new (o := .tup [.ref nm, .bl true]) ny
          have u1 := same_new (o := .lst [.ref y]) nt0
          have sY := s01.trans u0
          have sA := sY.trans u1
          refine ⟨_, rfl, rfl, _, rfl, ?_⟩
          refine ifF (by show decide (V.str (mk (wyL .dropwhile)) = V.str (Str.ofString "filter")) = false; decide +kernel) ?_
          refine ⟨_, rfl, _, rfl, _, rfl, by show 4 ≤ sizeLine; decide, fun x nx => ?_⟩
          have u3 := same_new (o := .lst [.str (mk (wyL .dropwhile)), .ref a, .ref t0, .bl false]) nx
          have s2 := sA.trans u3
          have hx : (upd (upd (upd H1 y (.tup [.ref nm, .bl true])) t0 (.lst [.ref y])) x (.lst [V.str (mk (wyL .dropwhile)), .ref a, .ref t0, .bl false])) x = some (.lst [.str "dropwhile", .ref a, .ref t0, .bl false]) := by
            rw [upd_same, show mk (wyL .dropwhile) = Str.ofString "dropwhile" from (lit_mk _).symm]
          refine q _ x (x :: own) (t0 :: rd) (p + 16 * st.items.length) s2 (fun y hy => (List.mem_cons.mp hy).elim (fun e => .inr (by rw [e]; exact hb sA nx)) .inl) (fun y hy => (List.mem_cons.mp hy).elim (fun e => .inr (by rw [e]; exact hb sY nt0)) .inl) (Nat.le_refl _) ?_
          exact .dropw (ts := [([f], true)]) hx (tsts_one (u3 _ _ upd_same) (same_seqT (u1.trans u3) (SqT.of upd_same)) (same_seqT (u0.trans (u1.trans u3)) hnm)) ⟨by simp, fun t ht => by rw [List.mem_singleton.mp ht]; exact hWN⟩ (hS.keep (SmL.of s2) fun b _ o ho => s2 _ _ ho) (aH sA nx).1 (aH sA nx).2 (fun e => by rw [← e, upd_same] at nx; cases nx) (aH sY nt0).1
      | lam wh t =>
        have ht : TestOk t := hc
        have hWN : t.length ≤ 4 ∧ ∀ n ∈ t, n ∈ ns := ⟨ht.2.2, fun n hn => hns n (by cases wh <;> exact hn)⟩
        have eL : (L "lambda x: ").length = 10 := by decide +kernel
        refine ifT (by
          rw [show (some (10 : Int)) = some ((10 : Nat) : Int) from rfl, cut_pre]
          refine decide_eq_true ?_
          show V.str (mk ((L "lambda x: " ++ appl t [120]).take 10)) = _
          rw [← eL, List.take_left, ← lit_mk]) ?_
        refine ⟨_, rfl, 10, rfl, mk (givL (.lam wh t)), rfl, hgz, ?_⟩
        have e10 : cutS (mk (givL (.lam wh t))) (some 10) none = mk (appl t [120] ++ []) := by
          rw [show (some (10 : Int)) = some ((10 : Nat) : Int) from rfl, cut_suf, List.append_nil]
          show mk ((L "lambda x: " ++ appl t [120]).drop 10) = _
          rw [← eL, List.drop_left]
        refine ⟨t, [], congrArg (fun z => [V.str z]) e10, ht.1, by simp, ?_, fun H1 nm s01 hnm => ?_⟩
        · have := appl_len ht.1 [120]
          have := ht.2.2
          simp only [List.length_append, List.length_nil, List.length_cons] at *
          omega
        cases wh with
        | true =>
          refine ⟨_, rfl, rfl, _, rfl, ?_⟩
          refine ifF (by show decide (V.str (mk (wyL .takewhile)) = V.str (Str.ofString "map")) = false; decide +kernel) ?_
          refine ⟨_, rfl, by show 2 ≤ sizeLine; decide, fun y ny => ⟨by show 1 ≤ sizeLine; decide, fun t0 nt0 => ?_⟩⟩
          have u0 := same_new (o := .tup [.ref nm, .bl true]) ny
          have u1 := same_new (o := .lst [.ref y]) nt0
          have sY := s01.trans u0
          have sA := sY.trans u1
          refine ⟨_, rfl, rfl, _, rfl, ?_⟩
          refine ifF (by show decide (V.str (mk (wyL .takewhile)) = V.str (Str.ofString "filter")) = false; decide +kernel) ?_
          refine ⟨_, rfl, _, rfl, _, rfl, by show 4 ≤ sizeLine; decide, fun x nx => ?_⟩
          have u3 := same_new (o := .lst [.str (mk (wyL .takewhile)), .ref a, .ref t0, .bl false]) nx
          have s2 := sA.trans u3
          have hx : (upd (upd (upd H1 y (.tup [.ref nm, .bl true])) t0 (.lst [.ref y])) x (.lst [V.str (mk (wyL .takewhile)), .ref a, .ref t0, .bl false])) x = some (.lst [.str "takewhile", .ref a, .ref t0, .bl false]) := by
            rw [upd_same, show mk (wyL .takewhile) = Str.ofString "takewhile" from (lit_mk _).symm]
          refine q _ x (x :: own) (t0 :: rd) (p + 16 * st.items.length) s2 (fun y hy => (List.mem_cons.mp hy).elim (fun e => .inr (by rw [e]; exact hb sA nx)) .inl) (fun y hy => (List.mem_cons.mp hy).elim (fun e => .inr (by rw [e]; exact hb sY nt0)) .inl) (Nat.le_refl _) ?_
          exact .takew (ts := [(t, true)]) hx (tsts_one (u3 _ _ upd_same) (same_seqT (u1.trans u3) (SqT.of upd_same)) (same_seqT (u0.trans (u1.trans u3)) hnm)) ⟨by simp, fun t ht => by rw [List.mem_singleton.mp ht]; exact hWN⟩ (hS.keep (SmL.of s2) fun b _ o ho => s2 _ _ ho) (aH sA nx).1 (aH sA nx).2 (fun e => by rw [← e, upd_same] at nx; cases nx) (aH sY nt0).1
        | false =>
          refine ⟨_, rfl, rfl, _, rfl, ?_⟩
          refine ifF (by show decide (V.str (mk (wyL .dropwhile)) = V.str (Str.ofString "map")) = false; decide +kernel) ?_
          refine ⟨_, rfl, by show 2 ≤ sizeLine; decide, fun y ny => ⟨by show 1 ≤ sizeLine; decide, fun t0 nt0 => ?_⟩⟩
          have u0 := same_new (o := .tup [.ref nm, .bl true]) ny
          have u1 := same_new (o := .lst [.ref y]) nt0
          have sY := s01.trans u0
          have sA := sY.trans u1
          refine ⟨_, rfl, rfl, _, rfl, ?_⟩
          refine ifF (by show decide (V.str (mk (wyL .dropwhile)) = V.str (Str.ofString "filter")) = false; decide +kernel) ?_
          refine ⟨_, rfl, _, rfl, _, rfl, by show 4 ≤ sizeLine; decide, fun x nx => ?_⟩
          have u3 := same_new (o := .lst [.str (mk (wyL .dropwhile)), .ref a, .ref t0, .bl false]) nx
          have s2 := sA.trans u3
          have hx : (upd (upd (upd H1 y (.tup [.ref nm, .bl true])) t0 (.lst [.ref y])) x (.lst [V.str (mk (wyL .dropwhile)), .ref a, .ref t0, .bl false])) x = some (.lst [.str "dropwhile", .ref a, .ref t0, .bl false]) := by
            rw [upd_same, show mk (wyL .dropwhile) = Str.ofString "dropwhile" from (lit_mk _).symm]
          refine q _ x (x :: own) (t0 :: rd) (p + 16 * st.items.length) s2 (fun y hy => (List.mem_cons.mp hy).elim (fun e => .inr (by rw [e]; exact hb sA nx)) .inl) (fun y hy => (List.mem_cons.mp hy).elim (fun e => .inr (by rw [e]; exact hb sY nt0)) .inl) (Nat.le_refl _) ?_
          exact .dropw (ts := [(t, true)]) hx (tsts_one (u3 _ _ upd_same) (same_seqT (u1.trans u3) (SqT.of upd_same)) (same_seqT (u0.trans (u1.trans u3)) hnm)) ⟨by simp, fun t ht => by rw [List.mem_singleton.mp ht]; exact hWN⟩ (hS.keep (SmL.of s2) fun b _ o ho => s2 _ _ ho) (aH sA nx).1 (aH sA nx).2 (fun e => by rw [← e, upd_same] at nx; cases nx) (aH sY nt0).1
end
end K

set_option Elab.async false
set_option linter.all false
set_option maxRecDepth 100000
set_option maxHeartbeats 4000000
/-! KT5: a comprehension whose element wants a token out. -/
namespace K
open PySem PySem.Spec PyProof.Rows L2 He TL LamX CwR
theorem thnK {α : Type} {t : Sem α} {n : Nat} {Q Q' : α → Shared → Prop} {M : Model} {A : Around} {E : Value → Shared → Prop} {s : Shared} (hn : n ≤ s.toks) (h : wpAny M A t Q (fun _ _ => False) s) (k : ∀ a s', n ≤ s'.toks → Q a s' → Q' a s') : wpAny M A t Q' E s :=
  wpAny_mono (PySem.wpAny_toks_of hn h) (fun a s' z => k a s' z.1 z.2) fun _ _ z => z.2.elim
theorem thnE {α : Type} {t : Sem α} {n : Nat} {Q Q' : α → Shared → Prop} {M : Model} {A : Around} {E : Value → Shared → Prop} {s : Shared} (hn : n ≤ s.toks) (h : wpAny M A t Q E s) (k : ∀ a s', n ≤ s'.toks → Q a s' → Q' a s') : wpAny M A t Q' E s :=
  wpAny_mono (PySem.wpAny_toks_of hn h) (fun a s' z => k a s' z.1 z.2) fun _ _ z => z.2
section
variable {X : Cx}
theorem lcK {elt tg iter : Expr} {sc : Scope} {own : List (Str × Nat)} {pos pos' : Pos} {wi : TI} {g : TG} {te : TE} {use : Option (Value → Sem Unit)} {Qf : Value → Shared → Prop} (calm : X.calm = true) (nd : X.N.Nodup) (pi : PI X tg iter wi) (bk : BlkOk X.N X.env.scope sc own)
    (gs : ∀ (s : Shared) (H : Hp) (C : Addr) (cl : List (Str × Addr)) (fp : List Addr), PG (X.blk s H sc (compEnvC sc cl C X.env) fp) tg g)
    (es : ∀ (s : Shared) (H : Hp) (C : Addr) (cl : List (Str × Addr)) (fp : List Addr), PET (X.blk s H sc (compEnvC sc cl C X.env) fp) elt te) (fs : ∀ x, foldedSetIterable iter X.env x = pure x)
    {pr : List (Addr × Obj)} {sA : Shared} {σ : L2.St} {G0 : Hp} {Q : VK} (hk0 : 1 ≤ sA.toks) (IA : Inv X pr σ G0 sA) (ask : tLc wi g tYes te (own.map (·.2)) σ G0 Q)
    (back : ∀ L C s' m G, Inv X pr σ G s' → Q (.ref L) G → s'.heap.Ns C m → FpOk X pr G C → compPost (model X.prog X.w) X.A X.xe use Qf (.ref L) C (.ok .next) s') :
    wpAny (model X.prog X.w) X.A (comprehension (.ListComp elt [⟨tg, iter, [], 0⟩] sc pos) sc X.env pos' (newList []) false (eval iter X.env) use) Qf X.xe sA := by
  have hfr : ∀ y ∈ sc.names, y.2 = .free → ∃ c, X.env.cells.lookup y.1 = some c := fun y hy e => (bk.free y hy e).elim (fun k => IA.ok.has _ (.inl k)) fun k => IA.ok.has _ (.inr k)
  refine wpAny_comprehension_free (use := use) rfl fs (closure_ok hfr) bk.kind (fun y hy e => by rw [bk.uniq y hy, e]) ?_
  refine thnE hk0 (pi.run pr sA σ G0 _ IA ask) fun xv sB kB hB => thnE kB hB fun iv sC kC hC => ?_
  obtain ⟨it, fp, tn, J, G2, ei, IC, Wk, stC, fpC, more⟩ := hC
  subst ei
  refine wpAny_newObj_type (newEnv_comp ?_) (by show 0 ≤ sizeLine; decide)
  obtain ⟨W, ⟨m0, w0⟩, turn⟩ := more sC.heap.objs.size (IC.hok.fresh (Nat.le_refl _))
  generalize eD : sC.heap.objs.size = L0 at w0 turn ⊢
  have sz : ∀ b ∈ fp, b < L0 := fun b hb => by
    obtain ⟨o, e, _⟩ := Wk.obj _ _ stC b hb
    rw [← eD]
    exact Heap.lt_size e
  have neL : ∀ b ∈ fp, b ≠ L0 := fun b hb => Nat.ne_of_lt (sz b hb)
  -- the state with the new list
  have ID : Inv X pr σ (upd G2 L0 (.lst [])) ({ sC with heap := sC.heap.push { cls := .type "list", data := .seq ([] : List Value).toArray } } : Shared) := by
    refine IC.laid (t' := sC.toks) (fun b o e => Heap.get?_push_of_some _ e) (Nat.le_of_eq eD) ⟨Nat.zero_le _, [], 0, .nil, ?_⟩
    rw [← eD]
    exact Heap.get?_push_size _ rfl
  have kD : 1 ≤ ({ sC with heap := sC.heap.push { cls := .type "list", data := .seq ([] : List Value).toArray } } : Shared).toks := kC
  have szD : ({ sC with heap := sC.heap.push { cls := .type "list", data := .seq ([] : List Value).toArray } } : Shared).heap.objs.size = L0 + 1 := by
    rw [← eD]
    exact Heap.size_push _ _
  have stD : tn 0 ({ sC with heap := sC.heap.push { cls := .type "list", data := .seq ([] : List Value).toArray } } : Shared).heap := Wk.keep _ _ _ stC fun b _ o e => Heap.get?_push_of_some _ e
  generalize ({ sC with heap := sC.heap.push { cls := .type "list", data := .seq ([] : List Value).toArray } } : Shared) = sD at ID kD szD stD ⊢
  have fpD : ∀ b ∈ fp, FpOk X pr (upd G2 L0 (.lst [])) b ∧ b < sD.heap.objs.size := fun b hb => by
    have h1 := fpC b hb
    exact ⟨⟨by rw [upd_ne (neL b hb)]; exact h1.1, h1.2⟩, by rw [szD]; exact Nat.lt_succ_of_lt (sz b hb)⟩
  have noneD : ∀ b ∈ fp, (upd G2 L0 (.lst [])) b = none := fun b hb => (fpD b hb).1.1
  generalize hG3 : upd G2 L0 (.lst []) = G3 at ID fpD noneD w0
  have IE := block_start ID bk nd fpD
  have pg := gs sD G3 sD.heap.objs.size (cellsFrom (sD.heap.objs.size + 1) sc.names (cloFrom X.env.cells sc.names [])) fp
  have pe := es sD G3 sD.heap.objs.size (cellsFrom (sD.heap.objs.size + 1) sc.names (cloFrom X.env.cells sc.names [])) fp
  generalize hce : compEnvC sc (cellsFrom (sD.heap.objs.size + 1) sc.names (cloFrom X.env.cells sc.names [])) sD.heap.objs.size X.env = ce at IE pg pe
  have cl0 : ce.locals = sD.heap.objs.size := by rw [← hce]; rfl
  have stE : tn 0 ({ sD with heap := pushCells (sD.heap.push { cls := .type "dict", data := .dict #[] }) sc.names } : Shared).heap := Wk.keep _ _ _ stD fun b _ o e => pushCells_keeps _ _ _ _ (Heap.get?_push_of_some _ e)
  have kE : 1 ≤ ({ sD with heap := pushCells (sD.heap.push { cls := .type "dict", data := .dict #[] }) sc.names } : Shared).toks := kD
  show codeAny _ _ (.compStart (.ListComp elt [⟨tg, iter, [], 0⟩] sc pos) 0 (.ref it) (.ref L0) (compEnvC sc (cellsFrom (sD.heap.objs.size + 1) sc.names (cloFrom X.env.cells sc.names [])) sD.heap.objs.size X.env)) (compPost (model X.prog X.w) X.A X.xe use _ (.ref L0) sD.heap.objs.size) { sD with heap := pushCells (sD.heap.push { cls := .type "dict", data := .dict #[] }) sc.names }
  rw [hce]
  generalize ({ sD with heap := pushCells (sD.heap.push { cls := .type "dict", data := .dict #[] }) sc.names } : Shared) = sE at IE stE kE ⊢
  have still : ∀ {σ' : L2.St} {G : Hp} {s' : Shared}, Inv (X.blk sD G3 sc ce fp) [] σ' G s' → (∀ b ∈ fp, G b = none) → ∀ b ∈ fp, FpOk (X.blk sD G3 sc ce fp) [] G b := fun {σ' G s'} J hn b hb => by
    refine ⟨hn b hb, (J.ok.exf b hb).1, J.ok.exfs b hb, .inl hb, fun x c e => (J.ok.exf b hb).2 x c e, fun p hp => ?_⟩
    have : p ∈ ([] : List (Addr × Obj)) ++ [] := hp
    simp at this
  refine (fun lp => codeAny_compStart_list lp (Wk.self X.A 0 _ _ _ stE lp)) ?_
  refine compLoop_any (fun n s' => 1 ≤ s'.toks ∧ ∃ i G, Inv (X.blk sD G3 sc ce fp) [] (wipe σ (own.map (·.2))) G s' ∧ tn i s'.heap ∧ (∀ b ∈ fp, G b = none) ∧ W i n G) ?_ m0 ⟨kE, 0, G3, IE, stE, noneD, w0⟩
  rintro n s5 ⟨k5, i, G5, I5, st5, n5, w5⟩
  rcases turn i n G5 w5 with ⟨hstop, qq⟩ | ⟨hgo, Nx, hNx, step⟩
  · refine thnK k5 (Wk.done (X.blk sD G3 sc ce fp) rfl rfl rfl calm i [] s5 _ G5 (fun _ _ => False) I5 (still I5 n5) st5 hstop) fun r s6 k6 z => ?_
    obtain ⟨rfl, I6⟩ := z
    have I7 : Inv X pr σ G5 s6 := ID.call' (ch := fp) I6.os I6.base I6.hok I6.bare fun b hb => by
      have h1 := (fpD b hb).1.2
      exact ⟨h1.2.2.1, h1.1, h1.2.2.2.1, h1.2.2.2.2⟩
    have nC : G5 sD.heap.objs.size = none := by rw [← cl0]; exact I6.free
    obtain ⟨m, hm, _⟩ := I6.loc
    have hm : s6.heap.Ns ce.locals m := hm
    rw [cl0] at hm
    exact back L0 _ s6 m G5 I7 qq hm (ID.fpOk (Nat.le_refl _) nC)
  · refine thnK k5 (Wk.item (X.blk sD G3 sc ce fp) rfl rfl rfl calm i [] s5 _ G5 (fun _ _ => False) I5 (still I5 n5) st5 hgo) fun r s6 k6 z => ?_
    obtain ⟨u, rfl, h6⟩ := z
    refine thnK k6 h6 fun _ s7 k7 z => ?_
    obtain ⟨x, G7, I7, r7, y7, st7, n7⟩ := z
    refine thnK k7 (pg.run _ s7 _ G7 x u _ (I7.pinned (still I7 n7) (Wk.obj _ _ st7)) r7 (step x G7 y7)) fun _ s8 k8 z => ?_
    obtain ⟨σ8, G8, I8, w8, q8⟩ := z
    refine wpAny_tests_nil ?_
    show wpAny _ _ _ _ _ _
    refine thnK k8 (pe _ s8 σ8 G8 _ k8 I8 q8) fun z s10 k10 hz => ?_
    obtain ⟨yv, G10, I10, r10, acc, hD10, hz10, nx⟩ := hz
    refine PySem.wpAny_with_toks k10 (app_ok (X := X.blk sD G3 sc ce fp) I10 hD10 hz10 r10 fun s11 I11 k11 => ?_)
    obtain ⟨m', hm, w'⟩ := hNx _ nx
    have keepP : ∀ b ∈ fp, ∀ o, s7.heap.get? b = some o → s11.heap.get? b = some o ∧ (upd G10 L0 (.lst (acc ++ [yv]))) b = none := fun b hb o e => by
      have := I11.pin (b, o) (List.mem_append_right _ (List.mem_append_right _ (mem_pinsAt hb e)))
      exact ⟨this.1, this.2.1⟩
    have hl : (wipe σ (own.map (·.2))).length = σ8.length := by rw [← w8, wipe_length]
    refine ⟨m', hm, k11, i + 1, _, (I11.unpinned (pins := [])).weak hl (fun j v e => ?_), Wk.keep _ _ _ st7 fun b hb o e => (keepP b hb o e).1, fun b hb => ?_, w'⟩
    · rw [← w8] at e
      exact (wipe_some e).1
    · obtain ⟨o, e, _⟩ := Wk.obj _ _ st7 b hb
      exact (keepP b hb o e).2
theorem pet_lc {elt tg iter : Expr} {sc : Scope} {own : List (Str × Nat)} {pos : Pos} {wi : TI} {g : TG} {te : TE} (calm : X.calm = true) (nd : X.N.Nodup) (pi : PI X tg iter wi) (bk : BlkOk X.N X.env.scope sc own)
    (gs : ∀ (s : Shared) (H : Hp) (C : Addr) (cl : List (Str × Addr)) (fp : List Addr), PG (X.blk s H sc (compEnvC sc cl C X.env) fp) tg g)
    (es : ∀ (s : Shared) (H : Hp) (C : Addr) (cl : List (Str × Addr)) (fp : List Addr), PET (X.blk s H sc (compEnvC sc cl C X.env) fp) elt te) (fs : ∀ x, foldedSetIterable iter X.env x = pure x := by intro _; rfl) :
    PET X (.ListComp elt [⟨tg, iter, [], 0⟩] sc pos) (tLc wi g tYes te (own.map (·.2))) := by
  intro pr sA σ G0 Q hk0 IA ask
  rw [eval_ListComp]
  refine lcK calm nd pi bk gs es fs hk0 IA ask fun L C s' m G J more hm fp => ⟨m, hm, fun h'' sb => ?_⟩
  obtain ⟨f0, f1, f2, f3, f4, f5⟩ := fp
  exact ⟨.ref L, G, J.turned (t' := s'.toks) (fun b o hb e => (sb.2 b hb).trans e) f0 f1 f3 f4 f5, rfl, more⟩
/-- a local name = such a comprehension on one line -/
theorem pst_setLc {i : Nat} {y : Str} {py : Pos} {elt tg iter : Expr} {sc : Scope} {own : List (Str × Nat)} {pos spos : Pos} {wi : TI} {g : TG} {te : TE} (calm : X.calm = true) (nd : X.N.Nodup) (hy : X.N[i]? = some y) (hyl : X.env.scope.names.lookup y = some .local)
    (hsw : swapsWith (.ListComp elt [⟨tg, iter, [], 0⟩] sc pos) (some (.Name y py)) spos.line X.env = pure true) (pi : PI X tg iter wi) (bk : BlkOk X.N X.env.scope sc own)
    (gs : ∀ (s : Shared) (H : Hp) (C : Addr) (cl : List (Str × Addr)) (fp : List Addr), PG (X.blk s H sc (compEnvC sc cl C X.env) fp) tg g)
    (es : ∀ (s : Shared) (H : Hp) (C : Addr) (cl : List (Str × Addr)) (fp : List Addr), PET (X.blk s H sc (compEnvC sc cl C X.env) fp) elt te) (fs : ∀ x, foldedSetIterable iter X.env x = pure x := by intro _; rfl) :
    PST X (.Assign [.Name y py] (.ListComp elt [⟨tg, iter, [], 0⟩] sc pos) spos) (tAsg (tLc wi g tYes te (own.map (·.2))) (gName i)) := by
  intro pr sA σ G0 D hk0 IA ask
  rw [exec_Assign_Name_used _ _ _ _ hsw]
  refine wpAny_bind (wpAny_standAt (wpAny_bind ?_))
  show wpAny _ X.A (do let _ ← comprehension (.ListComp elt [⟨tg, iter, [], 0⟩] sc pos) sc X.env (firstIterPos [⟨tg, iter, [], 0⟩] pos) (newList []) false (eval iter X.env) (some (assign (.Name y py) X.env))) _ _ sA
  have ask' : tLc wi g tYes te (own.map (·.2)) σ G0 (fun x H1 => gName i x σ H1 D.nx) := ask
  refine wpAny_bind (thn (lcK (Qf := fun _ s' => SP X pr D .next s') calm nd pi bk gs es fs hk0 IA ask' fun L C s' m G J more hm fp => ?_) fun _ s' hq => wpAny_pure (wpAny_pure hq))
  show wpAny _ _ (assign (.Name y py) X.env (.ref L)) _ _ _
  refine wpAny_assign_Name (store_ok2 (v := V.ref L) J nd hy (.inl hyl) rfl (fun s2 I2 la => ?_) (.inr hyl))
  obtain ⟨b0, sb, hb0⟩ := la
  obtain ⟨f0, f1, f2, f3, f4, f5⟩ := fp
  have hne : C ≠ b0 := fun e => hb0.elim (fun z => f1 (e.trans z)) fun z => f4 y b0 z e.symm
  exact ⟨m, hm.sameBut sb hne, fun h3 sb3 => ⟨_, G, I2.turned (t' := s2.toks) (fun b o hb e => (sb3.2 b hb).trans e) f0 f1 f3 f4 f5, more⟩⟩
theorem pet_tu {es : List Expr} {ta : TA} {k0} {pos : Pos} (hp : PAT X es ta) : PET X (.Tuple es k0 pos) (tTup ta) := by
  intro pr sA σ G Q hk IA ask
  refine wpAny_Tuple_spliced (thn (hp pos pr sA σ G _ hk IA ask) fun us sB hB => ?_)
  obtain ⟨xs, G1, IB, rr, zz, more⟩ := hB
  refine ⟨by rw [← rr.length]; exact zz, ?_⟩
  refine ⟨.ref sB.heap.objs.size, upd G1 sB.heap.objs.size (.tup xs), IB.laid (t' := sB.toks) (fun b u e => Heap.get?_push_of_some _ e) (Nat.le_refl _) ?_, rfl, more _ (IB.hok.fresh (Nat.le_refl _))⟩
  exact ⟨zz, us, rr, ⟨_, Heap.get?_push_size _ rfl, rfl, _, rfl⟩⟩
theorem pet_g {x : Str} {k : Nat} {ps : List Str} {sp : Sp} {e : Expr} {es : List Expr} {t : TA} {p pos : Pos} (F : Ok1 X.prog X.w X.K X.mg X.base k x ps sp) (hr : Room k X.A) (ha : PAT X (e :: es) t) (hg : Gl X x := by rfl) (hdb : (x == ("__debug__" : Str)) = false := by decide)
    (he : starEach (e :: es) X.env = (false, eval e X.env) :: starEach es X.env := by rfl) (hpl : (backTo pos (starEach es X.env)).any (·.1) = false := by rfl) : PET X (.Call (.Name x p) (e :: es) [] pos) (tCall sp [] E0 t) := by
  obtain ⟨⟨fd, h1, h2⟩, gl, kp⟩ := F
  intro pr sA σ G Q hk IA ask
  refine wpAny_Call_Name_kw (ld_glob IA hg gl ?_ hdb)
  refine PySem.W.callWith_K (h₀ := X.base) IA.ok.mod.kin kp (thn (ha pos pr sA σ G _ hk IA ask) fun us sB hB => ?_) he hpl
  obtain ⟨vs, G1, IB, rr, more⟩ := hB
  exact ⟨IB.kIn, run_fn h1 hr h2 .nil pass0 IB rr more⟩
theorem pst_set {i : Nat} {x : Str} {e : Expr} {te : TE} {pos pos' : Pos} (hN : X.N.Nodup) (hi : X.N[i]? = some x) (hx : Loc X.env.scope x) (he : PET X e te) (hs : swapsWith e (some (.Name x pos')) pos.line X.env = pure false := by rfl) (hf : X.fn x = true ∨ X.env.scope.names.lookup x = some .local := by first | exact .inl rfl | exact .inr rfl | assumption) :
    PST X (.Assign [.Name x pos'] e pos) (tAsg te (gName i)) := by
  intro pr sA σ G D hk IA ask
  refine wpAny_Assign_Name (thn (he pr sA σ G _ hk IA ask) fun v sB hB => ?_) hs
  obtain ⟨y, G1, IB, rr, more⟩ := hB
  exact store_ok IB hN hi hx rr (fun s2 I2 => ⟨_, G1, I2, more⟩) hf
theorem psst_nox {st : List Stmt} {t : TS} (h : PSsT X.nox st t) : PSsT X st t := fun pr sA σ G D hk IA ask => wpAny_mono (h pr sA σ G D hk (IA.wish _) ask) (fun _ _ q => q.unwish) fun _ _ z => z.elim
end
/-- a def whose body wants a token out (no cells) -/
theorem Gf.mkT {P : Program} {w : World} {K : PySem.W.Frag} {mg : Str → Option Value} {base : Heap} {x : Str} {st : Stmt} {N ps : List Str} {k : Nat} {sp : Sp} (G : Gf K mg x st) (S : FnScope N ps (defScope st)) (hb : BindOk x st ps) (hnc : ∀ y ∈ (defScope st).names, y.2 ≠ .cell) (hps : 1 ≤ ps.length) (len : ∀ vs H Q E, sp vs H Q E → vs.length = ps.length)
    (body : ∀ (cdv : Value) (A : Around) (outer : List Env) (s : Shared) (H : Hp) (vs : List V) (Q : VK) (E : XK), Room k (A.deeper (envOfC x (defScope st) s.heap.objs.size (ga K x) cdv)) → sp vs H Q E →
      ∃ t, PSsT (cxOf CX0 P w K mg base N x (defScope st) (ga K x) cdv A outer s H E).nox (defBody st) t ∧ t { nx := fun _ H' => Q .non H', rt := Q } (start N vs) H) : Ok1 P w K mg base (k + 1) x ps sp := by
  obtain ⟨gl, fd, F⟩ := G
  have hbd := F.bindsN hb
  have hkp := F.kp
  obtain ⟨oc, od, dV, kV, doc, pm, an, cdv, ct, osl, e0, lk, hcd, _, _⟩ := F.ex
  refine ⟨⟨fd, ?_, hbd⟩, gl, hkp⟩
  subst e0
  refine fn_ofT lk hcd S hnc hps len fun A outer s H vs Q E hr hs => ?_
  obtain ⟨t, h1, h2⟩ := body cdv A outer s H vs Q E hr hs
  exact ⟨t, psst_nox h1, h2⟩
end K

set_option Elab.async false
set_option linter.all false
set_option maxRecDepth 100000
set_option maxHeartbeats 4000000
/-! KL13: the law's reading of a line. -/
namespace K
open PySem PySem.Spec PyProof.Rows L2 He TL LamX CwR
theorem repl_not {c : Bool × List Nm} (h : TestOk c.2) : Txt.replace (mk (condL c)) (Str.ofString "not ") (Str.ofString "") = mk (appl c.2 [120]) := by
  refine ext_tl ?_
  show (Txt.replace (mk (condL c)) (Str.ofString "not ") (Str.ofString "")).cps.toList = _
  rw [PySem.StrLaws.replace_list (by decide +kernel)]
  show PySem.StrLaws.replL (tl (Str.ofString "not ")) (tl (Str.ofString "")) (condL c) = appl c.2 [120]
  rw [tl_lit, tl_lit, show L "not " = [110, 111, 116, 32] by decide +kernel, show L "" = [] by decide +kernel]
  have hf : (32 : Nat) ∉ appl c.2 [120] := appl_free h.1 (by omega)
  have hn : PySem.StrLaws.replL [110, 111, 116, 32] [] (appl c.2 [120]) = appl c.2 [120] := by
    have := PySem.StrLaws.repl_none (y := [110, 111, 116, 32]) (z := []) (L := appl c.2 [120]) (a := 0) (fun k _ e => hf (by
      have : (32 : Nat) ∈ ((appl c.2 [120]).drop k).take 4 := by rw [show (4 : Nat) = ([110, 111, 116, 32] : List Nat).length from rfl, e]; decide
      exact List.mem_of_mem_drop (List.mem_of_mem_take this)))
    rw [List.drop_zero] at this
    exact this
  obtain ⟨b, t⟩ := c
  cases b with
  | false => exact hn
  | true =>
    have e : condL (true, t) = 110 :: ([111, 116, 32] ++ appl t [120]) := by
      show L "not " ++ appl t [120] = _
      rw [show L "not " = [110, 111, 116, 32] by decide +kernel]
      rfl
    rw [e, PySem.StrLaws.replL_hit (by simp) (by rfl)]
    exact hn
theorem comp_has {w : List Nm} {cs : List (Bool × List Nm)} (now : Bool) {f : Bool → SgL} (hf : f ∈ compSg w cs) (hi : ∀ a b, sgNames (f a) = sgNames (f b)) {n : Nm} (hn : n ∈ sgNames (f true)) : n ∈ namesOf (bear now (compSg w cs)) := by
  obtain ⟨i, hl, e⟩ := List.getElem_of_mem hf
  have h1 : (compSg w cs)[i]? = some f := by rw [List.getElem?_eq_getElem hl, e]
  have h2 := bear_at now (compSg w cs) i
  rw [h1] at h2
  have h3 := List.mem_of_getElem? h2
  exact List.mem_flatten.mpr ⟨_, List.mem_map.mpr ⟨_, h3, rfl⟩, by rw [hi _ true]; exact hn⟩
theorem comp_has_c {w : List Nm} {cs : List (Bool × List Nm)} (now : Bool) {c : Bool × List Nm} (hc : c ∈ cs) {n : Nm} (hn : n ∈ c.2) : n ∈ namesOf (bear now (compSg w cs)) :=
  comp_has now (f := fun b => Sg.ask (if c.1 = true then Kd.drop else Kd.keep) c.2 b) (List.mem_append_left _ (List.mem_map.mpr ⟨c, hc, rfl⟩)) (fun _ _ => rfl) hn
theorem comp_has_w {w : List Nm} {cs : List (Bool × List Nm)} (now : Bool) {n : Nm} (hn : n ∈ w) : n ∈ namesOf (bear now (compSg w cs)) :=
  comp_has now (f := fun b => Sg.each w b) (List.mem_append_right _ (by rw [if_neg fun z => by rw [z.1] at hn; cases hn]; exact List.mem_singleton.mpr rfl)) (fun _ _ => rfl) hn
theorem tr_items {V E S : Type} (st : Step S V E) : ∀ (items : List (List E × V)) (q : S) (acc fin : List E), (tr st q acc items fin).items.length ≤ items.length
  | [], q, acc, fin => by rw [tr_nil]; exact Nat.le_refl _
  | (l, v) :: rest, q, acc, fin => by
    obtain ⟨lg, r, q', ov, e⟩ : ∃ lg r q' ov, st q v = (lg, r, q', ov) := ⟨_, _, _, _, rfl⟩
    cases r with
    | none =>
      rw [tr_none e]
      split
      · exact Nat.zero_le _
      · exact Nat.le_trans (tr_items st rest q' _ fin) (Nat.le_succ _)
    | some v1 =>
      rw [tr_some e]
      show (if ov = true then Strm.nil else tr st q' [] rest fin).items.length + 1 ≤ rest.length + 1
      split
      · exact Nat.succ_le_succ (Nat.zero_le _)
      · exact Nat.succ_le_succ (tr_items st rest q' _ fin)
theorem clS_items (F : Nm → Act) (st : Strm V Ev) (c : Cl) : (clS F st c).items.length ≤ st.items.length := by
  have f : ∀ n i, (firstS n i st).items.length ≤ st.items.length := fun n i => by
    unfold firstS
    split
    · exact Nat.zero_le _
    · exact tr_items _ _ _ _ _
  cases c with
  | call k g => cases k <;> exact tr_items _ _ _ _ _
  | lam x t => cases x <;> exact tr_items _ _ _ _ _
  | first n => exact f n 0
  | skip n => exact tr_items _ _ _ _ _
  | every k r => exact tr_items _ _ _ _ _
theorem SrcAt.up {K : PySem.W.Frag} {F : Nm → Act} {ns : List Nm} {H : Hp} {d : Nat} {a : Addr} {own rd : List Addr} {p : Nat} {st : Strm V Ev} (h : SrcAt K F ns H d a own rd p st) : SrcAt K F ns H (d + 1) a own rd p st := by
  induction h with
  | lst h hl ne ok => exact .lst h hl ne ok
  | rows h ht hn hts hw s' a1 a2 c1 c2 ih => exact .rows h ht hn hts hw ih a1 a2 c1 c2
  | takew h ht hts s' a1 a2 c1 c2 ih => exact .takew h ht hts ih a1 a2 c1 c2
  | dropw h ht hts s' a1 a2 c1 c2 ih => exact .dropw h ht hts ih a1 a2 c1 c2
  | first h s' a1 a2 ih => exact .first h ih a1 a2
  | slice h hk s' a1 a2 ih => exact .slice h hk ih a1 a2
section
variable {P : Program} {w : World} {K : PySem.W.Frag} {mg : Str → Option Value} {base : Heap}
def spLineDone (K : PySem.W.Frag) (d : Nat) : Sp := fun vs H Q _ => ∃ (l : Ln) (pl m a : Addr) (F : Nm → Act) (ns : List Nm) (own rd : List Addr) (p : Nat) (st : Strm V Ev) (es : List Ev), vs = [.ref pl, .str (mk (lnL l)), .ref a] ∧ PlayV H pl m F ns ∧ LogV K H m es ∧ SrcAt K F ns H d a own rd p st ∧ LnOk l ∧ (∀ n ∈ namesOf (lnSg l), n ∈ ns) ∧
  m ∉ own ∧ m ∉ rd ∧ pl ∉ own ∧ es.length + p + 16 * st.items.length ≤ 9000 ∧ st.items.length ≤ 100 ∧
  ∀ H' x own' rd' p', Kp (fun b => b = m ∨ b ∈ own) H H' → LogV K H' m (es ++ (lineS F st l).2) → SrcAt K F ns H' (d + 1) x own' rd' p' (lineS F st l).1 → m ∉ own' → m ∉ rd' → pl ∉ own' → (∀ y ∈ own', y ∈ own ∨ H y = none) → (lineS F st l).2.length + p' ≤ p + 16 * st.items.length → Q (.ref x) H'
def spLineD (K : PySem.W.Frag) (D : Nat) : Sp := fun vs H Q E => ∃ d, d ≤ D ∧ spLineDone K d vs H Q E
theorem ok_law_line_done {D : Nat} (T : Tx K mg w) : Ok1 P w K mg base (10 + 2 * D + 1) "_law_line_done" ["_law_play_here", "_law_line_here", "_law_source"] (spLineD K D) := by
  have nd := sc_law_line_done.nd
  refine T.d_law_line_done.mkT (k := 10 + 2 * D) sc_law_line_done bn_law_line_done (by decide +kernel) (by decide) (fun vs H Q E h => ?_) (fun cdv A outer s H vs Q E hr h => ?_)
  · obtain ⟨_, _, l, pl, m, a, F, ns, own, rd, p, st, es, rfl, _⟩ := h
    rfl
  · obtain ⟨d, hdD, l, pl, m, a, F, ns, own, rd, p, st, es, rfl, hP, hL, hS, hl, hns, m1, m2, m3, hz, hit, q⟩ := h
    have hrA : Room (8 + 2 * (d + 1)) _ := hr.mono (by omega)
    have hr2 : Room 2 _ := hr.mono (by omega)
    have hr1 : Room 1 _ := hr.mono (by omega)
    refine ⟨_, psst_cons (PST.of (ps_if (pt_cmpR op_eq (pe_slice sl_str (pv 1) po_none (po_some pe_int)) pe_str (nomark _)) (pss_cons (ps_par (i := 3) (j := 4) (by rfl) nd rfl rfl (by decide) rfl rfl (pa_cons (pe_g (ok_law_all (d := d + 1) T) hrA (pa_cons (pv 0) (pa_cons (pv 2) pa_nil))) (pa_cons (pe_slice sl_str (pv 1) (po_some pe_int) po_none) pa_nil)) (by rfl))
      (pss_cons (ps_if (pt_cmpR op_eq (pe_slice sl_str (pv 4) po_none (po_some pe_int)) pe_str (nomark _)) (pss_one (ps_set (i := 3) nd rfl (.inl rfl) (pe_slice sl_list (pv 3) (po_some (pe_un un_neg (pe_callTy call_int_str (by rfl) T.z_int bt_int (pa_cons (pe_ix ix_str (pv 4) pe_int (fun _ _ => rfl)) pa_nil)))) po_none))) (pss_one (ps_if (pt_cmpR op_eq (pe_slice sl_str (pv 4) po_none (po_some pe_int)) pe_str (nomark _)) (pss_one (ps_set (i := 3) nd rfl (.inl rfl) (pe_slice sl_list (pv 3) po_none (po_some (pe_un un_neg (pe_callTy call_int_str (by rfl) T.z_int bt_int (pa_cons (pe_ix ix_str (pv 4) pe_int (fun _ _ => rfl)) pa_nil))))))) pss_nil)))
      (pss_one (ps_ret (pe_lst (pa_cons pe_str (pa_cons (pe_ifExp (pt_cmpR op_eq (pv 4) pe_str (nomark _)) (pe_revL (pv 3)) (pv 3)) (pa_cons pe_int pa_nil)))))))) pss_nil))
      (psst_cons (pst_if (pt_cmpR op_in_seq (pe_ix ix_str (pv 1) pe_int (fun _ _ => rfl)) (pe_lst (pa_cons pe_str (pa_cons pe_str pa_nil))) (by rfl)) (psst_cons (PST.of (ps_set (i := 5) nd rfl (.inl rfl) (pe_split (pe_slice sl_str (pv 1) (po_some pe_int) (po_some (pe_un un_neg pe_int))) pe_str)))
      (psst_cons (pst_setLc (i := 6) (own := [("_law_piece", 8)]) (g := gName 8) rfl nd rfl (by rfl) (sw_true rfl (by rfl) (by rfl) (by rfl)) (pi_list (pe_slice sl_list (pv 5) (po_some pe_int) po_none)) (blkOk_by (N := ["_law_play_here", "_law_line_here", "_law_source", "_law_found", "_law_tail", "_law_pieces", "_law_tests_here", "_law_begun", "_law_piece"]) (sc := defScope s_law_line_done) (by decide +kernel)) (fun _ _ _ _ _ => pg_name (i := 8) nd rfl (Or.inl rfl)) (fun _ _ _ _ _ => (pet_tu (pat_cons (pet_g (ok_law_names_of T) hr1 (pat_cons (pet_replC (pv 8)) pat_nil)) (pat_cons (PET.of (pe_cmpR op_ne (pe_slice sl_str (pv 8) po_none (po_some pe_int)) pe_str (nomark _))) pat_nil)))))
      (psst_cons (PST.of (ps_set (i := 7) nd rfl (.inl rfl) (pe_lst (pa_cons pe_str (pa_cons (pv 2) (pa_cons (pv 6) (pa_cons (pe_g (ok_law_names_of T) hr1 (pa_cons (pe_ix ix_list (pv 5) pe_int (fun _ _ => rfl)) pa_nil)) pa_nil)))))))
      (psst_one (PST.of (ps_ret (pe_ifExp (pt_cmpR op_eq (pe_ix ix_str (pv 1) pe_int (fun _ _ => rfl)) pe_str (nomark _)) (pe_lst (pa_cons pe_str (pa_cons (pe_g (ok_law_all (d := d + 1) T) hrA (pa_cons (pv 0) (pa_cons (pv 7) pa_nil))) (pa_cons pe_int pa_nil)))) (pv 7)))))))) (PSsT.of pss_nil))
      (psst_cons (PST.of (ps_if (pt_cmpR op_eq (pe_slice sl_str (pv 1) (po_some pe_int) (po_some pe_int)) pe_str (nomark _)) (pss_one (ps_ret (pe_lst (pa_cons pe_str (pa_cons (pe_g (ok_law_all (d := d + 1) T) hrA (pa_cons (pv 0) (pa_cons (pe_g (ok_law_call_begun (d := d) T) hr2 (pa_cons (pe_slice sl_str (pv 1) (po_some pe_int) (po_some (pe_un un_neg pe_int))) (pa_cons (pv 2) pa_nil))) pa_nil))) (pa_cons pe_int pa_nil)))))) pss_nil))
      (psst_one (PST.of (ps_ret (pe_g (ok_law_call_begun (d := d) T) hr2 (pa_cons (pe_slice sl_str (pv 1) (po_some pe_int) po_none) (pa_cons (pv 2) pa_nil)))))))), ?_⟩
    have hll := lnL_len hl
    have hlz : (mk (lnL l)).length ≤ sizeLine := small_line (by rw [len_mk]; omega)
    have hown := hS.own_lst.1
    obtain ⟨ysm, hm, hym⟩ := id hL
    obtain ⟨dF, hpl, hplm, hFn⟩ := id hP
    have npl : ¬ (pl = m ∨ pl ∈ own) := fun z => z.elim hplm m3
    have fin : ∀ H1 H2 g2 zs lg, Kp (fun b => b = m ∨ b ∈ own) H H1 → LogV K H1 m (es ++ lg) → Same H1 H2 → H2 g2 = some (.lst zs) → g2 ≠ m → (∀ v ∈ zs, VOk v) → lineS F st l = (Strm.lst zs, lg) → lg.length ≤ p + 16 * st.items.length → ∀ x, H2 x = none → Q (.ref x) (upd H2 x (.lst [.str "list", .ref g2, .int 0])) := fun H1 H2 g2 zs lg k1 hL1 s2 hg hgm hok el hlg x nx => by
      have s3 := same_new (o := .lst [.str "list", .ref g2, .int 0]) nx
      have k3 := (k1.trans (Same.kp s2)).trans (Same.kp s3)
      have hL2 := hL1.keep (SmL.of s2) fun o e => s2 _ _ e
      have hxm : m ≠ x := fun e => by obtain ⟨z, h, _⟩ := hL2; rw [e, nx] at h; cases h
      have hxp : pl ≠ x := fun e => by
        have := s2 _ _ (k1 _ _ hpl (.inl npl))
        rw [e, nx] at this; cases this
      have hgx : g2 ≠ x := fun e => by rw [e, nx] at hg; cases hg
      refine q _ x [x] [g2] 0 k3 (by rw [el]; exact hL2.keep (SmL.of s3) fun o e => s3 _ _ e) (by rw [el]; exact .lst (i := 0) (xs := zs) upd_same (s3 _ _ hg) hgx hok) (fun e => hxm (List.mem_singleton.mp e)) (fun e => hgm (List.mem_singleton.mp e).symm) (fun e => hxp (List.mem_singleton.mp e)) (fun y hy => by
        rw [List.mem_singleton.mp hy]
        by_cases hxo : x ∈ own
        · exact .inl hxo
        · right
          cases e : H x with
          | none => rfl
          | some o =>
            have := s2 _ _ (k1 _ _ e (.inl fun z => z.elim (fun e => hxm e.symm) hxo))
            rw [nx] at this; cases this) ?_
      rw [el]
      exact hlg
    have hst0 : st.run.2.length ≤ p + 16 * st.items.length := by have := hS.total; omega
    have gm : ∀ {H1 es1} {g : Addr}, LogV K H1 m es1 → H1 g = none → g ≠ m := fun hl ng e => by
      obtain ⟨z, h, _⟩ := hl
      rw [e, h] at ng; cases ng
    refine ⟨_, rfl, 17, rfl, mk (lnL l), rfl, hlz, rfl, _, rfl, ?_⟩
    have e17 : cutS (mk (lnL l)) none (some (17 : Int)) = mk ((lnL l).take 17) := cut_pre _ 17
    have beg : ∀ (H1 : Hp) (own' rd' : List Addr), Same H H1 → (∀ y ∈ own', y ∈ own ∨ H y = none) → (∀ y ∈ rd', y ∈ rd ∨ H y = none) → PlayV H1 pl m F ns ∧ LogV K H1 m es ∧ m ∉ own' ∧ m ∉ rd' ∧ pl ∉ own' ∧ ∀ H2, Kp (fun b => b = m ∨ b ∈ own') H1 H2 → Kp (fun b => b = m ∨ b ∈ own) H H2 := fun H1 own' rd' s1 ho hrd => by
      refine ⟨hP.keep (SmL.of s1) fun o e => s1 _ _ e, hL.keep (SmL.of s1) fun o e => s1 _ _ e, fun z => ?_, fun z => ?_, fun z => ?_, fun H2 k b o e n => k b o (s1 _ _ e) (n.imp (fun y z => y (z.imp id fun w => (ho b w).resolve_right fun z2 => by rw [e] at z2; cases z2)) id)⟩
      · exact (ho m z).elim m1 fun z2 => by rw [hm] at z2; cases z2
      · exact (hrd m z).elim m2 fun z2 => by rw [hm] at z2; cases z2
      · exact (ho pl z).elim m3 fun z2 => by rw [hpl] at z2; cases z2
    have er : L "rows = " = [114, 111, 119, 115, 32, 61, 32] := by decide +kernel
    have e17L : L "rows = list(rows)" = [114, 111, 119, 115, 32, 61, 32, 108, 105, 115, 116, 40, 114, 111, 119, 115, 41] := by decide +kernel
    have eL : (L "rows = list(rows)").length = 17 := by decide +kernel
    cases l with
    | all =>
      have et : lnL .all = L "rows = list(rows)" ++ tailL .all := by
        show L "rows = " ++ (L "list(rows)" ++ tailL .all) = _
        rw [← List.append_assoc]
        exact congrArg (· ++ tailL .all) (by decide +kernel)
      refine ifT (by rw [e17, et, ← eL, List.take_left, ← lit_mk]; exact decide_eq_true rfl) ?_
      refine ⟨_, rfl, _, rfl, pl, m, a, F, ns, own, rd, p, st, es, rfl, hP, hL, hS.up, m1, m2, m3, by omega, hit, fun H1 g k1 hL1 ng hg hok => ?_⟩
      refine ⟨_, rfl, 17, rfl, mk (lnL .all), rfl, hlz, _, _, rfl, ?_⟩
      have es17 : cutS (mk (lnL .all)) (some (17 : Int)) none = mk (tailL .all) := by
        have := cut_suf (lnL .all) 17
        rw [et, ← eL, List.drop_left, ← et, eL] at this
        exact this
      rw [es17]
      have hgm : g ≠ m := fun e => by rw [e, hm] at ng; cases ng
      have htz : (mk (tailL .all)).length ≤ sizeLine := small_line (by rw [len_mk]; have := congrArg List.length et; rw [List.length_append] at this; omega)
      refine ⟨_, rfl, 2, rfl, mk (tailL .all), rfl, htz, rfl, _, rfl, ?_⟩
      refine ifF (by rw [show cutS (mk (tailL .all)) none (some (2 : Int)) = mk ((tailL .all).take 2) from cut_pre _ 2]; exact decide_eq_false fun z => by injection z with z; rw [lit_mk] at z; have z := mk_inj z; revert z; decide +kernel) ?_
      refine ⟨_, rfl, 3, rfl, mk (tailL .all), rfl, htz, rfl, _, rfl, ?_⟩
      refine ifF (by rw [show cutS (mk (tailL .all)) none (some (3 : Int)) = mk ((tailL .all).take 3) from cut_pre _ 3]; exact decide_eq_false fun z => by injection z with z; rw [lit_mk] at z; have z := mk_inj z; revert z; decide +kernel) ?_
      refine ⟨_, rfl, rfl, _, rfl, ?_⟩
      refine ifF (by exact decide_eq_false fun z => by injection z with z; rw [lit_mk] at z; have z := mk_inj z; revert z; decide +kernel) ?_
      refine ⟨_, rfl, by show 3 ≤ sizeLine; decide, fun x nx => ?_⟩
      exact fin H1 H1 g _ _ k1 hL1 (fun _ _ e => e) hg hgm hok rfl hst0 x nx
    | turned =>
      have et : lnL .turned = L "rows = list(rows)" ++ tailL .turned := by
        show L "rows = " ++ (L "list(rows)" ++ tailL .turned) = _
        rw [← List.append_assoc]
        exact congrArg (· ++ tailL .turned) (by decide +kernel)
      refine ifT (by rw [e17, et, ← eL, List.take_left, ← lit_mk]; exact decide_eq_true rfl) ?_
      refine ⟨_, rfl, _, rfl, pl, m, a, F, ns, own, rd, p, st, es, rfl, hP, hL, hS.up, m1, m2, m3, by omega, hit, fun H1 g k1 hL1 ng hg hok => ?_⟩
      refine ⟨_, rfl, 17, rfl, mk (lnL .turned), rfl, hlz, _, _, rfl, ?_⟩
      have es17 : cutS (mk (lnL .turned)) (some (17 : Int)) none = mk (tailL .turned) := by
        have := cut_suf (lnL .turned) 17
        rw [et, ← eL, List.drop_left, ← et, eL] at this
        exact this
      rw [es17]
      have hgm : g ≠ m := fun e => by rw [e, hm] at ng; cases ng
      have htz : (mk (tailL .turned)).length ≤ sizeLine := small_line (by rw [len_mk]; have := congrArg List.length et; rw [List.length_append] at this; omega)
      refine ⟨_, rfl, 2, rfl, mk (tailL .turned), rfl, htz, rfl, _, rfl, ?_⟩
      refine ifF (by rw [show cutS (mk (tailL .turned)) none (some (2 : Int)) = mk ((tailL .turned).take 2) from cut_pre _ 2]; exact decide_eq_false fun z => by injection z with z; rw [lit_mk] at z; have z := mk_inj z; revert z; decide +kernel) ?_
      refine ⟨_, rfl, 3, rfl, mk (tailL .turned), rfl, htz, rfl, _, rfl, ?_⟩
      refine ifF (by rw [show cutS (mk (tailL .turned)) none (some (3 : Int)) = mk ((tailL .turned).take 3) from cut_pre _ 3]; exact decide_eq_false fun z => by injection z with z; rw [lit_mk] at z; have z := mk_inj z; revert z; decide +kernel) ?_
      refine ⟨_, rfl, rfl, _, rfl, ?_⟩
      refine ifT (by exact decide_eq_true (congrArg V.str (lit_mk _).symm)) ?_
      refine ⟨_, rfl, g, _, rfl, SqL.of hg, fun g2 ng2 => ⟨by show 3 ≤ sizeLine; decide, fun x nx => ?_⟩⟩
      exact fin H1 _ g2 _ _ k1 hL1 (same_new ng2) upd_same (gm hL1 ng2) (fun v hv => hok v (List.mem_reverse.mp hv)) rfl hst0 x nx
    | last n =>
      have et : lnL (.last n) = L "rows = list(rows)" ++ tailL (.last n) := by
        show L "rows = " ++ (L "list(rows)" ++ tailL (.last n)) = _
        rw [← List.append_assoc]
        exact congrArg (· ++ tailL (.last n)) (by decide +kernel)
      refine ifT (by rw [e17, et, ← eL, List.take_left, ← lit_mk]; exact decide_eq_true rfl) ?_
      refine ⟨_, rfl, _, rfl, pl, m, a, F, ns, own, rd, p, st, es, rfl, hP, hL, hS.up, m1, m2, m3, by omega, hit, fun H1 g k1 hL1 ng hg hok => ?_⟩
      refine ⟨_, rfl, 17, rfl, mk (lnL (.last n)), rfl, hlz, _, _, rfl, ?_⟩
      have es17 : cutS (mk (lnL (.last n))) (some (17 : Int)) none = mk (tailL (.last n)) := by
        have := cut_suf (lnL (.last n)) 17
        rw [et, ← eL, List.drop_left, ← et, eL] at this
        exact this
      rw [es17]
      have hgm : g ≠ m := fun e => by rw [e, hm] at ng; cases ng
      have htz : (mk (tailL (.last n))).length ≤ sizeLine := small_line (by rw [len_mk]; have := congrArg List.length et; rw [List.length_append] at this; omega)
      obtain ⟨h1, hn⟩ := hl
      have etl : tailL (.last n) = 91 :: 45 :: (48 + n) :: L ":]" := by
        show L "[-" ++ (dig n ++ L ":]") = _
        rw [show L "[-" = [91, 45] by decide +kernel]; rfl
      refine ⟨_, rfl, 2, rfl, mk (tailL (.last n)), rfl, htz, rfl, _, rfl, ?_⟩
      refine ifT (by rw [show cutS (mk (tailL (.last n))) none (some (2 : Int)) = mk ((tailL (.last n)).take 2) from cut_pre _ 2]; exact decide_eq_true (congrArg V.str (by rw [lit_mk]; exact congrArg mk (by rw [etl]; show [91, 45] = _; decide +kernel)))) ?_
      refine ⟨_, rfl, _, rfl, mk (tailL (.last n)), 2, 48 + n, rfl, rfl, htz, atI_nat (j := 2) (by rw [etl]; rfl), mk (dig n), n, rfl, int_dig hn, (by show 1 ≤ 640; decide), (n : Int), rfl, -(n : Int), rfl, g, _, rfl, SqL.of hg, fun g2 ng2 => ?_⟩
      have ec : cutV st.run.1 (some (-(n : Int))) none = (Sg.last n : SgL).cut st.run.1 := by
        unfold cutV
        rw [sIx_neg _ _ _ h1, HT.sIx_none]
        show _ = st.run.1.drop (st.run.1.length - n)
        exact List.take_of_length_le (by rw [List.length_drop]; omega)
      rw [ec]
      refine ⟨_, rfl, rfl, _, rfl, ?_⟩
      refine ifF (by exact decide_eq_false fun z => by injection z with z; rw [lit_mk] at z; have z := mk_inj z; rw [etl, show L "[::-1]" = [91, 58, 58, 45, 49, 93] by decide +kernel] at z; injection z with _ z; injection z with z _; cases z) ?_
      refine ⟨_, rfl, by show 3 ≤ sizeLine; decide, fun x nx => ?_⟩
      exact fin H1 _ g2 _ _ k1 hL1 (same_new ng2) upd_same (gm hL1 ng2) (fun v hv => hok v (List.mem_of_mem_drop hv)) rfl hst0 x nx
    | but n =>
      have et : lnL (.but n) = L "rows = list(rows)" ++ tailL (.but n) := by
        show L "rows = " ++ (L "list(rows)" ++ tailL (.but n)) = _
        rw [← List.append_assoc]
        exact congrArg (· ++ tailL (.but n)) (by decide +kernel)
      refine ifT (by rw [e17, et, ← eL, List.take_left, ← lit_mk]; exact decide_eq_true rfl) ?_
      refine ⟨_, rfl, _, rfl, pl, m, a, F, ns, own, rd, p, st, es, rfl, hP, hL, hS.up, m1, m2, m3, by omega, hit, fun H1 g k1 hL1 ng hg hok => ?_⟩
      refine ⟨_, rfl, 17, rfl, mk (lnL (.but n)), rfl, hlz, _, _, rfl, ?_⟩
      have es17 : cutS (mk (lnL (.but n))) (some (17 : Int)) none = mk (tailL (.but n)) := by
        have := cut_suf (lnL (.but n)) 17
        rw [et, ← eL, List.drop_left, ← et, eL] at this
        exact this
      rw [es17]
      have hgm : g ≠ m := fun e => by rw [e, hm] at ng; cases ng
      have htz : (mk (tailL (.but n))).length ≤ sizeLine := small_line (by rw [len_mk]; have := congrArg List.length et; rw [List.length_append] at this; omega)
      obtain ⟨h1, hn⟩ := hl
      have etl : tailL (.but n) = 91 :: 58 :: 45 :: (48 + n) :: L "]" := by
        show L "[:-" ++ (dig n ++ L "]") = _
        rw [show L "[:-" = [91, 58, 45] by decide +kernel]; rfl
      refine ⟨_, rfl, 2, rfl, mk (tailL (.but n)), rfl, htz, rfl, _, rfl, ?_⟩
      refine ifF (by rw [show cutS (mk (tailL (.but n))) none (some (2 : Int)) = mk ((tailL (.but n)).take 2) from cut_pre _ 2]; rw [etl]; exact decide_eq_false fun z => by injection z with z; rw [lit_mk] at z; have z := mk_inj z; rw [show L "[-" = [91, 45] by decide +kernel] at z; injection z with _ z; injection z with z _; cases z) ?_
      refine ⟨_, rfl, 3, rfl, mk (tailL (.but n)), rfl, htz, rfl, _, rfl, ?_⟩
      refine ifT (by rw [show cutS (mk (tailL (.but n))) none (some (3 : Int)) = mk ((tailL (.but n)).take 3) from cut_pre _ 3]; exact decide_eq_true (congrArg V.str (by rw [lit_mk]; exact congrArg mk (by rw [etl]; show [91, 58, 45] = _; decide +kernel)))) ?_
      refine ⟨_, rfl, _, rfl, mk (tailL (.but n)), 3, 48 + n, rfl, rfl, htz, atI_nat (j := 3) (by rw [etl]; rfl), mk (dig n), n, rfl, int_dig hn, (by show 1 ≤ 640; decide), (n : Int), rfl, -(n : Int), rfl, g, _, rfl, SqL.of hg, fun g2 ng2 => ?_⟩
      have ec : cutV st.run.1 none (some (-(n : Int))) = (Sg.but n : SgL).cut st.run.1 := by
        unfold cutV
        rw [sIx_neg _ _ _ h1, HT.sIx_none, List.drop_zero]
        rfl
      rw [ec]
      refine ⟨_, rfl, rfl, _, rfl, ?_⟩
      refine ifF (by exact decide_eq_false fun z => by injection z with z; rw [lit_mk] at z; have z := mk_inj z; rw [etl, show L "[::-1]" = [91, 58, 58, 45, 49, 93] by decide +kernel] at z; injection z with _ z; injection z with _ z; injection z with z _; cases z) ?_
      refine ⟨_, rfl, by show 3 ≤ sizeLine; decide, fun x nx => ?_⟩
      exact fin H1 _ g2 _ _ k1 hL1 (same_new ng2) upd_same (gm hL1 ng2) (fun v hv => hok v (List.mem_of_mem_take hv)) rfl hst0 x nx
    | cl c now =>
      have hnm : ∀ n ∈ clNames c, n ∈ ns := fun n hn => hns n (by
        have : sgNames (clSg now c) = clNames c := by
          cases c with
          | call k f => cases k <;> rfl
          | lam x t => cases x <;> rfl
          | _ => rfl
        show n ∈ ([clSg now c].map sgNames).flatten
        rw [List.map_singleton, List.flatten_singleton, this]
        exact hn)
      obtain ⟨x0, r0, hx0, hx1⟩ := clL_head c
      have cit := clS_items F st c
      cases now with
      | true =>
        have et : lnL (.cl c true) = L "rows = list(" ++ (clL c ++ [41]) := by
          show L "rows = " ++ (L "list(" ++ (clL c ++ [41])) = _
          rw [← List.append_assoc]
          exact congrArg (· ++ _) (by decide +kernel)
        have e12 : L "rows = list(" = [114, 111, 119, 115, 32, 61, 32, 108, 105, 115, 116, 40] := by decide +kernel
        refine ifF (by
          rw [e17]
          refine decide_eq_false fun z => ?_
          injection z with z
          rw [lit_mk] at z
          have z := mk_inj z
          rw [← eL] at z
          refine take_ne (i := 12) (by rw [eL]; decide) ?_ z
          rw [et, e12, hx0, e17L]
          show some x0 ≠ some 114
          intro z2
          injection z2 with z2
          omega) ?_
        refine ⟨_, rfl, mk (lnL (.cl c true)), 7, 108, rfl, rfl, hlz, atI_nat (j := 7) (by rw [et, e12]; rfl), by show 2 ≤ sizeLine; decide, fun t nt => ?_⟩
        refine ⟨t, _, rfl, .inl (SqL.of upd_same), rfl, rfl, _, rfl, ifF (by show inV (V.str (mk [108])) _ = false; decide +kernel) ?_⟩
        have st0 := same_new (o := .lst [V.str "[", .str "("]) nt
        refine ⟨_, rfl, 7, rfl, 12, rfl, mk (lnL (.cl c true)), rfl, hlz, rfl, _, rfl, ?_⟩
        refine ifT (by
          rw [show cutS (mk (lnL (.cl c true))) (some (7 : Int)) (some (12 : Int)) = mk (((lnL (.cl c true)).drop 7).take 5) from cut_lr _ 7 12]
          refine decide_eq_true (congrArg V.str ?_)
          rw [lit_mk, et, e12]
          exact congrArg mk (by show [108, 105, 115, 116, 40] = _; decide +kernel)) ?_
        have ein : cutS (mk (lnL (.cl c true))) (some (12 : Int)) (some (-1)) = mk (clL c) := by
          rw [et]
          exact cut_in (L "rows = list(") (clL c) [41] (k := 1) rfl (Nat.le_refl _) (j := 12) (by rw [e12]; rfl)
        refine ⟨_, rfl, _, rfl, 12, rfl, 1, rfl, -1, rfl, mk (lnL (.cl c true)), rfl, hlz, _, rfl, c, a, F, ns, own, rd, p, st, congrArg (fun z => [V.str z, V.ref a]) ein, hl, hnm, hS.keep (SmL.of st0) (fun b _ o e => st0 _ _ e), fun H1 x own' rd' p' s1 ho hrd hp hS1 => ?_⟩
        have hb0 : ∀ {y}, (upd H t (.lst [V.str "[", .str "("])) y = none → H y = none := fun {y} hy => by
          cases e : H y with
          | none => rfl
          | some o => rw [st0 _ _ e] at hy; cases hy
        have s01 := st0.trans s1
        obtain ⟨hP1, hL1, i1, i2, i3, kk⟩ := beg H1 own' rd' s01 (fun y hy => (ho y hy).imp id hb0) (fun y hy => (hrd y hy).imp id hb0)
        refine ⟨pl, m, x, F, ns, own', rd', p', clS F st c, es, rfl, hP1, hL1, hS1, i1, i2, i3, by omega, by omega, fun H2 g k2 hL2 ng hg hok => ⟨by show 3 ≤ sizeLine; decide, fun y ny => ?_⟩⟩
        exact fin H2 H2 g _ _ (kk H2 k2) hL2 (fun _ _ e => e) hg (gm hL1 ng) hok rfl (by have := hS1.total; omega) y ny
      | false =>
        have et : lnL (.cl c false) = L "rows = " ++ clL c := rfl
        refine ifF (by
          rw [e17]
          refine decide_eq_false fun z => ?_
          injection z with z
          rw [lit_mk] at z
          have z := mk_inj z
          rw [← eL] at z
          refine take_ne (i := 7) (by rw [eL]; decide) ?_ z
          rw [et, er, hx0, e17L]
          show some x0 ≠ some 108
          intro z2
          injection z2 with z2
          omega) ?_
        refine ⟨_, rfl, mk (lnL (.cl c false)), 7, x0, rfl, rfl, hlz, atI_nat (j := 7) (by rw [et, er, hx0]; rfl), by show 2 ≤ sizeLine; decide, fun t nt => ?_⟩
        refine ⟨t, _, rfl, .inl (SqL.of upd_same), rfl, rfl, _, rfl, ifF (by
          show inV (V.str (mk [x0])) [V.str (Str.ofString "["), V.str (Str.ofString "(")] = false
          rcases hx1 with rfl | rfl | rfl | rfl | rfl <;> decide +kernel) ?_⟩
        have st0 := same_new (o := .lst [V.str "[", .str "("]) nt
        refine ⟨_, rfl, 7, rfl, 12, rfl, mk (lnL (.cl c false)), rfl, hlz, rfl, _, rfl, ?_⟩
        refine ifF (by
          rw [show cutS (mk (lnL (.cl c false))) (some (7 : Int)) (some (12 : Int)) = mk (((lnL (.cl c false)).drop 7).take 5) from cut_lr _ 7 12]
          refine decide_eq_false fun z => ?_
          injection z with z
          rw [lit_mk] at z
          have z := mk_inj z
          rw [et, er, hx0, show L "list(" = [108, 105, 115, 116, 40] by decide +kernel] at z
          have z : (x0 :: r0).take 5 = [108, 105, 115, 116, 40] := z
          rw [List.take_succ_cons] at z
          injection z with z _
          omega) ?_
        have ein : cutS (mk (lnL (.cl c false))) (some (7 : Int)) none = mk (clL c) := by
          have := cut_suf (lnL (.cl c false)) 7
          rw [et, show (7 : Nat) = (L "rows = ").length by rw [er]; rfl, List.drop_left] at this
          rw [et]
          rw [er] at this ⊢
          exact this
        refine ⟨_, rfl, 7, rfl, mk (lnL (.cl c false)), rfl, hlz, _, rfl, c, a, F, ns, own, rd, p, st, congrArg (fun z => [V.str z, V.ref a]) ein, hl, hnm, hS.keep (SmL.of st0) (fun b _ o e => st0 _ _ e), fun H1 x own' rd' p' s1 ho hrd hp hS1 => ?_⟩
        have hb0 : ∀ {y}, (upd H t (.lst [V.str "[", .str "("])) y = none → H y = none := fun {y} hy => by
          cases e : H y with
          | none => rfl
          | some o => rw [st0 _ _ e] at hy; cases hy
        have s01 := st0.trans s1
        obtain ⟨hP1, hL1, i1, i2, i3, kk⟩ := beg H1 own' rd' s01 (fun y hy => (ho y hy).imp id hb0) (fun y hy => (hrd y hy).imp id hb0)
        exact q H1 x own' rd' p' (Same.kp s01) (by show LogV K H1 m (es ++ []); rw [List.append_nil]; exact hL1) hS1 i1 i2 i3 (fun y hy => (ho y hy).imp id hb0) (by show 0 + p' ≤ _; omega)
    | comp ws cs now =>
      obtain ⟨o, e, et, ho⟩ : ∃ o e, lnL (.comp ws cs now) = L "rows = " ++ (o :: (compL ws cs ++ [e])) ∧ (now = true ∧ o = 91 ∨ now = false ∧ o = 40) := by
        cases now
        · exact ⟨40, 41, rfl, .inr ⟨rfl, rfl⟩⟩
        · exact ⟨91, 93, rfl, .inl ⟨rfl, rfl⟩⟩
      obtain ⟨hw1, hw2, hc1, hc2⟩ := hl
      generalize hT0 : lnL (.comp ws cs now) = T0 at *
      refine ifF (by
        rw [e17]
        refine decide_eq_false fun z => ?_
        injection z with z
        rw [lit_mk] at z
        have z := mk_inj z
        rw [← eL] at z
        refine take_ne (i := 7) (by rw [eL]; decide) ?_ z
        rw [et, er, e17L]
        show some o ≠ some 108
        intro z2
        injection z2 with z2
        omega) ?_
      refine ⟨_, rfl, mk T0, 7, o, rfl, rfl, hlz, atI_nat (j := 7) (by rw [et, er]; rfl), by show 2 ≤ sizeLine; decide, fun t nt => ?_⟩
      refine ⟨t, _, rfl, .inl (SqL.of upd_same), rfl, rfl, _, rfl, ifT (by
        show inV (V.str (mk [o])) [V.str (Str.ofString "["), V.str (Str.ofString "(")] = true
        rcases ho with ⟨_, rfl⟩ | ⟨_, rfl⟩ <;> decide +kernel) ?_⟩
      have st0 := same_new (o := .lst [V.str "[", .str "("]) nt
      refine ⟨_, rfl, 8, rfl, 1, rfl, -1, rfl, mk T0, rfl, hlz, ?_⟩
      have ein : cutS (mk T0) (some (8 : Int)) (some (-1)) = mk (compL ws cs) := by
        rw [et, show L "rows = " ++ (o :: (compL ws cs ++ [e])) = (L "rows = " ++ [o]) ++ (compL ws cs ++ [e]) by simp]
        exact cut_in (L "rows = " ++ [o]) (compL ws cs) [e] (k := 1) rfl (Nat.le_refl _) (j := 8) (by rw [er]; rfl)
      rw [ein]
      have hcl : (compL ws cs).length ≤ 260 := by
        have := congrArg List.length et
        simp only [List.length_append, List.length_cons] at this
        omega
      refine ⟨⟨_, rfl⟩, _, _, rfl, rfl, by decide +kernel, small_line (by show (mk (compL ws cs)).length + 2 ≤ 1000; rw [len_mk]; omega), fun g ng => ?_⟩
      have esp : Txt.split (mk (compL ws cs)) (Str.ofString " if ") = mk (appl ws [120] ++ L " for x in rows") :: (cs.map fun c => mk (condL c)) := by
        rw [lit_mk]
        have := split_mk (t := compL ws cs) (sep := L " if ") (ps := (appl ws [120] ++ L " for x in rows") :: cs.map condL) (by decide +kernel) (by decide +kernel) (by
          unfold compL
          rw [← List.append_assoc]
          exact split_conds (freeIf_head hw1) hc2)
        rw [this, List.map_cons, List.map_map]
        rfl
      rw [esp]
      have s1 := same_new (o := HO.lst ((mk (appl ws [120] ++ L " for x in rows") :: (cs.map fun c => mk (condL c))).map V.str)) ng
      have hg1 : (upd (upd H t (.lst [V.str "[", .str "("])) g (HO.lst ((mk (appl ws [120] ++ L " for x in rows") :: (cs.map fun c => mk (condL c))).map V.str))) g = some (.lst ((mk (appl ws [120] ++ L " for x in rows") :: (cs.map fun c => mk (condL c))).map V.str)) := upd_same
      refine ⟨_, rfl, 1, rfl, g, _, rfl, SqL.of hg1, fun g2 ng2 => ?_⟩
      have ec : cutV ((mk (appl ws [120] ++ L " for x in rows") :: (cs.map fun c => mk (condL c))).map V.str) (some 1) none = cs.map fun c => V.str (mk (condL c)) := by
        unfold cutV
        rw [show (1 : Int) = ((1 : Nat) : Int) from rfl, HT.sIx_nat, HT.sIx_none, Nat.min_eq_left (by simp)]
        simp only [List.map_cons, List.map_map, List.length_cons, List.length_map, List.drop_succ_cons, List.drop_zero, Function.comp_def, Nat.add_sub_cancel]
        exact List.take_of_length_le (by rw [List.length_map]; exact Nat.le_refl _)
      rw [ec]
      have s2 := same_new (o := HO.lst (cs.map fun c => V.str (mk (condL c)))) ng2
      refine ⟨g2, rfl, ⟨_, SqL.of upd_same⟩, fun D nD => ?_⟩
      refine lc_same (walk_list (xs := cs.map fun c => V.str (mk (condL c)))) (fun i H y => ∃ c x2 a2, cs[i]? = some c ∧ y = .ref x2 ∧ SqT K H x2 [.ref a2, .bl (!c.1)] ∧ SqT K H a2 (c.2.map fun n => V.str (mk n))) (fun i H H' y e ⟨c, x2, a2, h1, h2, h3, h4⟩ => ⟨c, x2, a2, h1, h2, e.seqT h3, e.seqT h4⟩) (by rw [List.length_map]; exact small1000 (by omega)) nD (fun H4 s4 => SqL.of (s4 _ _ upd_same)) (fun i x H5 H6 R N hi s5 hy hR => ?_) (fun H5 ys s5 hD hly hat => ?_)
      · obtain ⟨rfl, hx⟩ := hy
        rw [List.getElem?_map] at hx
        cases hci : cs[i]? with
        | none => rw [hci] at hx; cases hx
        | some c =>
          rw [hci] at hx
          cases hx
          have hcm := hc2 c (List.mem_of_getElem? hci)
          have hcz := condL_len hcm
          refine ⟨rfl, ?_⟩
          refine yes_if ?_
          refine ⟨_, rfl, mk (condL c), rfl, ?_, c.2, [], congrArg (fun z => [V.str z]) ((repl_not hcm).trans (by rw [List.append_nil])), hcm.1, by simp, ?_, fun H7 nm s7 hnm => ?_⟩
          · rw [len_mk, show (Str.ofString "").length = 0 by decide +kernel]; omega
          · have h1 := appl_len hcm.1 [120]
            have h2 := hcm.2.2
            simp only [List.length_append, List.length_nil, List.length_cons] at *
            omega
          · refine ⟨_, rfl, 4, rfl, mk (condL c), rfl, small_line (by rw [len_mk]; omega), rfl, by show 2 ≤ sizeLine; decide, fun y ny => ?_⟩
            have ev : (!decide (V.str (cutS (mk (condL c)) none (some (4 : Int))) = V.str (Str.ofString "not "))) = !c.1 := by
              rw [show cutS (mk (condL c)) none (some (4 : Int)) = mk ((condL c).take 4) from cut_pre _ 4, lit_mk]
              obtain ⟨b, tt⟩ := c
              have e4 : (L "not ").length = 4 := by decide +kernel
              cases b with
              | true =>
                show (!decide (V.str (mk ((L "not " ++ appl tt [120]).take 4)) = _)) = _
                rw [← e4, List.take_left, decide_eq_true rfl]
              | false =>
                rw [decide_eq_false]
                intro z
                injection z with z
                have z := mk_inj z
                have h32 : (32 : Nat) ∈ (appl tt [120]).take 4 := by rw [show (appl tt [120]).take 4 = L "not " from z]; decide +kernel
                exact appl_free hcm.1 (by omega) (List.mem_of_mem_take h32)
            have s8 := same_new (o := .tup [V.ref nm, .bl (!decide (V.str (cutS (mk (condL c)) none (some (4 : Int))) = V.str (Str.ofString "not ")))]) ny
            refine hR _ _ (s7.trans s8) ⟨c, y, nm, hci, rfl, ?_, same_seqT s8 hnm⟩
            rw [← ev]
            exact SqT.of upd_same
      · rw [List.length_map] at hly
        have s05 := ((st0.trans s1).trans s2).trans s5
        have hg5 := s5 _ _ (s2 _ _ hg1)
        refine ⟨_, rfl, _, rfl, _, rfl, g, _, 0, _, rfl, rfl, SqL.of hg5, atI_nat (j := 0) rfl, ws, L " for x in rows", rfl, hw1, by decide +kernel, ?_, fun H6 nm s6 hnm => ⟨by show 4 ≤ sizeLine; decide, fun x nx => ?_⟩⟩
        · have h1 := appl_len hw1 [120]
          rw [List.length_append, show (L " for x in rows").length = 14 by decide +kernel]
          simp only [List.length_cons, List.length_nil] at h1
          omega
        have s7 := same_new (o := .lst [V.str "rows", .ref a, .ref D, .ref nm]) nx
        have s67 := s6.trans s7
        have s07 := s05.trans s67
        have hb0 : ∀ {G : Hp} {y : Addr}, Same H G → G y = none → H y = none := fun {G y} sm hy => by
          cases e : H y with
          | none => rfl
          | some o => rw [sm _ _ e] at hy; cases hy
        have hDH : H D = none := hb0 ((st0.trans s1).trans s2) nD
        have hxH : H x = none := hb0 (s05.trans s6) nx
        have aH : ∀ {y : Addr}, H y = none → y ∉ own ∧ y ∉ rd := fun {y} hy => by
          refine ⟨fun z => ?_, fun z => ?_⟩
          · obtain ⟨zs, hz⟩ := hS.own_lst.1 _ z
            rw [hz] at hy; cases hy
          · obtain ⟨zs, hz⟩ := hS.own_lst.2.1 _ z
            rw [hz] at hy; cases hy
        have hnsC : ∀ c ∈ cs, ∀ n ∈ c.2, n ∈ ns := fun c hc n hn => hns n (comp_has_c now hc hn)
        have hnsW : ∀ n ∈ ws, n ∈ ns := fun n hn => hns n (comp_has_w now hn)
        have hT : TstsAt K (upd H6 x (.lst [V.str "rows", .ref a, .ref D, .ref nm])) D (cs.map tstOf) := by
          refine ⟨ys, s67 _ _ hD, by rw [List.length_map]; exact hly, fun i y t e1 e2 => ?_⟩
          obtain ⟨c, x2, a2, h1, h2, h3, h4⟩ := hat i y e1
          rw [List.getElem?_map, h1] at e2
          cases e2
          exact ⟨x2, a2, h2, same_seqT s67 h3, same_seqT s67 h4⟩
        have hSr : SrcAt K F ns (upd H6 x (.lst [V.str "rows", .ref a, .ref D, .ref nm])) (d + 1) x (x :: own) (D :: rd) (p + 16 * st.items.length) (trS (rowsStep F (cs.map tstOf) ws) () st) :=
          .rows upd_same hT (same_seqT s7 hnm) ⟨by rw [List.length_map]; exact hc1, fun t ht => by
            obtain ⟨c, hc, rfl⟩ := List.mem_map.mp ht
            exact ⟨(hc2 c hc).2.2, hnsC c hc⟩⟩ ⟨by omega, hnsW⟩ (hS.keep (SmL.of s07) fun b _ o e => s07 _ _ e) (aH hxH).1 (aH hxH).2 (fun e => by rw [← e, s6 _ _ hD] at nx; cases nx) (aH hDH).1
        obtain ⟨hP1, hL1, i1, i2, i3, kk⟩ := beg _ (x :: own) (D :: rd) s07 (fun y hy => (List.mem_cons.mp hy).elim (fun e => .inr (by rw [e]; exact hxH)) .inl) (fun y hy => (List.mem_cons.mp hy).elim (fun e => .inr (by rw [e]; exact hDH)) .inl)
        refine ⟨_, rfl, mk T0, 7, o, rfl, rfl, hlz, atI_nat (j := 7) (by rw [et, er]; rfl), rfl, _, rfl, ?_⟩
        rcases ho with ⟨rfl, rfl⟩ | ⟨rfl, rfl⟩
        · refine ifT (by show decide (V.str (mk [91]) = V.str (Str.ofString "[")) = true; decide +kernel) ?_
          refine ⟨_, rfl, _, rfl, pl, m, x, F, ns, x :: own, D :: rd, _, _, es, rfl, hP1, hL1, hSr, i1, i2, i3, by omega, Nat.le_trans (tr_items _ _ _ _ _) hit, fun H2 g k2 hL2 ng hg hok => ⟨by show 3 ≤ sizeLine; decide, fun y ny => ?_⟩⟩
          exact fin H2 H2 g _ _ (kk H2 k2) hL2 (fun _ _ e => e) hg (gm hL1 ng) hok rfl hSr.total y ny
        · refine ifF (by show decide (V.str (mk [40]) = V.str (Str.ofString "[")) = false; decide +kernel) ⟨_, rfl, ?_⟩
          exact q _ x (x :: own) (D :: rd) _ (Same.kp s07) (by show LogV K _ m (es ++ []); rw [List.append_nil]; exact hL1) hSr i1 i2 i3 (fun y hy => (List.mem_cons.mp hy).elim (fun e => .inr (by rw [e]; exact hxH)) .inl) (by show 0 + _ ≤ _; omega)
end
end K

set_option Elab.async false
set_option linter.all false
set_option maxRecDepth 100000
set_option maxHeartbeats 4000000
/-! KL14: the law's own carrying out of a text. -/
namespace K
open PySem PySem.Spec PyProof.Rows L2 He TL LamX CwR
theorem SrcAt.up_to {K : PySem.W.Frag} {F : Nm → Act} {ns : List Nm} {H : Hp} {d d' : Nat} {a : Addr} {own rd : List Addr} {p : Nat} {st : Strm V Ev} (h : SrcAt K F ns H d a own rd p st) (hd : d ≤ d') : SrcAt K F ns H d' a own rd p st := by
  obtain ⟨e, rfl⟩ := Nat.exists_eq_add_of_le hd
  clear hd
  induction e with
  | zero => exact h
  | succ e ih => exact ih.up
theorem eager_items (b : Bool) (s : Strm V Ev) : (eager b s).1.items.length = s.items.length := by
  unfold eager
  cases b
  · rfl
  · show (Strm.lst s.run.1).items.length = _
    simp [Strm.lst, Strm.run]
theorem lineS_items (F : Nm → Act) (s : Strm V Ev) (l : Ln) : (lineS F s l).1.items.length ≤ s.items.length := by
  cases l with
  | comp w cs now =>
    show (eager now _).1.items.length ≤ _
    rw [eager_items]
    exact tr_items _ _ _ _ _
  | cl c now =>
    show (eager now _).1.items.length ≤ _
    rw [eager_items]
    exact clS_items F s c
  | all => simp [lineS, Strm.lst, Strm.run]
  | last n => simp [lineS, Strm.lst, Strm.run, Sg.cut]
  | but n => simp [lineS, Strm.lst, Strm.run, Sg.cut]
  | turned => simp [lineS, Strm.lst, Strm.run, Sg.cut]
/-- the stream behind the first lines, the calls that they made -/
def stS (F : Nm → Act) : List Ln → Strm V Ev → Strm V Ev × List Ev
  | [], s => (s, [])
  | l :: r, s => ((stS F r (lineS F s l).1).1, (lineS F s l).2 ++ (stS F r (lineS F s l).1).2)
theorem stS_snoc (F : Nm → Act) (l : Ln) : ∀ (r : List Ln) (s : Strm V Ev), stS F (r ++ [l]) s = ((lineS F (stS F r s).1 l).1, (stS F r s).2 ++ (lineS F (stS F r s).1 l).2)
  | [], s => by simp [stS]
  | x :: r, s => by
    rw [List.cons_append]
    simp only [stS]
    rw [stS_snoc F l r]
    simp only [List.append_assoc]
theorem carS_stS (F : Nm → Act) : ∀ (lns : List Ln) (s : Strm V Ev), carS F lns s = ((stS F lns s).1.run.1, (stS F lns s).2 ++ (stS F lns s).1.run.2)
  | [], s => by simp [carS, stS]
  | l :: r, s => by
    show ((carS F r (lineS F s l).1).1, (lineS F s l).2 ++ (carS F r (lineS F s l).1).2) = _
    rw [carS_stS F r]
    simp only [stS, List.append_assoc]
theorem stS_items (F : Nm → Act) : ∀ (lns : List Ln) (s : Strm V Ev), (stS F lns s).1.items.length ≤ s.items.length
  | [], s => Nat.le_refl _
  | l :: r, s => Nat.le_trans (stS_items F r _) (lineS_items F s l)
theorem ln_names {lns : List Ln} {l : Ln} (h : l ∈ lns) {n : Nm} (hn : n ∈ namesOf (lnSg l)) : n ∈ namesOf (sgsOf lns) := by
  obtain ⟨z, hz, hn⟩ := List.mem_flatten.mp hn
  obtain ⟨sg, hs, rfl⟩ := List.mem_map.mp hz
  exact List.mem_flatten.mpr ⟨_, List.mem_map.mpr ⟨sg, List.mem_flatten.mpr ⟨_, List.mem_map.mpr ⟨l, h, rfl⟩, hs⟩, rfl⟩, hn⟩
section
variable {P : Program} {w : World} {K : PySem.W.Frag} {mg : Str → Option Value} {base : Heap}
def spCarried (K : PySem.W.Frag) : Sp := fun vs H Q _ => ∃ (lns : List Ln) (xs : List V) (pl m vl : Addr) (F : Nm → Act) (ns : List Nm) (es : List Ev), vs = [.ref pl, .str (mk (txtL lns)), .ref vl] ∧ PlayV H pl m F ns ∧ LogV K H m es ∧ SqL K H vl xs ∧ (∀ x ∈ xs, VOk x) ∧ xs.length ≤ 20 ∧ (∀ l ∈ lns, LnOk l) ∧ lns.length ≤ 8 ∧ (∀ n ∈ namesOf (sgsOf lns), n ∈ ns) ∧ es.length ≤ 100 ∧
  ∀ H' x, Kp (· = m) H H' → LogV K H' m (es ++ (carS F lns (Strm.lst xs)).2) → SqT K H' x (carS F lns (Strm.lst xs)).1 → (∀ v ∈ (carS F lns (Strm.lst xs)).1, VOk v) → (carS F lns (Strm.lst xs)).1.length ≤ 20 → (carS F lns (Strm.lst xs)).2.length ≤ 3000 → Q (.ref x) H'
theorem ok_law_carried (T : Tx K mg w) : Ok1 P w K mg base 26 "_law_carried" ["_law_play_here", "_law_written", "_law_values_here"] (spCarried K) := by
  have nd := sc_law_carried.nd
  refine T.d_law_carried.mk sc_law_carried bn_law_carried (fun vs H Q E h => ?_) (fun cdv A outer s H vs Q E hr h => ?_)
  · obtain ⟨lns, xs, pl, m, vl, F, ns, es, rfl, _⟩ := h
    rfl
  · obtain ⟨lns, xs, pl, m, vl, F, ns, es, rfl, hP, hL, hV, hok, hx20, hln, hl8, hns, hes, q⟩ := h
    have hr25 := hr.mono (show 10 + 2 * 7 + 1 ≤ 25 by decide)
    have hr24 := hr.mono (show 8 + 2 * 8 ≤ 25 by decide)
    refine ⟨_, pss_cons (ps_set (i := 3) nd rfl (.inl rfl) (pe_lst (pa_cons pe_str (pa_cons (pe_callTy call_list_of (by rfl) T.z_list bt_list (pa_cons (pv 2) pa_nil)) (pa_cons pe_int pa_nil)))))
      (pss_cons (ps_for PassesOwn.never rfl (pi_list (pe_slice sl_list (pe_split (pv 1) pe_str) po_none (po_some (pe_un un_neg pe_int)))) (pg_name (i := 4) nd rfl (.inl rfl)) (pss_one (ps_set (i := 3) nd rfl (.inl rfl) (pe_g (ok_law_line_done (D := 7) T) hr25 (pa_cons (pv 0) (pa_cons (pv 4) (pa_cons (pv 3) pa_nil)))))))
      (pss_one (ps_ret (pe_callTy call_tuple_of (by rfl) T.z_tuple bt_tuple (pa_cons (pe_g (ok_law_all (d := 8) T) hr24 (pa_cons (pv 0) (pa_cons (pv 3) pa_nil))) pa_nil))))), ?_⟩
    obtain ⟨ysm, hm, hym⟩ := id hL
    obtain ⟨dF, hpl, hplm, hFn⟩ := id hP
    refine ⟨_, rfl, vl, xs, rfl, .inl hV, fun l0 nl0 => ⟨by show 3 ≤ sizeLine; decide, fun a na => ?_⟩⟩
    have s1 := same_new (o := HO.lst xs) nl0
    have s2 := same_new (o := .lst [V.str "list", .ref l0, .int 0]) na
    have htl := txtL_len hln hl8
    refine ⟨_, rfl, ⟨_, rfl⟩, _, _, rfl, rfl, by decide +kernel, (by show (mk (txtL lns)).length + 2 ≤ sizeLine; rw [len_mk]; exact Nat.le_trans (show _ ≤ 5000 by omega) (by decide)), fun g ng => ?_⟩
    have s3 := same_new (o := HO.lst ((Txt.split (mk (txtL lns)) (Str.ofString "
")).map V.str)) ng
    refine ⟨1, rfl, -1, rfl, g, _, rfl, SqL.of upd_same, fun g2 ng2 => ?_⟩
    have ec : cutV ((Txt.split (mk (txtL lns)) (Str.ofString "
")).map V.str) none (some (-1)) = lns.map fun l => V.str (mk (lnL l)) := by
      rw [split_txt hln, List.map_append, List.map_append]
      refine (cut_init _ _).trans ?_
      rw [List.map_map, List.map_map]
      rfl
    rw [ec]
    have s4 := same_new (o := HO.lst (lns.map fun l => V.str (mk (lnL l)))) ng2
    have s04 := ((s1.trans s2).trans s3).trans s4
    have hbn : ∀ {G : Hp} {y : Addr}, Same H G → G y = none → H y = none := fun {G y} sm hy => by
      cases e : H y with
      | none => rfl
      | some o => rw [sm _ _ e] at hy; cases hy
    have haH : H a = none := hbn s1 na
    have hgH : H g2 = none := hbn ((s1.trans s2).trans s3) ng2
    have hlH : H l0 = none := nl0
    have hne : ∀ {y o}, H y = some o → ∀ z, H z = none → y ≠ z := fun h z hz e => by rw [e, hz] at h; cases h
    refine ⟨g2, rfl, ⟨_, SqL.of upd_same⟩, ?_⟩
    refine for_list (xs := lns.map fun l => V.str (mk (lnL l))) (fun i σ H' => ∃ (a : Addr) (own rd : List Addr) (p : Nat) (o4 : Option V), σ = [some (.ref pl), some (.str (mk (txtL lns))), some (.ref vl), some (.ref a), o4] ∧ Kp (· = m) H H' ∧ H' g2 = some (.lst (lns.map fun l => V.str (mk (lnL l)))) ∧
        SrcAt K F ns H' i a own rd p (stS F (lns.take i) (Strm.lst xs)).1 ∧ LogV K H' m (es ++ (stS F (lns.take i) (Strm.lst xs)).2) ∧ m ∉ own ∧ m ∉ rd ∧ pl ∉ own ∧ (∀ y ∈ own, H y = none) ∧ g2 ∉ own ∧ (stS F (lns.take i) (Strm.lst xs)).2.length + p ≤ 320 * i)
      ⟨a, [a], [l0], 0, none, rfl, Same.kp s04, upd_same, ?_, ?_, fun z => hne hm a haH (List.mem_singleton.mp z), fun z => hne hm l0 hlH (List.mem_singleton.mp z), fun z => hne hpl a haH (List.mem_singleton.mp z), fun y hy => by rw [List.mem_singleton.mp hy]; exact haH, fun z => ?_, Nat.le_refl _⟩
      (fun i σ H' _ ⟨_, _, _, _, _, _, _, hg, _⟩ => SqL.of hg) (fun i y σ H1 hy hp => ?_) (fun σ H1 hp => ?_)
    · exact .lst (i := 0) (xs := xs) (s4 _ _ (s3 _ _ upd_same)) (s4 _ _ (s3 _ _ (s2 _ _ upd_same))) (fun e => by rw [← e, upd_same] at na; cases na) hok
    · show LogV K _ m (es ++ [])
      rw [List.append_nil]
      exact hL.keep (SmL.of s04) fun o e => s04 _ _ e
    · rw [List.mem_singleton.mp z, s3 _ _ upd_same] at ng2
      cases ng2
    · obtain ⟨a, own, rd, p, o4, rfl, k1, hg1, hS1, hL1, m1, m2, m3, hown, hgo, hbd⟩ := hp
      rw [List.getElem?_map] at hy
      cases hli : lns[i]? with
      | none => rw [hli] at hy; cases hy
      | some l =>
        rw [hli] at hy
        cases hy
        have hi : i < lns.length := (List.getElem?_eq_some_iff.mp hli).1
        have hlm := List.mem_of_getElem? hli
        have hit := stS_items F (lns.take i) (Strm.lst xs)
        have hlx : (Strm.lst (E := Ev) xs).items.length = xs.length := by simp [Strm.lst]
        have sm1 := kp_sml hm k1
        refine ⟨_, rfl, _, rfl, _, rfl, i, by omega, l, pl, m, a, F, ns, own, rd, p, _, _, rfl, hP.keep sm1 (fun o e => k1 _ _ e (.inl hplm)), hL1, hS1, hln l hlm, fun n hn => hns n (ln_names hlm hn), m1, m2, m3, by rw [List.length_append]; omega, by omega, fun H3 x own' rd' p' k3 hL3 hS3 n1 n2 n3 n4 hlen => ?_⟩
        have et : lns.take (i + 1) = lns.take i ++ [l] := by rw [List.take_succ, hli]; rfl
        rw [et, stS_snoc]
        have hal : ∀ y, H1 y = none → H y = none := fun y hy => by
          cases e : H y with
          | none => rfl
          | some o =>
            rcases Classical.em (y = m) with rfl | z
            · obtain ⟨zs, hz, _⟩ := hL1
              rw [hz] at hy; cases hy
            · rw [k1 _ _ e (.inl z)] at hy; cases hy
        have hgm : g2 ≠ m := fun e => by rw [e, hm] at hgH; cases hgH
        refine ⟨x, own', rd', p', _, rfl, fun b o e n => k3 b o (k1 b o e n) (n.imp (fun y z => z.elim y fun w => by rw [hown b w] at e; cases e) id), k3 _ _ hg1 (.inl fun z => z.elim hgm hgo), hS3, by rw [← List.append_assoc]; exact hL3, n1, n2, n3, fun y hy => (n4 y hy).elim (hown y) (hal y), fun z => (n4 g2 z).elim hgo (fun w => by rw [hg1] at w; cases w), ?_⟩
        simp only [List.length_append]
        omega
    · obtain ⟨a, own, rd, p, o4, rfl, k1, hg1, hS1, hL1, m1, m2, m3, hown, hgo, hbd⟩ := hp
      rw [List.length_map, List.take_length] at hS1 hL1 hbd
      have hit := stS_items F lns (Strm.lst xs)
      have hlx : (Strm.lst (E := Ev) xs).items.length = xs.length := by simp [Strm.lst]
      have sm1 := kp_sml hm k1
      have htot := hS1.total
      refine ⟨_, rfl, _, rfl, pl, m, a, F, ns, own, rd, p, _, _, rfl, hP.keep sm1 (fun o e => k1 _ _ e (.inl hplm)), hL1, hS1.up_to hl8, m1, m2, m3, by rw [List.length_append]; omega, by omega, fun H3 g3 k3 hL3 ng3 hg3 hok3 => ?_⟩
      refine ⟨g3, _, rfl, .inl ⟨SqL.of hg3, fun x nx => ?_⟩⟩
      have s5 := same_new (o := .tup (stS F lns (Strm.lst xs)).1.run.1) nx
      have e1 := carS_stS F lns (Strm.lst xs)
      have hrl : (stS F lns (Strm.lst xs)).1.run.1.length = (stS F lns (Strm.lst xs)).1.items.length := by simp [Strm.run]
      have k03 : Kp (· = m) H H3 := fun b o e n => k3 b o (k1 b o e n) (n.imp (fun y z => z.elim y fun w => by rw [hown b w] at e; cases e) id)
      have fin := q _ x (k03.trans (Same.kp s5)) (by rw [e1]; show LogV K _ m (es ++ (_ ++ _)); rw [← List.append_assoc]; exact hL3.keep (SmL.of s5) fun o e => s5 _ _ e) (by rw [e1]; exact SqT.of upd_same) (by rw [e1]; exact hok3) (by rw [e1]; show (stS F lns (Strm.lst xs)).1.run.1.length ≤ 20; rw [hrl]; omega) (by rw [e1]; show (_ ++ _ : List Ev).length ≤ 3000; rw [List.length_append]; omega)
      exact fin
end
end K

set_option Elab.async false
set_option linter.all false
set_option maxRecDepth 100000
set_option maxHeartbeats 4000000
/-! KL15: the law's functions. -/
namespace K
open PySem PySem.Spec PyProof.Rows L2 He TL LamX CwR
/-- all but M and the tables stay -/
def Kx (M : Addr → Prop) (H H' : Hp) : Prop := ∀ b o, H b = some o → (∀ ps, o ≠ .tbl ps) → (¬ M b ∨ Stay o) → H' b = some o
theorem Kx.of {M : Addr → Prop} {H H' : Hp} (k : Kp M H H') : Kx M H H' := fun b o e _ n => k b o e n
theorem Kx.ext {M : Addr → Prop} {H H' : Hp} (k : ExtN H H') : Kx M H H' := fun b o e n _ => k b o e n
theorem Kx.trans {M : Addr → Prop} {H H1 H2 : Hp} (a : Kx M H H1) (b : Kx M H1 H2) : Kx M H H2 := fun c o e n m => b c o (a c o e n m) n m
theorem Kx.refl (M : Addr → Prop) (H : Hp) : Kx M H H := fun _ _ e _ _ => e
theorem Kx.mono {M N : Addr → Prop} {H H' : Hp} (a : Kx M H H') (h : ∀ b, M b → N b) : Kx N H H' := fun c o e n m => a c o e n (m.imp (fun q z => q (h c z)) id)
theorem tabs_kp {T : List (Addr × Str)} {M : Addr → Prop} {H H' : Hp} (h : Tabs T H) (k : Kp M H H') (hm : ∀ b ps, M b → H b ≠ some (.tbl ps)) : Tabs T H' := fun p hp => by
  obtain ⟨ps, h1, h2, h3⟩ := h p hp
  refine ⟨ps, k _ _ h1 (.inl fun z => ?_), h2, fun pos cv hc => ?_⟩
  · exact hm _ _ z h1
  · obtain ⟨c, e1, e2⟩ := h3 pos cv hc
    exact ⟨c, e1, k.ext e2⟩
/-- what the head tells of the makers of functions -/
structure Tl (K : PySem.W.Frag) (mg : Str → Option Value) (base : Heap) (cN pN cT pT : Addr) : Prop where
  nc : ∀ oc od fd osl, K.lookup (ga K "_law_number_function") = some ⟨oc, od, .func fd, osl⟩ → fd.code = .ref cN
  nt : TabB base mg cN pN
  tc : ∀ oc od fd osl, K.lookup (ga K "_law_truth_function") = some ⟨oc, od, .func fd, osl⟩ → fd.code = .ref cT
  tt : TabB base mg cT pT
  ne : pN ≠ pT
abbrev TT (pN pT : Addr) : List (Addr × Str) := [(pN, nQ), (pT, tQ)]
theorem put_len (c : List (Key × V)) (k : Key) (x : V) : (putK c k x).length ≤ c.length + 1 := by
  unfold putK
  split <;> simp
theorem put_mem {c : List (Key × V)} {k : Key} {x : V} {kv : Key × V} (h : kv ∈ putK c k x) : kv.1 = k ∨ ∃ kv' ∈ c, kv'.1 = kv.1 := by
  unfold putK at h
  split at h
  · obtain ⟨kv', h1, h2⟩ := List.mem_map.mp h
    split at h2
    · exact .inr ⟨kv', h1, by rw [← h2]⟩
    · exact .inr ⟨kv', h1, by rw [h2]⟩
  · rcases List.mem_append.mp h with z | z
    · exact .inr ⟨kv, z, rfl⟩
    · exact .inl (by rw [List.mem_singleton.mp z])
theorem nodup_ix {α : Type} {l : List α} (hn : l.Nodup) {i j : Nat} {y : α} (h1 : l[i]? = some y) (h2 : l[j]? = some y) : i = j := by
  have hi : i < l.length := (List.getElem?_eq_some_iff.mp h1).1
  exact (List.getElem?_inj hi hn).mp (h1.trans h2.symm)
section
variable {P : Program} {w : World} {K : PySem.W.Frag} {mg : Str → Option Value} {base : Heap} {cN pN cT pT : Addr}
def spNumF (pN pT : Addr) : Sp := fun vs H Q _ => ∃ b m d : Int, vs = [.int b, .int m, .int d] ∧ Tabs (TT pN pT) H ∧ ∀ f H1, ExtN H H1 → Tabs (TT pN pT) H1 → H f = none → ActV H1 f (.num b m d) → Q (.ref f) H1
def spTruF (pN pT : Addr) : Sp := fun vs H Q _ => ∃ m d : Int, vs = [.int m, .int d] ∧ Tabs (TT pN pT) H ∧ ∀ f H1, ExtN H H1 → Tabs (TT pN pT) H1 → H f = none → ActV H1 f (.tru m d) → Q (.ref f) H1
theorem Ok1.imp {k : Nat} {x : Str} {ps : List Str} {sp sp' : Sp} (F : Ok1 P w K mg base k x ps sp) (h : ∀ vs H Q E, sp' vs H Q E → sp vs H Q E) : Ok1 P w K mg base k x ps sp' := by
  obtain ⟨⟨fd, h1, h2⟩, gl, kp⟩ := F
  exact ⟨⟨fd, h1.imp h, h2⟩, gl, kp⟩
theorem ok_law_number_function (T : Tx K mg w) (L : Tl K mg base cN pN cT pT) : Ok1 P w K mg base 1 "_law_number_function" ["_law_by", "_law_more", "_law_modulus"] (spNumF pN pT) := by
  have := fn_clo (P := P) (w := w) (k := 0) (N := ["_law_by", "_law_more", "_law_modulus"]) (ps := ["_law_by", "_law_more", "_law_modulus"]) (fr := ["_law_by", "_law_more", "_law_modulus"]) (T := TT pN pT) (g := id) T.d_law_number_function sc_law_number_function bn_law_number_function rfl L.nc L.nt List.mem_cons_self (fun p hp e => ?_) (fun env => rfl) (by decide +kernel) (by decide +kernel) (by decide +kernel) (by decide +kernel) (by decide +kernel) (fun vs i j y hl e1 e2 => ?_)
  · refine this.imp fun vs H Q E h => ?_
    obtain ⟨b, m, d, rfl, hT, q⟩ := h
    exact ⟨rfl, hT, fun f H1 e1 t1 n1 c1 => q f H1 e1 t1 n1 c1⟩
  · rcases List.mem_cons.mp hp with rfl | hp
    · rfl
    · rw [List.mem_singleton.mp hp] at e
      exact absurd e.symm L.ne
  · have := nodup_ix (by decide +kernel) e1 e2
    rw [this]; rfl
theorem ok_law_truth_function (T : Tx K mg w) (L : Tl K mg base cN pN cT pT) : Ok1 P w K mg base 1 "_law_truth_function" ["_law_more", "_law_modulus"] (spTruF pN pT) := by
  have := fn_clo (P := P) (w := w) (k := 0) (N := ["_law_more", "_law_modulus"]) (ps := ["_law_more", "_law_modulus"]) (fr := ["_law_more", "_law_modulus"]) (T := TT pN pT) (g := id) T.d_law_truth_function sc_law_truth_function bn_law_truth_function rfl L.tc L.tt (List.mem_cons_of_mem _ List.mem_cons_self) (fun p hp e => ?_) (fun env => rfl) (by decide +kernel) (by decide +kernel) (by decide +kernel) (by decide +kernel) (by decide +kernel) (fun vs i j y hl e1 e2 => ?_)
  · refine this.imp fun vs H Q E h => ?_
    obtain ⟨m, d, rfl, hT, q⟩ := h
    exact ⟨rfl, hT, fun f H1 e1 t1 n1 c1 => q f H1 e1 t1 n1 c1⟩
  · rcases List.mem_cons.mp hp with rfl | hp
    · exact absurd e L.ne
    · rw [List.mem_singleton.mp hp]
  · have := nodup_ix (by decide +kernel) e1 e2
    rw [this]; rfl
def DictV (H : Hp) (d : Addr) (F : Nm → Act) (tags : List Nm) : Prop := ∃ kvs : List (Key × V), H d = some (.dK kvs) ∧ kvs.length ≤ tags.length ∧ (∀ kv ∈ kvs, ∃ n ∈ tags, kv.1 = (Sum.inr (mk n) : Key)) ∧ ∀ n ∈ tags, ∃ f, valV kvs (Sum.inr (mk n) : Key) = some (.ref f) ∧ ActV H f (F n) ∧ ActOk (F n)
def spFuns (pN pT : Addr) : Sp := fun vs H Q _ => ∃ (p t : Addr) (tags : List Nm), vs = [.ref p, .ref t] ∧ PurseAt H p ∧ H t = some (.lst (tags.map fun n => V.str (mk n))) ∧ t ≠ p ∧ NamesL tags ∧ tags.length ≤ 100 ∧ Tabs (TT pN pT) H ∧
  ∀ H' d F, Kx (· = p) H H' → PurseAt H' p → Tabs (TT pN pT) H' → H d = none → DictV H' d F tags → Q (.ref d) H'
theorem ok_law_functions (T : Tx K mg w) (L : Tl K mg base cN pN cT pT) : Ok1 P w K mg base 2 "_law_functions" ["_law_purse_here", "_law_tags_here"] (spFuns pN pT) := by
  have nd := sc_law_functions.nd
  have tk := ok_law_take (P := P) (base := base) T
  refine T.d_law_functions.mk sc_law_functions bn_law_functions (fun vs H Q E h => ?_) (fun cdv A outer s H vs Q E hr h => ?_)
  · obtain ⟨p, t, tags, rfl, _⟩ := h
    rfl
  · obtain ⟨p, t, tags, rfl, hp, ht, htp, hn, hl, hT, q⟩ := h
    have hr1 := hr
    refine ⟨_, pss_cons (ps_set (i := 2) nd rfl (.inl rfl) pe_dnewK)
      (pss_cons (ps_for PassesOwn.never rfl (pi_list (pv 1)) (pg_name (i := 3) nd rfl (.inl rfl)) (pss_cons (ps_par3 (i := 4) (j := 5) (l := 6) (by rfl) nd rfl rfl rfl (by decide) (by decide) (by decide) rfl rfl rfl (pa_cons (pe_op op_add pe_int (pe_g tk hr1 (pa_cons (pv 0) (pa_cons pe_int pa_nil)))) (pa_cons (pe_g tk hr1 (pa_cons (pv 0) (pa_cons pe_int pa_nil))) (pa_cons (pe_op op_add pe_int (pe_g tk hr1 (pa_cons (pv 0) (pa_cons pe_int pa_nil)))) pa_nil))) (by rfl))
      (pss_one (ps_if (pt_cmpR op_eq (pe_g tk hr1 (pa_cons (pv 0) (pa_cons pe_int pa_nil))) pe_int (nomark _)) (pss_one (ps_asg (pe_g (ok_law_truth_function T L) hr1 (pa_cons (pv 5) (pa_cons (pv 6) pa_nil))) (pg_sub (pv 2) (pv 3) (set_dict (hu_of hr)) (fun _ => rfl)))) (pss_one (ps_asg (pe_g (ok_law_number_function T L) hr1 (pa_cons (pv 4) (pa_cons (pv 5) (pa_cons (pe_ix ix_list (pe_lst (pa_cons (pv 6) (pa_cons (pv 6) (pa_cons pe_int (pa_cons (pe_op op_add (pe_op op_pow pe_int pe_int) pe_int) pa_nil))))) (pe_g tk hr1 (pa_cons (pv 0) (pa_cons pe_int pa_nil))) (fun _ _ => rfl)) pa_nil)))) (pg_sub (pv 2) (pv 3) (set_dict (hu_of hr)) (fun _ => rfl))))))))
      (pss_one (ps_ret (pv 2)))), ?_⟩
    refine fun d nd0 => ?_
    have s0 := same_new (o := HO.dK []) nd0
    have htd : t ≠ d := fun e => by rw [e, nd0] at ht; cases ht
    refine ⟨_, rfl, t, rfl, ⟨_, SqL.of (s0 _ _ ht)⟩, ?_⟩
    refine for_list (xs := tags.map fun n => V.str (mk n)) (fun i σ H' => ∃ (F : Nm → Act) (o3 o4 o5 o6 : Option V), σ = [some (.ref p), some (.ref t), some (.ref d), o3, o4, o5, o6] ∧ Kx (· = p) H H' ∧ PurseAt H' p ∧ Tabs (TT pN pT) H' ∧ H' t = some (.lst (tags.map fun n => V.str (mk n))) ∧ DictV H' d F (tags.take i))
      ⟨fun _ => .tru 0 1, none, none, none, none, rfl, Kx.of (Same.kp s0), hp.same s0, tabs_kp hT (Same.kp (M := fun _ => False) s0) (fun _ _ z => z.elim), s0 _ _ ht, [], upd_same, Nat.zero_le _, (fun kv hk => by cases hk), fun n hn => by cases hn⟩ (fun i σ H' _ ⟨_, _, _, _, _, _, _, _, _, h, _⟩ => SqL.of h) (fun i y σ H1 hy hpv => ?_) (fun σ H1 hpv => ?_)
    · obtain ⟨F, o3, o4, o5, o6, rfl, k1, p1, t1, ht1, kvs, hk1, hkl0, hk2, hk3⟩ := hpv
      rw [List.getElem?_map] at hy
      cases hti : tags[i]? with
      | none => rw [hti] at hy; cases hy
      | some n =>
        rw [hti] at hy
        cases hy
        have hi : i < tags.length := (List.getElem?_eq_some_iff.mp hti).1
        have hdp : d ≠ p := fun e => by obtain ⟨_, _, _, h, _⟩ := hp; rw [← e, nd0] at h; cases h
        have etk : tags.take (i + 1) = tags.take i ++ [n] := by rw [List.take_succ, hti]; rfl
        have hkl : kvs.length ≤ 100 := by
          rw [List.length_take] at hkl0
          omega
        have fin : ∀ (H4 H5 : Hp) (f : Addr) (act : Act) (a4 a5 a6 : Option V), Kp (· = p) H1 H4 → PurseAt H4 p → ExtN H4 H5 → Tabs (TT pN pT) H5 → ActV H5 f act → ActOk act → ∃ (F' : Nm → Act) (o3 o4 o5 o6 : Option V), [some (.ref p), some (.ref t), some (.ref d), some (V.str (mk n)), a4, a5, a6] = [some (.ref p), some (.ref t), some (.ref d), o3, o4, o5, o6] ∧ Kx (· = p) H (upd H5 d (.dK (putK kvs (Sum.inr (mk n)) (.ref f)))) ∧ PurseAt (upd H5 d (.dK (putK kvs (Sum.inr (mk n)) (.ref f)))) p ∧ Tabs (TT pN pT) (upd H5 d (.dK (putK kvs (Sum.inr (mk n)) (.ref f)))) ∧ (upd H5 d (.dK (putK kvs (Sum.inr (mk n)) (.ref f)))) t = some (.lst (tags.map fun n => V.str (mk n))) ∧ DictV (upd H5 d (.dK (putK kvs (Sum.inr (mk n)) (.ref f)))) d F' (tags.take (i + 1)) := fun H4 H5 f act a4 a5 a6 k4 p4 e5 t5 hact hao => by
          have kd : ∀ b o, b ≠ d → H5 b = some o → (upd H5 d (.dK (putK kvs (Sum.inr (mk n)) (.ref f)))) b = some o := fun b o z e => (upd_ne z).trans e
          have d4 := k4 _ _ hk1 (.inl hdp)
          have d5 := e5 _ _ d4 (fun ps z => by cases z)
          have ext15 : ∀ b φ, H1 b = some (.ext φ) → (upd H5 d (.dK (putK kvs (Sum.inr (mk n)) (.ref f)))) b = some (.ext φ) := fun b φ e => by
            have e4 := k4.ext e
            have e6 := e5 _ _ e4 (fun ps z => by cases z)
            exact kd _ _ (fun z => by rw [z, d5] at e6; cases e6) e6
          have ext5 : ∀ b φ, H5 b = some (.ext φ) → (upd H5 d (.dK (putK kvs (Sum.inr (mk n)) (.ref f)))) b = some (.ext φ) := fun b φ e => kd _ _ (fun z => by rw [z, d5] at e; cases e) e
          refine ⟨fun x => if x = n then act else F x, some (V.str (mk n)), a4, a5, a6, rfl, fun b o e nt n4 => ?_, ?_, ?_, ?_, putK kvs (Sum.inr (mk n)) (.ref f), upd_same, ?_, fun kv hkv => ?_, fun m hm => ?_⟩
          · exact kd _ _ (fun z => by rw [z, nd0] at e; cases e) (e5 _ _ (k4 _ _ (k1 _ _ e nt n4) n4) nt)
          · obtain ⟨a, b, c, h1, h2⟩ := p4
            exact ⟨a, b, c, kd _ _ hdp.symm (e5 _ _ h1 (fun ps z => by cases z)), h2⟩
          · refine tabs_kp (M := (· = d)) t5 (fun b o e n => ?_) (fun b ps z e => by rw [show b = d from z, d5] at e; cases e)
            rcases n with n | n
            · exact kd _ _ n e
            · exact kd _ _ (fun z => by rw [z, d5] at e; rw [← Option.some.inj e] at n; rcases n with ⟨_, n⟩ | ⟨_, n⟩ <;> cases n) e
          · exact kd _ _ htd (e5 _ _ (k4 _ _ ht1 (.inl htp)) (fun ps z => by cases z))
          · have := put_len kvs (Sum.inr (mk n)) (.ref f)
            rw [etk, List.length_append]
            simp only [List.length_cons, List.length_nil]
            omega
          · rw [etk]
            rcases put_mem hkv with e | ⟨kv', h1, h2⟩
            · exact ⟨n, List.mem_append_right _ List.mem_cons_self, e⟩
            · obtain ⟨m, h3, h4⟩ := hk2 kv' h1
              exact ⟨m, List.mem_append_left _ h3, h2.symm.trans h4⟩
          · rw [etk] at hm
            show ∃ f_1, _ ∧ ActV _ f_1 (if m = n then act else F m) ∧ ActOk (if m = n then act else F m)
            by_cases hmn : m = n
            · rw [if_pos hmn, hmn]
              exact ⟨f, by rw [valV_put, if_pos rfl], hact.of ext5, hao⟩
            · rw [if_neg hmn]
              obtain ⟨f0, h1, h2, h3⟩ := hk3 m ((List.mem_append.mp hm).resolve_right fun z => hmn (List.mem_singleton.mp z))
              exact ⟨f0, by rw [valV_put, if_neg fun z => hmn (mk_inj (Sum.inr.inj z))]; exact h1, h2.of ext15, h3⟩
        have hlt : kvs.length < sizeLine := Nat.lt_of_le_of_lt hkl (by decide)
        refine ⟨_, rfl, p, 9, rfl, p1, by decide, by decide, fun G1 r1 q1 w1 l1 => ⟨_, _, rfl, rfl, _, rfl, p, 10, rfl, w1, by decide, by decide, fun G2 r2 q2 w2 l2 => ⟨_, rfl, p, 4, rfl, w2, by decide, by decide, fun G3 r3 q3 w3 l3 => ⟨_, _, rfl, rfl, _, _, _, rfl, ?_⟩⟩⟩⟩
        refine ⟨_, rfl, p, 3, rfl, w3, by decide, by decide, fun G4 r4 q4 w4 l4 => ⟨rfl, _, rfl, ?_⟩⟩
        have k14 : Kp (· = p) H1 G4 := ((q1.trans q2).trans q3).trans q4
        have hlst : ∀ {G G' : Hp}, PurseAt G p → ∀ b ps, b = p → G b ≠ some (.tbl ps) := fun hw b ps z e => by
          obtain ⟨_, _, _, h, _⟩ := hw
          rw [z, h] at e; cases e
        have t4 := tabs_kp t1 k14 (fun b ps z => hlst (G' := H) p1 b ps z)
        by_cases h0 : r4 = 0
        · refine ifT (by rw [h0]; decide +kernel) ?_
          refine ⟨_, rfl, _, rfl, _, _, rfl, t4, fun f H5 e5 t5 n5 a5 => ⟨_, rfl, _, rfl, d, _, rfl, DPut.k (k := Sum.inr (mk n)) (v := .ref f) (e5 _ _ (k14 _ _ hk1 (.inl hdp)) (fun ps z => by cases z)) hlt, ?_⟩⟩
          exact fin G4 H5 f _ _ _ _ k14 w4 e5 t5 a5 (by show 0 < _; omega)
        · refine ifF (decide_eq_false fun z => h0 (by injection z with z; omega)) ?_
          refine ⟨_, rfl, _, rfl, _, rfl, _, rfl, 10, 30, rfl, rfl, ⟨by decide, by decide, by decide⟩, _, _, rfl, rfl, by show 4 ≤ sizeLine; decide, fun l nl => ?_⟩
          have sl := same_new (o := HO.lst [V.int (2 + (r3 : Int)), .int (2 + (r3 : Int)), .int 97, .int (10 ^ (30 : Int).toNat + 57)]) nl
          have lp : l ≠ p := purse_ne w4 nl
          refine ⟨_, rfl, p, 4, rfl, w4.same sl, by decide, by decide, fun G5 r5 q5 w5 l5 => ?_⟩
          have k15 : Kp (· = p) H1 G5 := (k14.trans (Same.kp sl)).trans q5
          have hml : ∃ z : Int, [V.int (2 + (r3 : Int)), .int (2 + (r3 : Int)), .int 97, .int (10 ^ (30 : Int).toNat + 57)][r5]? = some (.int z) ∧ 0 < z ∧ z < big := by
            match r5, l5 with
            | 0, _ => exact ⟨_, rfl, by omega, by unfold big; omega⟩
            | 1, _ => exact ⟨_, rfl, by omega, by unfold big; omega⟩
            | 2, _ => exact ⟨_, rfl, by omega, by unfold big; omega⟩
            | 3, _ => exact ⟨_, rfl, by decide, by decide⟩
            | r + 4, l => exact absurd l (by omega)
          obtain ⟨z, hz1, hz2, hz3⟩ := hml
          have t5' := tabs_kp t1 k15 (fun b ps z => hlst (G' := H) p1 b ps z)
          refine ⟨l, _, (r5 : Int), _, rfl, rfl, SqL.of (q5 _ _ upd_same (.inl lp)), atI_nat (j := r5) hz1, _, _, _, rfl, t5', fun f H5 e5 t5 n5 a5 => ⟨_, rfl, _, rfl, d, _, rfl, DPut.k (k := Sum.inr (mk n)) (v := .ref f) (e5 _ _ (k15 _ _ hk1 (.inl hdp)) (fun ps z => by cases z)) hlt, ?_⟩⟩
          exact fin G5 H5 f _ _ _ _ k15 w5 e5 t5 a5 ⟨by omega, hz2, hz3⟩
    · obtain ⟨F, o3, o4, o5, o6, rfl, k1, p1, t1, ht1, hD⟩ := hpv
      rw [List.length_map, List.take_length] at hD
      exact ⟨_, rfl, q H1 d F k1 p1 t1 nd0 hD⟩
end
end K

set_option Elab.async false
set_option linter.all false
set_option maxRecDepth 100000
set_option maxHeartbeats 4000000
/-! KL16: the law's entries; the names that are called. -/
namespace K
open PySem PySem.Spec PyProof.Rows L2 He TL LamX CwR
theorem ask_every (k : Kd) (w : List Nm) (now : Bool) : (!decide (V.str (kindS (.ask k w now)) = V.str (Str.ofString "every"))) = true := by
  cases k
  · show (!decide (V.str (Str.ofString "keep") = V.str (Str.ofString "every"))) = true
    decide +kernel
  · show (!decide (V.str (Str.ofString "drop") = V.str (Str.ofString "every"))) = true
    decide +kernel
  · show (!decide (V.str (Str.ofString "while") = V.str (Str.ofString "every"))) = true
    decide +kernel
  · show (!decide (V.str (Str.ofString "from") = V.str (Str.ofString "every"))) = true
    decide +kernel
theorem flat_strs (tags : List Nm) : (tags.map fun n => V.str (mk n)).all flatV = true := by
  rw [List.all_eq_true]
  intro v hv
  obtain ⟨n, _, rfl⟩ := List.mem_map.mp hv
  rfl
theorem inV_names (n : Nm) : ∀ tags : List Nm, inV (V.str (mk n)) (tags.map fun n => V.str (mk n)) = decide (n ∈ tags)
  | [] => by rfl
  | m :: r => by
    have ih := inV_names n r
    unfold inV at ih ⊢
    rw [List.map_cons, List.any_cons, ih]
    show (mk m == mk n || decide (n ∈ r)) = _
    by_cases h : n = m
    · subst h
      simp
    · have h1 : (mk m == mk n) = false := beq_eq_false_iff_ne.mpr fun e => h (mk_inj e).symm
      rw [h1, Bool.false_or]
      simp [h]
theorem op_notIn_seqK {X : Cx} {Kf : PySem.W.Frag} (hK : X.K = Kf := by rfl) : OpR X (compareOp .NotIn) (rIn Kf true) := by
  subst hK
  exact op_notIn_seq
section
variable {P : Program} {w : World} {K : PySem.W.Frag} {mg : Str → Option Value} {base : Heap}
def spNumbers (K : PySem.W.Frag) : Sp := fun vs H Q _ => ∃ (p : Addr) (n : Nat), vs = [.ref p, .int n] ∧ PurseAt H p ∧ n ≤ 13 ∧ ∀ H' x xs, Kp (· = p) H H' → PurseAt H' p → SqT K H' x xs → (∀ v ∈ xs, VOk v) → xs.length ≤ 13 → Q (.ref x) H'
theorem ok_law_numbers (T : Tx K mg w) : Ok1 P w K mg base 2 "_law_numbers" ["_law_purse_here", "_law_many"] (spNumbers K) := by
  have nd := sc_law_numbers.nd
  have tk := ok_law_take (P := P) (base := base) T
  refine T.d_law_numbers.mk sc_law_numbers bn_law_numbers (fun vs H Q E h => ?_) (fun cdv A outer s H vs Q E hr h => ?_)
  · obtain ⟨p, n, rfl, _⟩ := h
    rfl
  · obtain ⟨p, n, rfl, hp, hn, q⟩ := h
    have hr1 := hr
    refine ⟨_, pss_cons (ps_set (i := 2) nd rfl (.inl rfl) (pe_lst pa_nil))
      (pss_cons (ps_for PassesOwn.never rfl (pi_range1 rfl T.z_range (pa_cons (pv 1) pa_nil)) (pg_name (i := 3) nd rfl (.inl rfl)) (pss_cons (ps_set (i := 4) nd rfl (.inl rfl) (pe_cmpR op_eq (pe_g tk hr1 (pa_cons (pv 0) (pa_cons pe_int pa_nil))) pe_int (nomark _)))
      (pss_one (ps_expr (pe_bm PySem.F.plainAttrs_list PySem.F.slot_list_append PySem.F.type_list_append mt_append (pv 2) (pa_cons (pe_ifExp (pt_val (pv 4)) (pe_op op_add (pe_op op_pow pe_int pe_int) (pe_g tk hr1 (pa_cons (pv 0) (pa_cons pe_int pa_nil)))) (pe_op op_sub (pe_g tk hr1 (pa_cons (pv 0) (pa_cons pe_int pa_nil))) pe_int)) pa_nil))))))
      (pss_one (ps_ret (pe_callTy call_tuple_of (by rfl) T.z_tuple bt_tuple (pa_cons (pv 2) pa_nil))))), ?_⟩
    refine ⟨by show 0 ≤ sizeLine; decide, fun a na => ?_⟩
    have s0 := same_new (o := HO.lst []) na
    have ap := purse_ne hp na
    refine ⟨_, rfl, (n : Int), rfl, by omega, by omega, ?_⟩
    refine for_it walk_range (fun i σ H' => ∃ (xs : List V) (o3 o4 : Option V), σ = [some (.ref p), some (.int n), some (.ref a), o3, o4] ∧ Kp (· = p) H H' ∧ PurseAt H' p ∧ H' a = some (.lst xs) ∧ (∀ v ∈ xs, VOk v) ∧ xs.length = i)
      ⟨[], none, none, rfl, Same.kp s0, hp.same s0, upd_same, (fun v hv => by cases hv), rfl⟩ (fun _ _ _ _ _ => trivial) (fun i x σ H4 H5 hi hpv hy => ?_) (fun σ H4 hpv => ?_)
    · obtain ⟨xs, o3, o4, rfl, k4, p4, ha, hok, hl⟩ := hpv
      obtain ⟨rfl, rfl⟩ := hy
      refine ⟨_, rfl, p, 5, rfl, p4, by decide, by decide, fun G1 r1 q1 w1 l1 => ⟨rfl, ?_⟩⟩
      have ha1 := q1 _ _ ha (.inl ap)
      have put : ∀ (G2 : Hp) (z : Int) (o4 : Option V), Kp (· = p) H5 G2 → PurseAt G2 p → z.natAbs < big → ∃ ys o3' o4', [some (.ref p), some (V.int n), some (.ref a), some (V.int (0 + (i : Int))), o4] = [some (.ref p), some (V.int n), some (.ref a), o3', o4'] ∧ Kp (· = p) H (upd G2 a (.lst (xs ++ [.int z]))) ∧ PurseAt (upd G2 a (.lst (xs ++ [.int z]))) p ∧ (upd G2 a (.lst (xs ++ [.int z]))) a = some (.lst ys) ∧ (∀ v ∈ ys, VOk v) ∧ ys.length = i + 1 := fun G2 z o4 k w hz => by
        refine ⟨xs ++ [.int z], _, _, rfl, fun b o e m => ?_, ?_, upd_same, fun v hv => ?_, by rw [List.length_append, hl]; rfl⟩
        · exact (upd_ne fun z => by rw [z, na] at e; cases e).trans (k _ _ (k4 _ _ e m) m)
        · obtain ⟨x, y, z, h1, h2⟩ := w
          exact ⟨x, y, z, (upd_ne ap.symm).trans h1, h2⟩
        · rcases List.mem_append.mp hv with h | h
          · exact hok v h
          · rw [List.mem_singleton.mp h]; exact .inl ⟨z, rfl, hz⟩
      have hi13 : i < 13 := by omega
      have hlt : xs.length < sizeLine := by rw [hl]; exact Nat.lt_of_lt_of_le hi13 (by decide)
      refine ⟨_, rfl, .inl ⟨rfl, xs, SqL.of ha1⟩, _, rfl, _, rfl, ?_⟩
      by_cases h0 : r1 = 0
      · refine ifT (by rw [h0]; decide +kernel) ⟨10, 35, rfl, rfl, ⟨by decide, by decide, by decide⟩, _, rfl, p, 9, rfl, w1, by decide, by decide, fun G2 r2 q2 w2 l2 => ⟨_, _, rfl, rfl, a, xs, _, rfl, rfl, q2 _ _ ha1 (.inl ap), hlt, ?_⟩⟩
        exact put G2 _ _ (q1.trans q2) w2 (by
          have e1 : (10 ^ (35 : Int).toNat : Int) = 100000000000000000000000000000000000 := by decide +kernel
          rw [e1]; unfold big; omega)
      · refine ifF (decide_eq_false fun z => h0 (by injection z with z; omega)) ⟨_, rfl, p, 12, rfl, w1, by decide, by decide, fun G2 r2 q2 w2 l2 => ⟨_, _, rfl, rfl, a, xs, _, rfl, rfl, q2 _ _ ha1 (.inl ap), hlt, ?_⟩⟩
        exact put G2 _ _ (q1.trans q2) w2 (by unfold big; omega)
    · obtain ⟨xs, o3, o4, rfl, k4, p4, ha, hok, hl⟩ := hpv
      refine ⟨_, rfl, a, xs, rfl, .inl ⟨SqL.of ha, fun x nx => ?_⟩⟩
      have sx := same_new (o := .tup xs) nx
      exact q _ x xs (k4.trans (Same.kp sx)) (p4.same sx) (SqT.of upd_same) hok (by rw [hl]; omega)
def spTagsIn (K : PySem.W.Frag) : Sp := fun vs H Q _ => ∃ (b : Addr) (ys : List V) (sgs : List SgL), vs = [.ref b] ∧ H b = some (.lst ys) ∧ StepsV K H ys sgs ∧ sgs.length ≤ 8 ∧ ∀ H' t tags, Same H H' → H t = none → H' t = some (.lst (tags.map fun n => V.str (mk n))) → NamesL tags → (∀ n ∈ namesOf sgs, n ∈ tags) → tags.length ≤ 40 → Q (.ref t) H'
theorem ok_law_names_in (T : Tx K mg w) : Ok1 P w K mg base 1 "_law_names_in" ["_law_steps"] (spTagsIn K) := by
  have nd := sc_law_names_in.nd
  refine T.d_law_names_in.mk sc_law_names_in bn_law_names_in (fun vs H Q E h => ?_) (fun cdv A outer s H vs Q E hr h => ?_)
  · obtain ⟨b, ys, sgs, rfl, _⟩ := h
    rfl
  · obtain ⟨b, ys, sgs, rfl, hb, hS, h8, q⟩ := h
    refine ⟨_, pss_cons (ps_set (i := 1) nd rfl (.inr rfl) (pe_lst pa_nil))
      (pss_cons (ps_for PassesOwn.never rfl (pi_list (pv 0)) (pg_name (i := 2) nd rfl (.inl rfl)) (pss_one (ps_if (PW.pt (pw_and (pt_val (pe_callB call_isi (by rfl) T.z_isinstance bt_isinstance (pa_cons (pe_ix ix_tup (pv 2) pe_int (fun _ _ => rfl)) (pa_cons (pe_bltn (v := .ty "tuple") (by rfl) T.z_tuple bt_tuple rfl) pa_nil)))) (pw_and1 (pt_cmpR op_ne (pe_ix ix_tup (pv 2) pe_int (fun _ _ => rfl)) pe_str (nomark _))))) (pss_one (ps_set (i := 1) nd rfl (.inr rfl) (pe_op op_cat (pv 1) (pe_lc (own := [("_law_tag", 3)]) (g := gName 3) rfl nd (pi_tup (pe_ix ix_tup (pv 2) pe_int (fun _ _ => rfl))) (blkOk_by (N := ["_law_steps", "_law_found", "_law_part_here", "_law_tag"]) (sc := defScope s_law_names_in) (by decide +kernel)) (fun _ _ _ _ _ => pg_name (i := 3) nd rfl (Or.inl rfl)) (fun _ _ _ _ _ => pts_one (pt_cmpR (op_notIn_seqK (Kf := K)) (pv 3) (pv 1) (by rfl))) (fun _ _ _ _ _ => pv 3))))) pss_nil)))
      (pss_one (ps_ret (pv 1)))), ?_⟩
    refine ⟨by show 0 ≤ sizeLine; decide, fun f0 nf0 => ?_⟩
    have s0 := same_new (o := HO.lst []) nf0
    refine ⟨_, rfl, b, rfl, ⟨_, SqL.of (s0 _ _ hb)⟩, ?_⟩
    refine for_list (xs := ys) (fun i σ H' => ∃ (f : Addr) (tags : List Nm) (o2 o3 : Option V), σ = [some (.ref b), some (.ref f), o2, o3] ∧ Same H H' ∧ H f = none ∧ H' f = some (.lst (tags.map fun n => V.str (mk n))) ∧ NamesL tags ∧ (∀ n ∈ namesOf (sgs.take i), n ∈ tags) ∧ tags.length ≤ 4 * i)
      ⟨f0, [], none, none, rfl, s0, nf0, upd_same, (fun n hn => by cases hn), (fun n hn => by cases hn), Nat.le_refl _⟩ (fun i σ H' _ ⟨_, _, _, _, _, s, _⟩ => SqL.of (s _ _ hb)) (fun i y σ H1 hy hpv => ?_) (fun σ H1 hpv => ?_)
    · obtain ⟨f, tags, o2, o3, rfl, s1, nf, hf, hn, hall, hl⟩ := hpv
      have hi : i < ys.length := (List.getElem?_eq_some_iff.mp hy).1
      have hsl := hS.1
      have hsi : sgs[i]? = some sgs[i] := List.getElem?_eq_getElem (by omega)
      generalize sgs[i] = sg at hsi
      obtain ⟨t, v, bb, rfl, ht, hd, ho⟩ := (hS.2 i y sg hy hsi).sml (SmL.of s1)
      have et : sgs.take (i + 1) = sgs.take i ++ [sg] := by rw [List.take_succ, hsi]; rfl
      have en : ∀ n, n ∈ namesOf (sgs.take (i + 1)) → n ∈ namesOf (sgs.take i) ∨ n ∈ sgNames sg := fun n hn => by
        rw [et] at hn
        unfold namesOf at hn
        rw [List.map_append, List.flatten_append] at hn
        rcases List.mem_append.mp hn with z | z
        · exact .inl z
        · exact .inr (by simpa using z)
      have no : sgNames sg = [] → ∃ (f' : Addr) (tags : List Nm) (o2' o3' : Option V), [some (.ref b), some (.ref f), some (.ref t), o3] = [some (V.ref b), some (.ref f'), o2', o3'] ∧ Same H H1 ∧ H f' = none ∧ H1 f' = some (.lst (tags.map fun n => V.str (mk n))) ∧ NamesL tags ∧ (∀ n ∈ namesOf (sgs.take (i + 1)), n ∈ tags) ∧ tags.length ≤ 4 * (i + 1) := fun e =>
        ⟨f, tags, _, _, rfl, s1, nf, hf, hn, fun n hm => (en n hm).elim (hall n) (fun z => by rw [e] at z; cases z), by omega⟩
      cases sg with
      | each w now =>
        obtain ⟨a, rfl, ha⟩ := hd
        have hwn : NamesL w ∧ w.length ≤ 4 := ⟨ho.1, by have := ho.2; omega⟩
        refine ⟨_, rfl, t, _, 1, _, rfl, rfl, ht, atI_nat (j := 1) rfl, .ref a, .ty "tuple", .type "tuple", .type "tuple", true, rfl, .ty _, tyx_tup ha, kit_ty (by decide +kernel), true, rfl, ?_⟩
        refine ifT rfl ⟨_, rfl, t, _, 0, _, rfl, rfl, ht, atI_nat (j := 0) rfl, rfl, _, rfl, ?_⟩
        refine ifT (by show (!decide (V.str (Str.ofString "each") = V.str (Str.ofString "every"))) = true; decide +kernel) ?_
        refine ⟨_, rfl, _, rfl, t, _, 1, _, rfl, rfl, ht, atI_nat (j := 1) rfl, a, rfl, ⟨_, ha⟩, fun D nD => ?_⟩
        have fD : f ≠ D := fun e => by rw [← e, hf] at nD; cases nD
        have sD := same_new (o := HO.lst []) nD
        refine lc_it (walk_tup (xs := w.map fun n => V.str (mk n))) (fun j H' => Same H1 H' ∧ ∃ acc : List Nm, H' D = some (.lst (acc.map fun n => V.str (mk n))) ∧ (∀ n ∈ acc, n ∈ w) ∧ (∀ n ∈ w.take j, n ∈ tags ∨ n ∈ acc) ∧ acc.length ≤ j)
          ⟨sD, [], upd_same, (fun n hn => by cases hn), (fun n hn => by cases hn), Nat.le_refl _⟩ (fun j H' _ h => same_seqT h.1 ha) (fun j x H4 H5 hj hpv hy => ?_) (fun H4 hpv => ?_)
        · obtain ⟨s4, acc, hD4, hacc, hcov, hal⟩ := hpv
          obtain ⟨rfl, hx⟩ := hy
          rw [List.getElem?_map] at hx
          rw [List.length_map] at hj
          cases hwj : w[j]? with
          | none => rw [hwj] at hx; cases hx
          | some n =>
            rw [hwj] at hx
            cases hx
            have hnw := List.mem_of_getElem? hwj
            have etw : w.take (j + 1) = w.take j ++ [n] := by rw [List.take_succ, hwj]; rfl
            refine ⟨rfl, _, rfl, _, rfl, f, _, rfl, .inl (SqL.of (s4 _ _ hf)), rfl, flat_strs tags, _, rfl, ?_⟩
            show if (!inV (V.str (mk n)) (tags.map fun n => V.str (mk n))) = true then _ else _
            rw [inV_names]
            by_cases hnt : n ∈ tags
            · refine ifF (by rw [decide_eq_true hnt]; rfl) ⟨s4, acc, hD4, hacc, fun m hm => ?_, by omega⟩
              rw [etw] at hm
              rcases List.mem_append.mp hm with z | z
              · exact hcov m z
              · rw [List.mem_singleton.mp z]; exact .inl hnt
            · refine ifT (by rw [decide_eq_false hnt]; rfl) ⟨_, rfl, _, hD4, by rw [List.length_map]; exact Nat.lt_of_le_of_lt hal (Nat.lt_of_lt_of_le hj (Nat.le_trans hwn.2 (by decide))), fun b o e => ?_, acc ++ [n], ?_, fun m hm => ?_, fun m hm => ?_, by rw [List.length_append]; simp; omega⟩
              · exact (upd_ne (ne_of_none e nD)).trans (s4 _ _ e)
              · rw [upd_same, List.map_append]; rfl
              · rcases List.mem_append.mp hm with z | z
                · exact hacc m z
                · rw [List.mem_singleton.mp z]; exact hnw
              · rw [etw] at hm
                rcases List.mem_append.mp hm with z | z
                · exact (hcov m z).imp id (List.mem_append_left _)
                · rw [List.mem_singleton.mp z]; exact .inr (List.mem_append_right _ List.mem_cons_self)
        · obtain ⟨s4, acc, hD4, hacc, hcov, hal⟩ := hpv
          rw [List.length_map] at hcov hal
          rw [List.take_length] at hcov
          refine ⟨f, D, _, _, rfl, rfl, s4 _ _ hf, hD4, by rw [List.length_map, List.length_map]; exact Nat.le_trans (show tags.length + acc.length ≤ 100 by have := hwn.2; omega) (by decide), fun g ng => ?_⟩
          have sg := same_new (o := HO.lst ((tags.map fun n => V.str (mk n)) ++ acc.map fun n => V.str (mk n))) ng
          have s14 := (s1.trans s4)
          have hgH : H g = none := by
            cases e : H g with
            | none => rfl
            | some o => rw [s14 _ _ e] at ng; cases ng
          refine ⟨g, tags ++ acc, _, _, rfl, s14.trans sg, hgH, by rw [upd_same, List.map_append], fun n hm => ?_, fun n hm => ?_, by rw [List.length_append]; have := hwn.2; omega⟩
          · rcases List.mem_append.mp hm with z | z
            · exact hn n z
            · exact hwn.1 n (hacc n z)
          · rcases en n hm with z | z
            · exact List.mem_append_left _ (hall n z)
            · exact (hcov n z).elim (List.mem_append_left _) (List.mem_append_right _)
      | ask k w now =>
        obtain ⟨a, rfl, ha⟩ := hd
        have hwn : NamesL w ∧ w.length ≤ 4 := ⟨ho.1, ho.2.2⟩
        refine ⟨_, rfl, t, _, 1, _, rfl, rfl, ht, atI_nat (j := 1) rfl, .ref a, .ty "tuple", .type "tuple", .type "tuple", true, rfl, .ty _, tyx_tup ha, kit_ty (by decide +kernel), true, rfl, ?_⟩
        refine ifT rfl ⟨_, rfl, t, _, 0, _, rfl, rfl, ht, atI_nat (j := 0) rfl, rfl, _, rfl, ?_⟩
        refine ifT (by exact ask_every k w now) ?_
        refine ⟨_, rfl, _, rfl, t, _, 1, _, rfl, rfl, ht, atI_nat (j := 1) rfl, a, rfl, ⟨_, ha⟩, fun D nD => ?_⟩
        have fD : f ≠ D := fun e => by rw [← e, hf] at nD; cases nD
        have sD := same_new (o := HO.lst []) nD
        refine lc_it (walk_tup (xs := w.map fun n => V.str (mk n))) (fun j H' => Same H1 H' ∧ ∃ acc : List Nm, H' D = some (.lst (acc.map fun n => V.str (mk n))) ∧ (∀ n ∈ acc, n ∈ w) ∧ (∀ n ∈ w.take j, n ∈ tags ∨ n ∈ acc) ∧ acc.length ≤ j)
          ⟨sD, [], upd_same, (fun n hn => by cases hn), (fun n hn => by cases hn), Nat.le_refl _⟩ (fun j H' _ h => same_seqT h.1 ha) (fun j x H4 H5 hj hpv hy => ?_) (fun H4 hpv => ?_)
        · obtain ⟨s4, acc, hD4, hacc, hcov, hal⟩ := hpv
          obtain ⟨rfl, hx⟩ := hy
          rw [List.getElem?_map] at hx
          rw [List.length_map] at hj
          cases hwj : w[j]? with
          | none => rw [hwj] at hx; cases hx
          | some n =>
            rw [hwj] at hx
            cases hx
            have hnw := List.mem_of_getElem? hwj
            have etw : w.take (j + 1) = w.take j ++ [n] := by rw [List.take_succ, hwj]; rfl
            refine ⟨rfl, _, rfl, _, rfl, f, _, rfl, .inl (SqL.of (s4 _ _ hf)), rfl, flat_strs tags, _, rfl, ?_⟩
            show if (!inV (V.str (mk n)) (tags.map fun n => V.str (mk n))) = true then _ else _
            rw [inV_names]
            by_cases hnt : n ∈ tags
            · refine ifF (by rw [decide_eq_true hnt]; rfl) ⟨s4, acc, hD4, hacc, fun m hm => ?_, by omega⟩
              rw [etw] at hm
              rcases List.mem_append.mp hm with z | z
              · exact hcov m z
              · rw [List.mem_singleton.mp z]; exact .inl hnt
            · refine ifT (by rw [decide_eq_false hnt]; rfl) ⟨_, rfl, _, hD4, by rw [List.length_map]; exact Nat.lt_of_le_of_lt hal (Nat.lt_of_lt_of_le hj (Nat.le_trans hwn.2 (by decide))), fun b o e => ?_, acc ++ [n], ?_, fun m hm => ?_, fun m hm => ?_, by rw [List.length_append]; simp; omega⟩
              · exact (upd_ne (ne_of_none e nD)).trans (s4 _ _ e)
              · rw [upd_same, List.map_append]; rfl
              · rcases List.mem_append.mp hm with z | z
                · exact hacc m z
                · rw [List.mem_singleton.mp z]; exact hnw
              · rw [etw] at hm
                rcases List.mem_append.mp hm with z | z
                · exact (hcov m z).imp id (List.mem_append_left _)
                · rw [List.mem_singleton.mp z]; exact .inr (List.mem_append_right _ List.mem_cons_self)
        · obtain ⟨s4, acc, hD4, hacc, hcov, hal⟩ := hpv
          rw [List.length_map] at hcov hal
          rw [List.take_length] at hcov
          refine ⟨f, D, _, _, rfl, rfl, s4 _ _ hf, hD4, by rw [List.length_map, List.length_map]; exact Nat.le_trans (show tags.length + acc.length ≤ 100 by have := hwn.2; omega) (by decide), fun g ng => ?_⟩
          have sg := same_new (o := HO.lst ((tags.map fun n => V.str (mk n)) ++ acc.map fun n => V.str (mk n))) ng
          have s14 := (s1.trans s4)
          have hgH : H g = none := by
            cases e : H g with
            | none => rfl
            | some o => rw [s14 _ _ e] at ng; cases ng
          refine ⟨g, tags ++ acc, _, _, rfl, s14.trans sg, hgH, by rw [upd_same, List.map_append], fun n hm => ?_, fun n hm => ?_, by rw [List.length_append]; have := hwn.2; omega⟩
          · rcases List.mem_append.mp hm with z | z
            · exact hn n z
            · exact hwn.1 n (hacc n z)
          · rcases en n hm with z | z
            · exact List.mem_append_left _ (hall n z)
            · exact (hcov n z).elim (List.mem_append_left _) (List.mem_append_right _)
      | first n now =>
        cases hd
        refine ⟨_, rfl, t, _, 1, _, rfl, rfl, ht, atI_nat (j := 1) rfl, .int n, .ty "tuple", .type "int", .type "tuple", false, rfl, .ty _, .base (.int _), kit_ty (by decide +kernel), false, rfl, ?_⟩
        exact ifF rfl (no rfl)
      | skip n now =>
        cases hd
        refine ⟨_, rfl, t, _, 1, _, rfl, rfl, ht, atI_nat (j := 1) rfl, .int n, .ty "tuple", .type "int", .type "tuple", false, rfl, .ty _, .base (.int _), kit_ty (by decide +kernel), false, rfl, ?_⟩
        exact ifF rfl (no rfl)
      | last n =>
        cases hd
        refine ⟨_, rfl, t, _, 1, _, rfl, rfl, ht, atI_nat (j := 1) rfl, .int n, .ty "tuple", .type "int", .type "tuple", false, rfl, .ty _, .base (.int _), kit_ty (by decide +kernel), false, rfl, ?_⟩
        exact ifF rfl (no rfl)
      | but n =>
        cases hd
        refine ⟨_, rfl, t, _, 1, _, rfl, rfl, ht, atI_nat (j := 1) rfl, .int n, .ty "tuple", .type "int", .type "tuple", false, rfl, .ty _, .base (.int _), kit_ty (by decide +kernel), false, rfl, ?_⟩
        exact ifF rfl (no rfl)
      | turned =>
        cases hd
        refine ⟨_, rfl, t, _, 1, _, rfl, rfl, ht, atI_nat (j := 1) rfl, .non, .ty "tuple", .type "NoneType", .type "tuple", false, rfl, .ty _, .base .non, kit_ty (by decide +kernel), false, rfl, ?_⟩
        exact ifF rfl (no rfl)
      | every k r now =>
        obtain ⟨a, rfl, ha⟩ := hd
        refine ⟨_, rfl, t, _, 1, _, rfl, rfl, ht, atI_nat (j := 1) rfl, .ref a, .ty "tuple", .type "tuple", .type "tuple", true, rfl, .ty _, tyx_tup ha, kit_ty (by decide +kernel), true, rfl, ?_⟩
        refine ifT rfl ⟨_, rfl, t, _, 0, _, rfl, rfl, ht, atI_nat (j := 0) rfl, rfl, _, rfl, ?_⟩
        exact ifF (by show (!decide (V.str (Str.ofString "every") = V.str (Str.ofString "every"))) = false; decide +kernel) (no rfl)
    · obtain ⟨f, tags, o2, o3, rfl, s1, nf, hf, hn, hall, hl⟩ := hpv
      have hsl := hS.1
      rw [List.take_of_length_le (by omega)] at hall
      exact ⟨_, rfl, q H1 f tags s1 nf hf hn hall (by omega)⟩
end
end K

set_option Elab.async false
set_option linter.all false
set_option maxRecDepth 100000
set_option maxHeartbeats 4000000
/-! K6Math: what the calls of a play are: names, and values that functions take. -/
namespace K
open PySem PySem.Spec PyProof.Rows L2 He TL LamX
def EvOk (e : Ev) : Prop := isNameL e.1 = true ∧ VOk e.2.1 ∧ VOk e.2.2
def StOk (s : Strm V Ev) : Prop := (∀ p ∈ s.items, VOk p.2 ∧ ∀ e ∈ p.1, EvOk e) ∧ ∀ e ∈ s.fin, EvOk e
theorem ok_app {a b : List Ev} (h1 : ∀ e ∈ a, EvOk e) (h2 : ∀ e ∈ b, EvOk e) : ∀ e ∈ a ++ b, EvOk e := fun e he => (List.mem_append.mp he).elim (h1 e) (h2 e)
theorem tr_ok {S : Type} {st : Step S V Ev} (hst : ∀ q v, VOk v → (∀ e ∈ (st q v).1, EvOk e) ∧ ∀ v', (st q v).2.1 = some v' → VOk v') : ∀ (items : List (List Ev × V)) (q : S) (acc fin : List Ev), (∀ e ∈ acc, EvOk e) → (∀ p ∈ items, VOk p.2 ∧ ∀ e ∈ p.1, EvOk e) → (∀ e ∈ fin, EvOk e) → StOk (tr st q acc items fin)
  | [], q, acc, fin, h1, _, h3 => by
    rw [tr_nil]
    exact ⟨fun p hp => (by cases hp), ok_app h1 h3⟩
  | (l, v) :: rest, q, acc, fin, h1, h2, h3 => by
    obtain ⟨lg, r, q', ov, e⟩ : ∃ lg r q' ov, st q v = (lg, r, q', ov) := ⟨_, _, _, _, rfl⟩
    obtain ⟨hv, hl⟩ := h2 (l, v) List.mem_cons_self
    have hs := hst q v hv
    rw [e] at hs
    have hr := fun p hp => h2 p (List.mem_cons_of_mem _ hp)
    have ha : ∀ e ∈ acc ++ l ++ lg, EvOk e := ok_app (ok_app h1 hl) hs.1
    cases r with
    | none =>
      rw [tr_none e]
      split
      · exact ⟨fun p hp => (by cases hp), ha⟩
      · exact tr_ok hst rest q' _ fin ha hr h3
    | some v1 =>
      rw [tr_some e]
      have ih : StOk (if ov = true then Strm.nil else tr st q' [] rest fin) := by
        split
        · exact ⟨fun p hp => (by cases hp), fun e he => (by cases he)⟩
        · exact tr_ok hst rest q' [] fin (fun e he => by cases he) hr h3
      refine ⟨fun p hp => ?_, ih.2⟩
      rcases List.mem_cons.mp hp with rfl | hp
      · exact ⟨hs.2 v1 rfl, ha⟩
      · exact ih.1 p hp
theorem trS_ok {S : Type} {st : Step S V Ev} (hst : ∀ q v, VOk v → (∀ e ∈ (st q v).1, EvOk e) ∧ ∀ v', (st q v).2.1 = some v' → VOk v') (q : S) {s : Strm V Ev} (h : StOk s) : StOk (trS st q s) := tr_ok hst s.items q [] s.fin (fun e he => by cases he) h.1 h.2
theorem run_ok {s : Strm V Ev} (h : StOk s) : (∀ v ∈ s.run.1, VOk v) ∧ ∀ e ∈ s.run.2, EvOk e := by
  refine ⟨fun v hv => ?_, ok_app (fun e he => ?_) h.2⟩
  · obtain ⟨p, hp, rfl⟩ := List.mem_map.mp hv
    exact (h.1 p hp).1
  · obtain ⟨l, hl, he⟩ := List.mem_flatten.mp he
    obtain ⟨p, hp, rfl⟩ := List.mem_map.mp hl
    exact (h.1 p hp).2 e he
theorem lst_ok {xs : List V} (h : ∀ v ∈ xs, VOk v) : StOk (Strm.lst xs) := by
  refine ⟨fun p hp => ?_, fun e he => by cases he⟩
  obtain ⟨v, hv, rfl⟩ := List.mem_map.mp hp
  exact ⟨h v hv, fun e he => by cases he⟩
section
variable {F : Nm → Act} {ns : List Nm}
def FOkN (F : Nm → Act) (ns : List Nm) : Prop := ∀ n ∈ ns, isNameL n = true ∧ ActOk (F n)
theorem behF_evs (hF : FOkN F ns) : ∀ {w : List Nm} {v : V}, (∀ n ∈ w, n ∈ ns) → VOk v → ∀ e ∈ (behF F w v).2, EvOk e
  | [], _, _, _, e, he => by cases he
  | n :: w, v, hw, hv, e, he => by
    have hw' := fun m hm => hw m (List.mem_cons_of_mem _ hm)
    have ho : VOk (behF F w v).1 := behF_ok (fun m hm => (hF m (hw' m hm)).2) hv
    rcases List.mem_append.mp (show e ∈ (behF F w v).2 ++ [(n, (behF F w v).1, (F n).ans (behF F w v).1)] from he) with z | z
    · exact behF_evs hF hw' hv e z
    · rw [List.mem_singleton.mp z]
      exact ⟨(hF n (hw n List.mem_cons_self)).1, ho, ans_ok (hF n (hw n List.mem_cons_self)).2⟩
theorem passF_evs (hF : FOkN F ns) {v : V} (hv : VOk v) : ∀ {ts : List Tst}, (∀ t ∈ ts, ∀ n ∈ t.1, n ∈ ns) → ∀ e ∈ (passF F ts v).2, EvOk e
  | [], _, e, he => by cases he
  | t :: r, ht, e, he => by
    have h1 := behF_evs hF (ht t List.mem_cons_self) hv
    have ih := passF_evs hF hv (ts := r) fun x hx => ht x (List.mem_cons_of_mem _ hx)
    unfold passF at he
    split at he
    · exact ok_app h1 ih e he
    · exact h1 e he
theorem rows_ok (hF : FOkN F ns) {ts : List Tst} {w : List Nm} (ht : ∀ t ∈ ts, ∀ n ∈ t.1, n ∈ ns) (hw : ∀ n ∈ w, n ∈ ns) {s : Strm V Ev} (h : StOk s) : StOk (trS (rowsStep F ts w) () s) := trS_ok (fun q v hv => by
  have h1 := passF_evs hF hv ht
  unfold rowsStep
  split
  · exact ⟨ok_app h1 (behF_evs hF hw hv), fun v' e => by
      cases e
      exact behF_ok (fun n hn => (hF n (hw n hn)).2) hv⟩
  · exact ⟨h1, fun v' e => (by cases e)⟩) () h
theorem take_ok (hF : FOkN F ns) {ts : List Tst} (ht : ∀ t ∈ ts, ∀ n ∈ t.1, n ∈ ns) {s : Strm V Ev} (h : StOk s) : StOk (trS (takeStep F ts) () s) := trS_ok (fun q v hv => by
  have h1 := passF_evs hF hv ht
  unfold takeStep
  split
  · exact ⟨h1, fun v' e => by cases e; exact hv⟩
  · exact ⟨h1, fun v' e => (by cases e)⟩) () h
theorem drop_ok (hF : FOkN F ns) {ts : List Tst} (ht : ∀ t ∈ ts, ∀ n ∈ t.1, n ∈ ns) (op : Bool) {s : Strm V Ev} (h : StOk s) : StOk (trS (dropStep F ts) op s) := trS_ok (fun q v hv => by
  have h1 := passF_evs hF hv ht
  unfold dropStep
  split
  · exact ⟨fun e he => (by cases he), fun v' e => by cases e; exact hv⟩
  · split
    · exact ⟨h1, fun v' e => (by cases e)⟩
    · exact ⟨h1, fun v' e => by cases e; exact hv⟩) op h
theorem first_ok (n i : Nat) {s : Strm V Ev} (h : StOk s) : StOk (firstS n i s) := by
  unfold firstS
  split
  · exact ⟨fun p hp => (by cases hp), fun e he => (by cases he)⟩
  · exact trS_ok (fun q v hv => ⟨fun e he => (by cases he), fun v' e => by cases e; exact hv⟩) i h
theorem slice_ok (k : Nat) (q : Nat × Nat) {s : Strm V Ev} (h : StOk s) : StOk (trS (sliceStep k) q s) := trS_ok (fun q v hv => by
  unfold sliceStep
  split
  · exact ⟨fun e he => (by cases he), fun v' e => (by cases e)⟩
  · exact ⟨fun e he => (by cases he), fun v' e => by cases e; exact hv⟩) q h
theorem one_tst {t : List Nm} (h : ∀ n ∈ t, n ∈ ns) : ∀ u ∈ [((t, true) : Tst)], ∀ n ∈ u.1, n ∈ ns := fun u hu => by rw [List.mem_singleton.mp hu]; exact h
theorem clS_ok (hF : FOkN F ns) {c : Cl} (hc : ∀ n ∈ clNames c, n ∈ ns) {s : Strm V Ev} (h : StOk s) : StOk (clS F s c) := by
  cases c with
  | call k f => cases k with
    | map => exact rows_ok hF (fun t ht => by cases ht) hc h
    | filter => exact rows_ok hF (one_tst hc) (fun n hn => by cases hn) h
    | takewhile => exact take_ok hF (one_tst hc) h
    | dropwhile => exact drop_ok hF (one_tst hc) false h
  | lam x t => cases x with
    | true => exact take_ok hF (one_tst hc) h
    | false => exact drop_ok hF (one_tst hc) false h
  | first n => exact first_ok n 0 h
  | skip n => exact slice_ok 1 _ h
  | every k r => exact slice_ok k _ h
theorem eager_ok (b : Bool) {s : Strm V Ev} (h : StOk s) : StOk (eager b s).1 ∧ ∀ e ∈ (eager b s).2, EvOk e := by
  unfold eager
  cases b with
  | true => exact ⟨lst_ok (run_ok h).1, (run_ok h).2⟩
  | false => exact ⟨h, fun e he => by cases he⟩
theorem cl_names_of {now : Bool} {c : Cl} {n : Nm} (hn : n ∈ clNames c) : n ∈ namesOf (lnSg (.cl c now)) := by
  have : sgNames (clSg now c) = clNames c := by
    cases c with
    | call k f => cases k <;> rfl
    | lam x t => cases x <;> rfl
    | _ => rfl
  show n ∈ ([clSg now c].map sgNames).flatten
  rw [List.map_singleton, List.flatten_singleton, this]
  exact hn
theorem lineS_ok (hF : FOkN F ns) {l : Ln} (hn : ∀ n ∈ namesOf (lnSg l), n ∈ ns) {s : Strm V Ev} (h : StOk s) : StOk (lineS F s l).1 ∧ ∀ e ∈ (lineS F s l).2, EvOk e := by
  have hr := run_ok h
  cases l with
  | comp w cs now =>
    refine eager_ok now (rows_ok hF (fun t ht => ?_) (fun n hw => hn n (comp_has_w now hw)) h)
    obtain ⟨c, hc, rfl⟩ := List.mem_map.mp ht
    exact fun n hc2 => hn n (comp_has_c now hc hc2)
  | cl c now => exact eager_ok now (clS_ok hF (fun n hc => hn n (cl_names_of hc)) h)
  | all => exact ⟨lst_ok hr.1, hr.2⟩
  | last n => exact ⟨lst_ok fun v hv => hr.1 v (List.mem_of_mem_drop hv), hr.2⟩
  | but n => exact ⟨lst_ok fun v hv => hr.1 v (List.mem_of_mem_take hv), hr.2⟩
  | turned => exact ⟨lst_ok fun v hv => hr.1 v (List.mem_reverse.mp hv), hr.2⟩
theorem carS_ok (hF : FOkN F ns) : ∀ {lns : List Ln} {s : Strm V Ev}, (∀ n ∈ namesOf (sgsOf lns), n ∈ ns) → StOk s → (∀ v ∈ (carS F lns s).1, VOk v) ∧ ∀ e ∈ (carS F lns s).2, EvOk e
  | [], s, _, h => run_ok h
  | l :: r, s, hn, h => by
    have h1 := lineS_ok hF (fun n hl => hn n (ln_names List.mem_cons_self hl)) h
    have e : sgsOf (l :: r) = lnSg l ++ sgsOf r := by unfold sgsOf; simp
    have ih := carS_ok hF (lns := r) (fun n hl => hn n (by
      rw [e]
      unfold namesOf at hl ⊢
      rw [List.map_append, List.flatten_append]
      exact List.mem_append_right _ hl)) h1.1
    exact ⟨ih.1, ok_app h1.2 ih.2⟩
end
end K

set_option Elab.async false
set_option linter.all false
set_option maxRecDepth 100000
set_option maxHeartbeats 4000000
/-! KL17: a run is right. -/
namespace K
open PySem PySem.Spec PyProof.Rows L2 He TL LamX CwR
def vD : V → PyData
  | .int i => .int i
  | .bl b => .bool b
  | _ => .none
def evD (e : Ev) : PyData := .tuple [.str (mk e.1), vD e.2.1, vD e.2.2]
def resD (r : List V × List Ev) : PyData := .tuple [.tuple (r.1.map vD), .tuple (r.2.map evD)]
def Plain (k B : Nat) (d : PyData) : Prop := d.showable = true ∧ d.hasDict = false ∧ d.depth ≤ k ∧ d.shown.length ≤ B
theorem plain_tup {k B : Nat} {ds : List PyData} (h : ∀ d ∈ ds, Plain k B d) : Plain (k + 1) ((B + 2) * ds.length + 3) (.tuple ds) := by
  have a : PyData.showableAll ds = true ∧ PyData.hasDictAll ds = false ∧ PyData.depthAll ds ≤ k := by
    induction ds with
    | nil => exact ⟨rfl, rfl, Nat.zero_le _⟩
    | cons d r ih =>
      obtain ⟨h1, h2, h3, _⟩ := h d List.mem_cons_self
      obtain ⟨i1, i2, i3⟩ := ih fun x hx => h x (List.mem_cons_of_mem _ hx)
      refine ⟨?_, ?_, ?_⟩
      · show (d.showable && PyData.showableAll r) = true
        rw [h1, i1]; rfl
      · show (d.hasDict || PyData.hasDictAll r) = false
        rw [h2, i2]; rfl
      · show max d.depth (PyData.depthAll r) ≤ k
        exact Nat.max_le.mpr ⟨h3, i3⟩
  exact ⟨a.1, a.2.1, by show PyData.depthAll ds + 1 ≤ k + 1; omega, shown_tup_le B fun d hd => (h d hd).2.2.2⟩
theorem Plain.mono {k B k' B' : Nat} {d : PyData} (h : Plain k B d) (h1 : k ≤ k') (h2 : B ≤ B') : Plain k' B' d := ⟨h.1, h.2.1, Nat.le_trans h.2.2.1 h1, Nat.le_trans h.2.2.2 h2⟩
theorem plain_v {v : V} (h : VOk v) : Plain 0 42 (vD v) := by
  rcases h with ⟨i, rfl, hi⟩ | ⟨b, rfl⟩
  · refine ⟨decide_eq_true ?_, rfl, Nat.le_refl _, Nat.le_trans (shown_int_le hi) (by decide)⟩
    by_cases h0 : i.natAbs = 0
    · rw [h0]; decide
    · exact (Nat.log2_lt h0).mpr (Nat.lt_of_lt_of_le hi (by unfold big; decide +kernel))
  · exact ⟨rfl, rfl, Nat.le_refl _, by cases b <;> decide +kernel⟩
theorem plain_ev {e : Ev} (h : EvOk e) : Plain 1 140 (evD e) := by
  refine (plain_tup (k := 0) (B := 42) fun d hd => ?_).mono (Nat.le_refl _) (by show (42 + 2) * 3 + 3 ≤ 140; decide)
  rcases List.mem_cons.mp hd with rfl | hd
  · exact ⟨rfl, rfl, Nat.le_refl _, shown_name_le h.1⟩
  · rcases List.mem_cons.mp hd with rfl | hd
    · exact plain_v h.2.1
    · rw [List.mem_singleton.mp hd]; exact plain_v h.2.2
theorem plain_vs {xs : List V} (h : ∀ v ∈ xs, VOk v) (hl : xs.length ≤ 20) : Plain 1 2000 (.tuple (xs.map vD)) := by
  refine (plain_tup (k := 0) (B := 42) fun d hd => ?_).mono (Nat.le_refl _) (by rw [List.length_map]; omega)
  obtain ⟨v, hv, rfl⟩ := List.mem_map.mp hd
  exact plain_v (h v hv)
theorem plain_res {r : List V × List Ev} (h1 : ∀ v ∈ r.1, VOk v) (h2 : ∀ e ∈ r.2, EvOk e) (l1 : r.1.length ≤ 20) (l2 : r.2.length ≤ 3000) : Plain 3 900000 (resD r) := by
  refine (plain_tup (k := 2) (B := 430000) fun d hd => ?_).mono (Nat.le_refl _) (by show (430000 + 2) * 2 + 3 ≤ 900000; decide)
  rcases List.mem_cons.mp hd with rfl | hd
  · exact (plain_vs h1 l1).mono (by decide) (by decide)
  · rw [List.mem_singleton.mp hd]
    refine (plain_tup (k := 1) (B := 140) fun d hd => ?_).mono (by decide) (by rw [List.length_map]; omega)
    obtain ⟨e, he, rfl⟩ := List.mem_map.mp hd
    exact plain_ev (h2 e he)
section
variable {K : PySem.W.Frag} {H : Hp}
theorem v_dp {v : V} (h : VOk v) : Dp K H v (vD v) := by
  rcases h with ⟨i, rfl, _⟩ | ⟨b, rfl⟩
  · exact .int i
  · exact .bl b
theorem vs_dp : ∀ {xs : List V}, (∀ v ∈ xs, VOk v) → DpAll K H xs (xs.map vD)
  | [], _ => .nil
  | x :: r, h => .cons (v_dp (h x List.mem_cons_self)) (vs_dp fun v hv => h v (List.mem_cons_of_mem _ hv))
theorem ev_dp {y : V} {e : Ev} (h : EvV K H y e) (ho : EvOk e) : Dp K H y (evD e) := by
  obtain ⟨t, rfl, ht⟩ := h
  exact .tup ht (.cons (.str _) (.cons (v_dp ho.2.1) (.cons (v_dp ho.2.2) .nil)))
theorem evs_dp : ∀ {ys : List V} {es : List Ev}, EvsV K H ys es → (∀ e ∈ es, EvOk e) → DpAll K H ys (es.map evD)
  | [], [], _, _ => .nil
  | [], e :: r, h, _ => by have := h.1; simp at this
  | y :: r, [], h, _ => by have := h.1; simp at this
  | y :: r, e :: es, h, ho => by
    refine .cons (ev_dp (h.2 0 y e rfl rfl) (ho e List.mem_cons_self)) (evs_dp ⟨by have := h.1; simpa using this, fun i z f e1 e2 => h.2 (i + 1) z f e1 e2⟩ fun x hx => ho x (List.mem_cons_of_mem _ hx))
theorem res_dp {y : V} {r : List V × List Ev} (h : ResV K H y r) (h1 : ∀ v ∈ r.1, VOk v) (h2 : ∀ e ∈ r.2, EvOk e) : Dp K H y (resD r) := by
  obtain ⟨p, a, b, ys, rfl, hp, ha, hb, hy⟩ := h
  exact .tup hp (.cons (.tup ha (vs_dp h1)) (.cons (.tup hb (evs_dp hy h2)) .nil))
end
theorem vals_rev : ∀ {xs : List V} {us : List Value}, Vals xs us → Vals xs.reverse us.reverse
  | [], [], _ => .nil
  | x :: r, u :: s, .cons h1 h2 => by
    rw [List.reverse_cons, List.reverse_cons]
    exact (vals_rev h2).append (.cons h1 .nil)
section
variable {X : Cx}
/-- run(functions=.., entries=.., flow=..) -/
def tRunK (K : PySem.W.Frag) (tk : TA) : TE := fun σ H Q => tk σ H fun zs H2 => zs.length = 3 ∧ spRun K zs.reverse H2 Q E0
theorem pe_runK {Kf : PySem.W.Frag} {ks : List Keyword} {tk : TA} {p pos : Pos} (T : Tx Kf X.mg X.w) (hr : Room 7 X.A) (hkw : PK X ks tk) (hg : Gl X "run" := by rfl) (hK : X.K = Kf := by rfl)
    (hall : (backToKw pos (keywordEach ks X.env)).all (·.1.isSome) = true := by rfl) (hks : (backToKw pos (keywordEach ks X.env)).filterMap (·.1) = ([Str.ofString "functions", Str.ofString "entries", Str.ofString "flow"] : List Str) := by rfl)
    (hpl : ((backTo pos (starEach [] X.env)).any (·.1) || (backToKw pos (keywordEach ks X.env)).any (·.1.isNone)) = false := by rfl) : PE X (.Call (.Name "run" p) [] ks pos) (tRunK Kf tk) := by
  subst hK
  obtain ⟨fd, F, h⟩ := ok_runM (P := X.prog) (base := X.base) T
  have kb : KBn X.K fd ["flow", "entries", "functions"] 0 ["functions", "entries", "flow"] (fun us ws => ws.reverse) (fun vs zs => zs.reverse) := by
    obtain ⟨oc, od, dV, kV, doc, pm, an, cdv, ct, osl, rfl, lk, hcd, hD, hKw⟩ := F.ex
    rcases hD with ⟨_, rfl⟩ | ⟨e, _⟩
    · refine ⟨fun s us ws _ l1 l2 => BindsTo.of_eq ?_, fun r1 r2 => vals_rev r2⟩
      match us, ws, l1, l2 with
      | [], [a, b, c], _, _ => rfl
    · exact absurd rfl e
  refine ⟨fun pins s σ H Q I hq => ?_⟩
  refine wpAny_Call_Name_kw (ld_glob I hg T.d_run.1 ?_ (by decide))
  refine PySem.W.callWith_KW0 (h₀ := X.base) I.ok.mod.kin F.kp hall ?_ hpl
  refine thn (hkw.run pos pins s σ H _ I hq) fun ws s2 z => ?_
  obtain ⟨zs, H2, I2, rz, l1, q2⟩ := z
  refine ⟨I2.kIn, ?_⟩
  rw [hks]
  exact run_fnN (us := []) (vs := []) h hr kb pass0 I2 .nil rz rfl l1 q2
end
/-- what is neither a list nor a table stays -/
def Kn (H H' : Hp) : Prop := ∀ b o, H b = some o → (∀ xs, o ≠ .lst xs) → (∀ ps, o ≠ .tbl ps) → H' b = some o
theorem Kn.of_sml {H H' : Hp} (s : SmL H H') : Kn H H' := fun b o e n _ => s b o e n
theorem Kn.of_kx {M : Addr → Prop} {H H' : Hp} (k : Kx M H H') (hm : ∀ b o, M b → H b = some o → ∃ xs, o = .lst xs) : Kn H H' := fun b o e n1 n2 => k b o e n2 (.inl fun z => by obtain ⟨xs, h⟩ := hm b o z e; exact n1 xs h)
theorem Kn.trans {H H1 H2 : Hp} (a : Kn H H1) (b : Kn H1 H2) : Kn H H2 := fun c o e n m => b c o (a c o e n m) n m
section
variable {K : PySem.W.Frag} {H H' : Hp}
theorem Kn.seqT {a : Addr} {xs : List V} (e : Kn H H') (h : SqT K H a xs) : SqT K H' a xs := by
  rcases h with (h | ⟨o, h⟩) | h
  · exact .inl (.inl (e _ _ h (fun _ z => by cases z) (fun _ z => by cases z)))
  · exact .inl (.inr ⟨o, e _ _ h (fun _ z => by cases z) (fun _ z => by cases z)⟩)
  · exact .inr h
theorem Kn.det {v : V} (e : Kn H H') {sg : SgL} (h : DetAt K H sg v) : DetAt K H' sg v := by
  cases sg with
  | each w b => obtain ⟨a, h1, h2⟩ := h; exact ⟨a, h1, e.seqT h2⟩
  | ask k w b => obtain ⟨a, h1, h2⟩ := h; exact ⟨a, h1, e.seqT h2⟩
  | every k r b => obtain ⟨a, h1, h2⟩ := h; exact ⟨a, h1, e.seqT h2⟩
  | _ => exact h
theorem Kn.flow {x : Addr} {sgs : List SgL} (e : Kn H H') (h : FlowV K H x sgs) : FlowV K H' x sgs := by
  obtain ⟨dx, t, xs, h1, h2, h3, h4⟩ := h
  refine ⟨dx, t, xs, e _ _ h1 (fun _ z => by cases z) (fun _ z => by cases z), e.seqT h2, h3, fun i y sg a b => ?_⟩
  obtain ⟨x, v, c, dx, t, d1, d2, d3⟩ := h4 i y sg a b
  exact ⟨x, v, c, dx, t, e _ _ d1 (fun _ z => by cases z) (fun _ z => by cases z), e.seqT d2, e.det d3⟩
theorem Kn.ext {b : Addr} {φ : Heap → Prop} (e : Kn H H') (h : H b = some (.ext φ)) : H' b = some (.ext φ) := e _ _ h (fun _ z => by cases z) (fun _ z => by cases z)
theorem Kn.dict {d : Addr} {F : Nm → Act} {tags : List Nm} (e : Kn H H') (h : DictV H d F tags) : DictV H' d F tags := by
  obtain ⟨kvs, h1, h2, h3, h4⟩ := h
  refine ⟨kvs, e _ _ h1 (fun _ z => by cases z) (fun _ z => by cases z), h2, h3, fun n hn => ?_⟩
  obtain ⟨f, a, b, c⟩ := h4 n hn
  exact ⟨f, a, b.of fun b φ hb => e.ext hb, c⟩
end
theorem DictV.fns {H : Hp} {d : Addr} {F : Nm → Act} {tags : List Nm} (h : DictV H d F tags) (hn : NamesL tags) (hl : tags.length ≤ 100) : FnsV H d F tags := by
  obtain ⟨kvs, h1, h2, h3, h4⟩ := h
  exact ⟨kvs, h1, by omega, fun kv hk => let ⟨n, a, b⟩ := h3 kv hk; ⟨n, b, hn n a⟩, h4⟩
theorem keys_names {kvs : List (Key × V)} {tags : List Nm} (h : ∀ kv ∈ kvs, ∃ n ∈ tags, kv.1 = (Sum.inr (mk n) : Key)) : ∃ ks : List Nm, (kvs.map fun kv => kV kv.1) = (ks.map fun n => V.str (mk n)) ∧ (∀ n ∈ ks, n ∈ tags) ∧ ∀ n, ((Sum.inr (mk n) : Key)) ∈ kvs.map (·.1) → n ∈ ks := by
  induction kvs with
  | nil => exact ⟨[], rfl, fun n hn => (by cases hn), fun n hn => (by cases hn)⟩
  | cons kv r ih =>
    obtain ⟨ks, h1, h2, h3⟩ := ih fun x hx => h x (List.mem_cons_of_mem _ hx)
    obtain ⟨n, hn, e⟩ := h kv List.mem_cons_self
    refine ⟨n :: ks, by rw [List.map_cons, List.map_cons, h1, e]; rfl, fun m hm => ?_, fun m hm => ?_⟩
    · rcases List.mem_cons.mp hm with rfl | hm
      · exact hn
      · exact h2 m hm
    · rw [List.map_cons] at hm
      rcases List.mem_cons.mp hm with z | z
      · rw [e] at z
        rw [mk_inj (Sum.inr.inj z)]
        exact List.mem_cons_self
      · exact List.mem_cons_of_mem _ (h3 m z)
theorem valV_mem {kvs : List (Key × V)} {k : Key} {v : V} (h : valV kvs k = some v) : k ∈ kvs.map (·.1) := by
  induction kvs with
  | nil => cases h
  | cons p r ih =>
    by_cases e : p.1 = k
    · rw [List.map_cons, e]; exact List.mem_cons_self
    · rw [valV_neg e] at h
      exact List.mem_cons_of_mem _ (ih h)
abbrev zN : Nm := L "z999"
section
variable {P : Program} {w : World} {K : PySem.W.Frag} {mg : Str → Option Value} {base : Heap} {cN pN cT pT : Addr}
def spRunRight (K : PySem.W.Frag) (pN pT : Addr) : Sp := fun vs H Q _ => ∃ (p f t : Addr) (lns : List Ln) (tags : List Nm), vs = [.ref p, .ref f, .str (mk (txtL lns)), .ref t] ∧ PurseAt H p ∧ FlowV K H f (sgsOf lns) ∧ H t = some (.lst (tags.map fun n => V.str (mk n))) ∧ t ≠ p ∧ NamesL tags ∧ tags.length ≤ 40 ∧ (∀ l ∈ lns, LnOk l) ∧ lns.length ≤ 8 ∧ (sgsOf lns).length ≤ 8 ∧ AllOk tags (sgsOf lns) ∧ Tabs (TT pN pT) H ∧
  ∀ H', Kx (· = p) H H' → PurseAt H' p → Tabs (TT pN pT) H' → Q (.bl true) H'
theorem ok_law_run_right (T : Tx K mg w) (L : Tl K mg base cN pN cT pT) (ne1 : cG K ≠ cS K) (ne2 : cG K ≠ cR K) : OkG P w K mg base 27 "_law_run_right" ["_law_purse_here", "_law_mine", "_law_written", "_law_tags_here"] (spRunRight K pN pT) := by
  have nd := sc_law_run_right.nd
  have tk := ok_law_take (P := P) (base := base) T
  refine T.d_law_run_right.mkG sc_law_run_right bn_law_run_right (fun vs H Q E h => ?_) (fun cdv A outer s H vs Q E hgd hr h => ?_)
  · obtain ⟨p, f, t, lns, tags, rfl, _⟩ := h
    rfl
  · obtain ⟨p, f, t, lns, tags, rfl, hp, hf, ht, htp, hn, htl, hln, hl8, hs8, hall, hT, q⟩ := h
    refine ⟨_, pss_cons (ps_par (i := 4) (j := 5) (by rfl) nd rfl rfl (by decide) rfl rfl (pa_cons (pe_g (ok_law_functions T L) (hr.mono (by decide)) (pa_cons (pv 0) (pa_cons (pv 3) pa_nil))) (pa_cons (pe_g (ok_law_numbers T) (hr.mono (by decide)) (pa_cons (pv 0) (pa_cons (pe_g tk (hr.mono (by decide)) (pa_cons (pv 0) (pa_cons pe_int pa_nil))) pa_nil))) pa_nil)) (by rfl))
      (pss_cons (ps_set (i := 6) nd rfl (.inl rfl) (pe_lst pa_nil))
      (pss_cons (ps_set (i := 7) nd rfl (.inl rfl) (pe_g (ok_law_carried T) hr (pa_cons (pe_lst (pa_cons (pv 6) (pa_cons (pv 4) pa_nil))) (pa_cons (pv 2) (pa_cons (pe_callTy call_list_of (by rfl) T.z_list bt_list (pa_cons (pv 5) pa_nil)) pa_nil)))))
      (pss_cons (ps_par (i := 8) (j := 9) (by rfl) nd rfl rfl (by decide) rfl rfl (pa_cons (pe_callB (call_reprD hgd hr.units) (by rfl) T.z_repr bt_repr (pa_cons (pv 5) pa_nil)) (pa_cons (pe_g (ok_run T) (hr.mono (by decide)) (pa_cons (pv 1) (pa_cons (pv 5) (pa_cons (pv 4) pa_nil)))) pa_nil)) (by rfl))
      (pss_cons (ps_if (PW.pt (pw_or (pt_cmpR op_ne (pe_callB (call_reprD hgd hr.units) (by rfl) T.z_repr bt_repr (pa_cons (pv 9) pa_nil)) (pe_callB (call_reprD hgd hr.units) (by rfl) T.z_repr bt_repr (pa_cons (pe_tup (pa_cons (pv 7) (pa_cons (pe_callTy call_tuple_of (by rfl) T.z_tuple bt_tuple (pa_cons (pv 6) pa_nil)) pa_nil))) pa_nil)) (nomark _)) (pw_or1 (pt_cmpR op_ne (pe_callB (call_reprD hgd hr.units) (by rfl) T.z_repr bt_repr (pa_cons (pv 5) pa_nil)) (pv 8) (nomark _))))) (pss_one (ps_ret pe_bl)) pss_nil)
      (pss_cons (ps_set (i := 10) nd rfl (.inl rfl) pe_dnewK)
      (pss_cons (ps_for PassesOwn.never rfl (pi_list (pe_op op_cat (pe_revL (pe_callTy (call_list_dK rfl) (by rfl) T.z_list bt_list (pa_cons (pv 4) pa_nil))) (pe_lst (pa_cons pe_str pa_nil)))) (pg_name (i := 11) nd rfl (.inl rfl)) (pss_one (ps_asg (pe_dget2 (hu_of hr) (pv 4) (pv 11) (pe_dget2 (hu_of hr) (pv 4) pe_str (pe_g (ok_law_truth_function T L) (hr.mono (by decide)) (pa_cons pe_int (pa_cons pe_int pa_nil))) ⟨by rfl, by rfl, by rfl, by rfl⟩) ⟨by rfl, by rfl, by rfl, by rfl⟩) (pg_sub (pv 10) (pv 11) (set_dict (hu_of hr)) (fun _ => rfl)))))
      (pss_one (ps_ret (pe_cmpR op_eq (pe_callB (call_reprD hgd hr.units) (by rfl) T.z_repr bt_repr (pa_cons (pe_runK T (hr.mono (by decide)) (pk_cons (pv 10) (pk_cons (pv 5) (pk_cons (pv 1) pk_nil)))) pa_nil)) (pe_callB (call_reprD hgd hr.units) (by rfl) T.z_repr bt_repr (pa_cons (pv 9) pa_nil)) (nomark _)))))))))), ?_⟩
    have hun := hr.units
    refine ⟨_, rfl, _, rfl, p, t, tags, rfl, hp, ht, htp, hn, by omega, hT, fun H1 d F k1 p1 t1 nd1 hD1 => ?_⟩
    refine ⟨_, rfl, _, rfl, p, 14, rfl, p1, by decide, by decide, fun H2 r k2 p2 h2 => ?_⟩
    refine ⟨p, r, rfl, p2, by omega, fun H3 xA xs k3 p3 hx hok hxl => ⟨_, _, rfl, ?_⟩⟩
    have k13 : Kp (· = p) H1 H3 := k2.trans k3
    have k03 : Kx (· = p) H H3 := k1.trans (Kx.of k13)
    have lstP : ∀ {G : Hp}, PurseAt G p → ∀ b o, b = p → G b = some o → ∃ xs, o = .lst xs := fun hw b o z e => by
      obtain ⟨_, _, _, h, _⟩ := hw
      rw [z, h] at e
      exact ⟨_, (Option.some.inj e).symm⟩
    have tblP : ∀ {G : Hp}, PurseAt G p → ∀ b ps, b = p → G b ≠ some (.tbl ps) := fun hw b ps z e => by
      obtain ⟨_, h⟩ := lstP hw b _ z e
      cases h
    have n03 : Kn H H3 := Kn.of_kx k03 (lstP hp)
    have t3 := tabs_kp t1 k13 (tblP p1)
    have hD3 := (Kn.of_kx (Kx.of k13) (lstP p1)).dict hD1
    have hf3 := n03.flow hf
    refine ⟨by show 0 ≤ sizeLine; decide, fun m nm => ?_⟩
    have s4 := same_new (o := HO.lst []) nm
    have hmp := purse_ne p3 nm
    refine ⟨_, rfl, _, rfl, by show 2 ≤ sizeLine; decide, fun pl npl => ?_⟩
    have s5 := same_new (o := HO.lst [.ref m, .ref d]) npl
    have plm : pl ≠ m := fun e => by rw [e, upd_same] at npl; cases npl
    refine ⟨_, rfl, _, rfl, xA, xs, rfl, .inr (same_seqT (s4.trans s5) hx), fun vl nvl => ?_⟩
    have s6 := same_new (o := HO.lst xs) nvl
    have s36 := (s4.trans s5).trans s6
    have hm6 := s6 _ _ (s5 _ _ (upd_same (H := H3) (a := m) (o := HO.lst [])))
    have hn6 := Kn.of_sml (SmL.of s36)
    have names : ∀ n ∈ namesOf (sgsOf lns), n ∈ tags := all_names hall
    have hfns := fun (G : Hp) (k : Kn H3 G) => (k.dict hD3).fns hn (by omega)
    refine ⟨lns, xs, pl, m, vl, F, tags, [], rfl, ⟨d, s6 _ _ upd_same, plm, hfns _ hn6⟩, ⟨[], hm6, rfl, fun i y e a => by simp at a⟩, SqL.of upd_same, hok, by omega, hln, hl8, names, Nat.zero_le _, fun H7 x k7 hL7 hx7 hok7 hl7 hl7b => ?_⟩
    have sm67 := kp_sml hm6 k7
    have n37 := hn6.trans (Kn.of_sml sm67)
    have hF : FOkN F tags := fun n hm => by
      obtain ⟨_, _, _, _, h4⟩ := hD3
      obtain ⟨_, _, _, h5⟩ := h4 n hm
      exact ⟨hn n hm, h5⟩
    have hcar := carS_ok hF names (lst_ok hok)
    have ecar := car_ps (F := F) hln xs
    have pxs := plain_vs hok (show xs.length ≤ 20 by omega)
    have sizes : (2000 : Nat) ≤ sizeLine ∧ (900000 : Nat) ≤ sizeLine := by decide
    have hx7' := n37.seqT hx
    refine ⟨_, rfl, xA, .tuple (xs.map vD), rfl, .tup hx7' (vs_dp hok), pxs.1, pxs.2.1, Nat.le_trans pxs.2.2.1 (by decide), Nat.le_trans pxs.2.2.2 sizes.1, ?_⟩
    refine ⟨_, rfl, _, rfl, _, rfl, f, xA, d, sgsOf lns, xs, F, tags, rfl, n37.flow hf3, hs8, hall, hx7', hok, by omega, hfns _ n37, ne1, ne2, fun H8 y s8 hres h81 h82 h83 => ?_⟩
    obtain ⟨py, ya, yb, yys, rfl, hres'⟩ := hres
    have hres : ResV K H8 (.ref py) (ps (WF F) (sgsOf lns) [] xs) := ⟨py, ya, yb, yys, rfl, hres'⟩
    rw [← ecar] at hres
    refine ⟨_, _, rfl, ?_⟩
    have pres := plain_res hcar.1 hcar.2 hl7 hl7b
    have dres := res_dp hres hcar.1 hcar.2
    refine ⟨_, rfl, py, _, rfl, dres, pres.1, pres.2.1, Nat.le_trans pres.2.2.1 (by decide), Nat.le_trans pres.2.2.2 sizes.2, ?_⟩
    obtain ⟨ysm, hm7, hev⟩ := id hL7
    rw [List.nil_append] at hev
    refine ⟨_, rfl, _, rfl, m, ysm, rfl, .inl ⟨SqL.of (s8 _ _ hm7), fun l nl => ⟨by show 2 ≤ sizeLine; decide, fun tp ntp => ?_⟩⟩⟩
    have s9 := same_new (o := HO.tup ysm) nl
    have s10 := same_new (o := HO.tup [.ref x, .ref l]) ntp
    have s810 := s9.trans s10
    have s710 := s8.trans s810
    have dtp : Dp K (upd (upd H8 l (.tup ysm)) tp (.tup [.ref x, .ref l])) (.ref tp) (resD (carS F lns (Strm.lst xs))) :=
      .tup (SqT.of upd_same) (.cons (.tup (same_seqT s710 hx7) (vs_dp hcar.1)) (.cons (.tup (SqT.of (s10 _ _ upd_same)) (evs_dp (hev.sml (SmL.of s710)) hcar.2)) .nil))
    refine ⟨tp, _, rfl, dtp, pres.1, pres.2.1, Nat.le_trans pres.2.2.1 (by decide), Nat.le_trans pres.2.2.2 sizes.2, ?_⟩
    refine ⟨rfl, _, rfl, ifF (by rw [decide_eq_true rfl]; rfl) ?_⟩
    have hx10 := same_seqT s710 hx7'
    refine ⟨_, rfl, xA, .tuple (xs.map vD), rfl, .tup hx10 (vs_dp hok), pxs.1, pxs.2.1, Nat.le_trans pxs.2.2.1 (by decide), Nat.le_trans pxs.2.2.2 sizes.1, ?_⟩
    refine ⟨_, rfl, rfl, _, rfl, ifF (by rw [decide_eq_true rfl]; rfl) ?_⟩
    have n310 := n37.trans (Kn.of_sml (SmL.of s710))
    have hD10 := n310.dict hD3
    obtain ⟨kvs, hk1, hk2, hk3, hk4⟩ := id hD10
    obtain ⟨ks, e1, e2, e3⟩ := keys_names hk3
    have hksl : ks.length = kvs.length := by have := congrArg List.length e1; rw [List.length_map, List.length_map] at this; exact this.symm
    intro bk nbk
    have s11 := same_new (o := HO.dK []) nbk
    refine ⟨_, rfl, d, kvs, rfl, s11 _ _ hk1, fun ql nql => ⟨ql, _, rfl, SqL.of upd_same, fun g ng => ⟨by show 1 ≤ sizeLine; decide, fun z nz => ?_⟩⟩⟩
    have s12 := same_new (o := HO.lst (kvs.map fun kv => kV kv.1)) nql
    have s13 := same_new (o := HO.lst (kvs.map fun kv => kV kv.1).reverse) ng
    have s14 := same_new (o := HO.lst [V.str "z999"]) nz
    have hkb : ∀ n ∈ tags, n ∈ ks := fun n hm => by
      obtain ⟨f0, h0, _⟩ := hk4 n hm
      exact e3 n (valV_mem h0)
    have ksl40 : ks.length ≤ 40 := by omega
    refine ⟨g, z, _, _, rfl, rfl, s14 _ _ upd_same, upd_same, by rw [List.length_reverse, List.length_map]; exact Nat.le_trans (show kvs.length + 1 ≤ 100 by omega) (by decide), fun it nit => ?_⟩
    have eL : (kvs.map fun kv => kV kv.1).reverse ++ [V.str "z999"] = (ks.reverse ++ [zN]).map fun n => V.str (mk n) := by
      rw [e1, ← List.map_reverse, List.map_append, lit_mk]
      rfl
    rw [eL]
    have s15 := same_new (o := HO.lst ((ks.reverse ++ [zN]).map fun n => V.str (mk n))) nit
    have sX := (((s11.trans s12).trans s13).trans s14).trans s15
    have s37 : Same H3 H7 := fun b o e => k7 _ _ (s36 _ _ e) (.inl fun z => by rw [show b = m from z, nm] at e; cases e)
    have s3X := s37.trans s710
    have kX := k03.trans (Kx.of (Same.kp (M := (· = p)) s3X))
    have pX := p3.same s3X
    have tX := tabs_kp t3 (Same.kp (M := fun _ => False) s3X) (fun _ _ z => z.elim)
    have bkp : bk ≠ p := purse_ne pX nbk
    have dbk : d ≠ bk := fun e => by rw [← e, hk1] at nbk; cases nbk
    have itbk : it ≠ bk := fun e => by rw [e, s14 _ _ (s13 _ _ (s12 _ _ upd_same))] at nit; cases nit
    have nameZ : isNameL (zN) = true := by decide +kernel
    have hNL : ∀ n ∈ ks.reverse ++ [zN], isNameL n = true := fun n hm => by
      rcases List.mem_append.mp hm with z | z
      · exact hn n (e2 n (List.mem_reverse.mp z))
      · rw [List.mem_singleton.mp z]; exact nameZ
    generalize hNLe : ks.reverse ++ [zN] = NL at *
    have hNLl : NL.length ≤ 41 := by rw [← hNLe]; simp; omega
    have hNLk : ∀ n ∈ tags, n ∈ NL := fun n hm => by rw [← hNLe]; exact List.mem_append_left _ (List.mem_reverse.mpr (hkb n hm))
    clear hNLe
    have itp : it ≠ p := fun e => by
      obtain ⟨_, _, _, h, _⟩ := pX
      rw [e, s14 _ _ (s13 _ _ (s12 _ _ (s11 _ _ h)))] at nit; cases nit
    refine ⟨it, rfl, ⟨_, SqL.of upd_same⟩, ?_⟩
    generalize hHX : upd (upd H8 l (.tup ysm)) tp (.tup [.ref x, .ref l]) = HX at *
    refine for_list (xs := NL.map fun n => V.str (mk n)) (fun i σ H' => ∃ (kvb : List (Key × V)) (o11 : Option V), σ = [some (.ref p), some (.ref f), some (.str (mk (txtL lns))), some (.ref t), some (.ref d), some (.ref xA), some (.ref m), some (.ref x), some (.str (PyData.tuple (List.map vD xs)).shown), some (.ref py), some (.ref bk), o11] ∧
        Kx (· = p) H H' ∧ PurseAt H' p ∧ Tabs (TT pN pT) H' ∧ Kn HX H' ∧ H' it = some (.lst (NL.map fun n => V.str (mk n))) ∧ H' bk = some (.dK kvb) ∧ kvb.length ≤ i ∧ (∀ kv ∈ kvb, ∃ n, kv.1 = (Sum.inr (mk n) : Key) ∧ isNameL n = true) ∧
        ∀ n ∈ NL.take i, n ∈ tags → ∃ f, valV kvb (Sum.inr (mk n) : Key) = some (.ref f) ∧ ActV H' f (F n) ∧ ActOk (F n))
      ⟨[], none, rfl, kX.trans (Kx.of (Same.kp sX)), pX.same sX, tabs_kp tX (Same.kp (M := fun _ => False) sX) (fun _ _ z => z.elim), Kn.of_sml (SmL.of sX), upd_same, s15 _ _ (s14 _ _ (s13 _ _ (s12 _ _ upd_same))), Nat.le_refl _, (fun kv hkv => by cases hkv), fun n hm => by cases hm⟩
      (fun i σ H' _ ⟨_, _, _, _, _, _, _, h, _⟩ => SqL.of h) (fun i y σ G hy hpv => ?_) (fun σ G hpv => ?_)
    · obtain ⟨kvb, o11, rfl, kG, pG, tG, nG, hit, hbk, hbl, hbn, hba⟩ := hpv
      rw [List.getElem?_map] at hy
      cases hni : NL[i]? with
      | none => rw [hni] at hy; cases hy
      | some n =>
        rw [hni] at hy
        cases hy
        have hi : i < NL.length := (List.getElem?_eq_some_iff.mp hni).1
        have hnm := List.mem_of_getElem? hni
        have hdG := nG _ _ hk1 (fun _ z => by cases z) (fun _ z => by cases z)
        refine ⟨_, rfl, d, rfl, .inl ⟨kvs, .inl hdG⟩, _, rfl, _, rfl, d, rfl, .inl ⟨kvs, .inl hdG⟩, 1, 2, rfl, tG, fun f5 H5 e5 t5 n5 a5 => ?_⟩
        have nX5 : Kn HX H5 := nG.trans fun b o e _ n2 => e5 _ _ e n2
        have hd5 := nX5 _ _ hk1 (fun _ z => by cases z) (fun _ z => by cases z)
        have hbk5 := e5 _ _ hbk (fun _ z => by cases z)
        refine ⟨_, DGet.k (k := Sum.inr (Str.ofString "z999")) hd5, _, DGet.k (k := Sum.inr (mk n)) hd5, ?_⟩
        generalize hw : ((valV kvs (Sum.inr (mk n) : Key)).getD ((valV kvs (Sum.inr (Str.ofString "z999") : Key)).getD (V.ref f5))) = wv
        refine ⟨_, rfl, _, rfl, bk, _, rfl, DPut.k (k := Sum.inr (mk n)) (v := wv) hbk5 (Nat.lt_of_le_of_lt (show kvb.length ≤ 41 by omega) (by decide)), ?_⟩
        have kd : ∀ b o, b ≠ bk → H5 b = some o → (upd H5 bk (.dK (putK kvb (Sum.inr (mk n)) wv))) b = some o := fun b o z e => (upd_ne z).trans e
        have ext5 : ∀ b φ, H5 b = some (.ext φ) → (upd H5 bk (.dK (putK kvb (Sum.inr (mk n)) wv))) b = some (.ext φ) := fun b φ e => kd _ _ (fun z => by rw [z, hbk5] at e; cases e) e
        have extG : ∀ b φ, G b = some (.ext φ) → (upd H5 bk (.dK (putK kvb (Sum.inr (mk n)) wv))) b = some (.ext φ) := fun b φ e => ext5 _ _ (e5 _ _ e fun _ z => by cases z)
        have etk : NL.take (i + 1) = NL.take i ++ [n] := by rw [List.take_succ, hni]; rfl
        have hDX5 := nX5.dict hD10
        refine ⟨putK kvb (Sum.inr (mk n)) wv, _, rfl, fun b o e nt n4 => ?_, ?_, ?_, fun b o e n1 n2 => ?_, ?_, upd_same, ?_, fun kv hkv => ?_, fun m hm hmt => ?_⟩
        · exact kd _ _ (fun z => by subst z; have := kX _ _ e nt n4; rw [nbk] at this; cases this) (e5 _ _ (kG _ _ e nt n4) nt)
        · obtain ⟨a, b, c, h1, h2⟩ := pG
          exact ⟨a, b, c, kd _ _ bkp.symm (e5 _ _ h1 fun _ z => by cases z), h2⟩
        · refine tabs_kp (M := (· = bk)) t5 (fun b o e n => ?_) (fun b ps z e => by rw [show b = bk from z, hbk5] at e; cases e)
          rcases n with n | n
          · exact kd _ _ n e
          · exact kd _ _ (fun z => by rw [z, hbk5] at e; rw [← Option.some.inj e] at n; rcases n with ⟨_, n⟩ | ⟨_, n⟩ <;> cases n) e
        · exact kd _ _ (fun z => by rw [z, nbk] at e; cases e) (nX5 _ _ e n1 n2)
        · exact kd _ _ itbk (e5 _ _ hit fun _ z => by cases z)
        · have := put_len kvb (Sum.inr (mk n)) wv
          omega
        · rcases put_mem hkv with e | ⟨kv', h1, h2⟩
          · exact ⟨n, e, hNL n hnm⟩
          · obtain ⟨m, h3, h4⟩ := hbn kv' h1
            exact ⟨m, h2.symm.trans h3, h4⟩
        · by_cases hmn : m = n
          · subst hmn
            obtain ⟨_, hk1', _, _, h4⟩ := hDX5
            rw [hd5] at hk1'
            cases hk1'
            obtain ⟨f0, h0, h1, h2⟩ := h4 m hmt
            refine ⟨f0, ?_, h1.of ext5, h2⟩
            rw [valV_put, if_pos rfl, ← hw, h0]
            rfl
          · rw [etk] at hm
            obtain ⟨f0, h1, h2, h3⟩ := hba m ((List.mem_append.mp hm).resolve_right fun z => hmn (List.mem_singleton.mp z)) hmt
            exact ⟨f0, by rw [valV_put, if_neg fun z => hmn (mk_inj (Sum.inr.inj z))]; exact h1, h2.of extG, h3⟩
    · obtain ⟨kvb, o11, rfl, kG, pG, tG, nG, hit, hbk, hbl, hbn, hba⟩ := hpv
      rw [List.length_map] at hba hbl
      rw [List.take_length] at hba
      have fnb : FnsV G bk F tags := ⟨kvb, hbk, by omega, hbn, fun n hm => hba n (hNLk n hm) hm⟩
      have n3G := n310.trans nG
      refine ⟨_, rfl, _, rfl, _, rfl, rfl, f, xA, bk, sgsOf lns, xs, F, tags, rfl, n3G.flow hf3, hs8, hall, n3G.seqT hx, hok, by omega, fnb, ne1, ne2, fun H9 y s9' hres2 _ _ _ => ?_⟩
      obtain ⟨py2, ya2, yb2, yys2, rfl, hres2'⟩ := hres2
      have hres2 : ResV K H9 (.ref py2) (ps (WF F) (sgsOf lns) [] xs) := ⟨py2, ya2, yb2, yys2, rfl, hres2'⟩
      rw [← ecar] at hres2
      have dres2 := res_dp hres2 hcar.1 hcar.2
      refine ⟨py2, _, rfl, dres2, pres.1, pres.2.1, Nat.le_trans pres.2.2.1 (by decide), Nat.le_trans pres.2.2.2 sizes.2, ?_⟩
      have dres9 : Dp K H9 (.ref py) (resD (carS F lns (Strm.lst xs))) := by
        obtain ⟨qp, qa, qb, qs, e0, q1, q2, q3, q4⟩ := hres
        cases e0
        have n9 : Kn H8 H9 := ((Kn.of_sml (SmL.of s810)).trans nG).trans (Kn.of_sml (SmL.of s9'))
        refine res_dp ⟨py, qa, qb, qs, rfl, n9.seqT q1, n9.seqT q2, n9.seqT q3, q4.1, fun i y e a b => ?_⟩ hcar.1 hcar.2
        obtain ⟨tt, c1, c2⟩ := q4.2 i y e a b
        exact ⟨tt, c1, n9.seqT c2⟩
      refine ⟨_, rfl, py, _, rfl, dres9, pres.1, pres.2.1, Nat.le_trans pres.2.2.1 (by decide), Nat.le_trans pres.2.2.2 sizes.2, ?_⟩
      have fin : ∀ bb : Bool, bb = true → Q (.bl bb) H9 := fun bb e => by
        rw [e]
        exact q H9 (kG.trans (Kx.of (Same.kp s9'))) (pG.same s9') (tabs_kp tG (Same.kp (M := fun _ => False) s9') (fun _ _ z => z.elim))
      exact ⟨rfl, fin _ (decide_eq_true rfl)⟩
end
end K

set_option Elab.async false
set_option linter.all false
set_option maxRecDepth 100000
set_option maxHeartbeats 4000000
/-! KL18: one purse is right. -/
namespace K
open PySem PySem.Spec PyProof.Rows L2 He TL LamX CwR
theorem allok_of {K : PySem.W.Frag} {H : Hp} {ys : List V} {sgs : List SgL} {tags : List Nm} (h : StepsV K H ys sgs) (hn : ∀ n ∈ namesOf sgs, n ∈ tags) : AllOk tags sgs := fun sg hs => by
  obtain ⟨i, hi, e⟩ := List.getElem_of_mem hs
  have hl := h.1
  obtain ⟨t, v, b, _, _, _, ho⟩ := h.2 i (ys[i]'(by omega)) sg (List.getElem?_eq_getElem (by omega)) (by rw [List.getElem?_eq_getElem hi, e])
  have hm : ∀ n ∈ sgNames sg, n ∈ tags := fun n hn2 => hn n (List.mem_flatten.mpr ⟨_, List.mem_map.mpr ⟨sg, hs, rfl⟩, hn2⟩)
  refine ⟨ho, ?_⟩
  cases sg with
  | each w b => exact hm
  | ask k t b => exact hm
  | _ => trivial
theorem sum_le {B : Nat} : ∀ {ys : List Str}, (∀ y ∈ ys, y.length ≤ B) → (ys.map (·.length)).sum ≤ B * ys.length
  | [], _ => Nat.zero_le _
  | y :: r, h => by
    have := sum_le (ys := r) fun x hx => h x (List.mem_cons_of_mem _ hx)
    have := h y List.mem_cons_self
    rw [List.map_cons, List.sum_cons, List.length_cons, Nat.mul_succ]
    omega
theorem join_txt (lns : List Ln) : Txt.join (Str.ofString "\n") ((lns.map fun l => mk (lnL l)) ++ [Str.ofString "return list(rows)"]) = mk (txtL lns) := by
  refine ext_tl ?_
  rw [join_eq, tl_join, tl_lit, show L "\n" = [10] by decide +kernel, List.map_append, List.map_map, tl_mk']
  unfold txtL lastL
  rw [← tl_lit]
  rfl
section
variable {P : Program} {w : World} {K : PySem.W.Frag} {mg : Str → Option Value} {base : Heap} {cN pN cT pT : Addr}
def spRight (pN pT : Addr) : Sp := fun vs H Q _ => ∃ p : Addr, vs = [.ref p] ∧ PurseAt H p ∧ Tabs (TT pN pT) H ∧ ∀ H', Kx (· = p) H H' → PurseAt H' p → Tabs (TT pN pT) H' → Q (.bl true) H'
theorem ok_law_right (T : Tx K mg w) (L : Tl K mg base cN pN cT pT) (ne1 : cG K ≠ cS K) (ne2 : cG K ≠ cR K) : OkG P w K mg base 28 "_law_right" ["_law_purse_here"] (spRight pN pT) := by
  have nd := sc_law_right.nd
  refine T.d_law_right.mkG sc_law_right bn_law_right (fun vs H Q E h => ?_) (fun cdv A outer s H vs Q E hgd hr h => ?_)
  · obtain ⟨p, rfl, _⟩ := h
    rfl
  · obtain ⟨p, rfl, hp, hT, q⟩ := h
    refine ⟨_, pss_cons (ps_for PassesOwn.never rfl (pi_range1 rfl T.z_range (pa_cons pe_int pa_nil)) (pg_name (i := 1) nd rfl (.inl rfl)) (pss_cons (ps_asg (pe_gG (ok_law_rows T) hgd (hr.mono (by decide)) (pa_cons (pv 0) (pa_cons pe_int pa_nil))) (pg_tup (by rfl) (pgs_cons (pg_name (i := 2) nd rfl (.inl rfl)) (pgs_cons (pg_name (i := 3) nd rfl (.inl rfl)) pgs_nil))))
      (pss_cons (ps_set (i := 4) nd rfl (.inl rfl) (pe_join pe_str (pe_op op_cat (pv 2) (pe_lst (pa_cons pe_str pa_nil)))))
      (pss_cons (ps_par (i := 5) (j := 6) (by rfl) nd rfl rfl (by decide) rfl rfl (pa_cons (ClX.pe_cmeth (pe_glob (v := .ref (cF K)) (by rfl) T.g_Flow rfl) T.r_Flow_read T.m_Flow_read (ok_flow_read T) (hr.mono (by decide)) pass0 (pa_cons (pv 4) pa_nil)) (pa_cons (ClX.pe_cmeth (pe_glob (v := .ref (cF K)) (by rfl) T.g_Flow rfl) T.r_Flow_read T.m_Flow_read (ok_flow_read T) (hr.mono (by decide)) pass0 (pa_cons (pv 4) pa_nil)) pa_nil)) (by rfl))
      (pss_cons (ps_set (i := 7) nd rfl (.inl rfl) (pe_g (ok_law_names_in T) (hr.mono (by decide)) (pa_cons (pv 3) pa_nil)))
      (pss_one (ps_if (PW.pt (pw_or (pt_not (pt_val (pe_gG (ok_law_run_right T L ne1 ne2) hgd hr (pa_cons (pv 0) (pa_cons (pv 5) (pa_cons (pv 4) (pa_cons (pv 7) pa_nil))))))) (pw_or1 (pt_not (pt_val (pe_gG (ok_law_run_right T L ne1 ne2) hgd hr (pa_cons (pv 0) (pa_cons (pv 6) (pa_cons (pv 4) (pa_cons (pv 7) pa_nil)))))))))) (pss_one (ps_ret pe_bl)) pss_nil)))))))
      (pss_one (ps_ret pe_bl)), ?_⟩
    refine ⟨2, rfl, by decide, by decide, ?_⟩
    refine for_it walk_range (fun i σ H' => ∃ (o1 o2 o3 o4 o5 o6 o7 : Option V), σ = [some (.ref p), o1, o2, o3, o4, o5, o6, o7] ∧ Kx (· = p) H H' ∧ PurseAt H' p ∧ Tabs (TT pN pT) H') ⟨none, none, none, none, none, none, none, rfl, Kx.refl _ _, hp, hT⟩ (fun _ _ _ _ _ => trivial) (fun i x σ H4 H5 hi hpv hy => ?_) (fun σ H4 hpv => ?_)
    · obtain ⟨o1, o2, o3, o4, o5, o6, o7, rfl, k0, p0, t0⟩ := hpv
      obtain ⟨rfl, rfl⟩ := hy
      refine ⟨_, rfl, p, rfl, p0, fun H1 x a b lns ys k1 p1 hx ap bp ha hb hst hln hl8 hs8 => ?_⟩
      refine ⟨x, _, rfl, hx, rfl, _, _, rfl, _, _, rfl, rfl, ?_⟩
      refine ⟨⟨_, rfl⟩, _, rfl, by show 1 ≤ sizeLine; decide, fun l1 n1 => ?_⟩
      have s1 := same_new (o := HO.lst [V.str "return list(rows)"]) n1
      refine ⟨a, l1, _, _, rfl, rfl, s1 _ _ ha, upd_same, by rw [List.length_map]; exact Nat.le_trans (show lns.length + 1 ≤ 100 by omega) (by decide), fun l2 n2 => ?_⟩
      have s2 := same_new (o := HO.lst ((lns.map fun l => V.str (mk (lnL l))) ++ [V.str "return list(rows)"])) n2
      refine ⟨_, l2, (lns.map fun l => mk (lnL l)) ++ [Str.ofString "return list(rows)"], rfl, rfl, .inl (by rw [List.map_append, List.map_map]; exact SqL.of upd_same), ?_, ?_⟩
      · have h1 : ∀ y ∈ (lns.map fun l => mk (lnL l)) ++ [Str.ofString "return list(rows)"], y.length ≤ 300 := fun y hy => by
          rcases List.mem_append.mp hy with z | z
          · obtain ⟨l, hl, rfl⟩ := List.mem_map.mp z
            have := lnL_len (hln l hl)
            rw [len_mk]; omega
          · rw [List.mem_singleton.mp z]; decide +kernel
        have h2 := sum_le h1
        have h3 : ((lns.map fun l => mk (lnL l)) ++ [Str.ofString "return list(rows)"]).length ≤ 9 := by rw [List.length_append, List.length_map]; simp; omega
        rw [show (Str.ofString "\n").length = 1 by decide +kernel]
        omega
      rw [join_txt]
      have s12 := s1.trans s2
      refine ⟨rfl, _, rfl, lns, rfl, hln, hs8, hl8, fun H3 f1 s3 hf1 => ⟨rfl, _, rfl, lns, rfl, hln, hs8, hl8, fun H4 f2 s4 hf2 => ⟨_, _, rfl, ?_⟩⟩⟩
      have s14 := (s12.trans s3).trans s4
      refine ⟨_, rfl, b, ys, sgsOf lns, rfl, s14 _ _ hb, hst.sml (SmL.of s14), hs8, fun H5 t tags s5 nt ht hn hcov htl => ?_⟩
      have s15 := s14.trans s5
      have hall := allok_of (tags := tags) hst hcov
      have tblP : ∀ b ps, b = p → ∀ {G : Hp}, PurseAt G p → G b ≠ some (.tbl ps) := fun b ps z G hw e => by
        obtain ⟨_, _, _, h, _⟩ := hw
        rw [z, h] at e; cases e
      have k5 : Kp (· = p) _ H5 := k1.trans (Kp.trans (Same.kp s14) (Same.kp s5))
      have t5 := tabs_kp t0 k5 fun b ps z => tblP b ps z p0
      have p5 := p1.same s15
      have htp : t ≠ p := fun e => by
        obtain ⟨_, _, _, h, _⟩ := p1.same s14
        rw [e, h] at nt; cases nt
      have lstP : ∀ {G : Hp}, PurseAt G p → ∀ b o, b = p → G b = some o → ∃ xs, o = .lst xs := fun hw b o z e => by
        obtain ⟨_, _, _, h, _⟩ := hw
        rw [z, h] at e
        exact ⟨_, (Option.some.inj e).symm⟩
      refine ⟨_, rfl, _, rfl, _, rfl, _, rfl, p, f1, t, lns, tags, rfl, p5, hf1.sml (SmL.of (s4.trans s5)), ht, htp, hn, htl, hln, hl8, hs8, hall, t5, fun H6 k6 p6 t6 => ⟨true, rfl, ?_⟩⟩
      refine ifF rfl ?_
      have ht6 := k6 _ _ ht (fun _ z => by cases z) (.inl htp)
      have hf6 := (Kn.of_kx k6 (lstP p5)).flow (hf2.sml (SmL.of s5))
      refine ⟨_, rfl, _, rfl, _, rfl, _, rfl, p, f2, t, lns, tags, rfl, p6, hf6, ht6, htp, hn, htl, hln, hl8, hs8, hall, t6, fun H7 k7 p7 t7 => ⟨true, rfl, ?_⟩⟩
      refine ifF rfl ?_
      exact ⟨_, _, _, _, _, _, _, rfl, ((k0.trans (Kx.of k5)).trans k6).trans k7, p7, t7⟩
    · obtain ⟨o1, o2, o3, o4, o5, o6, o7, rfl, k0, p0, t0⟩ := hpv
      exact q H4 k0 p0 t0
end
end K

set_option Elab.async false
set_option linter.all false
set_option maxRecDepth 100000
set_option maxHeartbeats 4000000
/-! KL19: the law. -/
namespace K
open PySem PySem.Spec PyProof.Rows L2 He TL LamX CwR
def ln0 : List Ln := [.comp [[102]] [(false, [[112]])] false, .cl (.first 1) false]
theorem txt0 : Str.ofString "rows = (f(x) for x in rows if p(x))\nrows = islice(rows, 1)\nreturn list(rows)" = mk (txtL ln0) := by decide +kernel
def F0 : Nm → Act := fun n => if n = [102] then .num 3 1 100 else .num 1 0 2
def xs0 : List V := [.int 4, .int 5, .int 6, .int 7]
theorem shown0 : (resD (carS F0 ln0 (Strm.lst xs0))).shown = Str.ofString "((16,), (('p', 4, 0), ('p', 5, 1), ('f', 5, 16)))" := by decide +kernel
theorem sqL_kx {K : PySem.W.Frag} {H H' : Hp} {a : Addr} {xs : List V} (k : Kx (fun _ => False) H H') (h : SqL K H a xs) : SqL K H' a xs := by
  rcases h with (h | ⟨o, h⟩) | h
  · exact .inl (.inl (k _ _ h (fun _ z => by cases z) (.inl id)))
  · exact .inl (.inr ⟨o, k _ _ h (fun _ z => by cases z) (.inl id)⟩)
  · exact .inr h
section
variable {P : Program} {w : World} {K : PySem.W.Frag} {mg : Str → Option Value} {base : Heap} {cN pN cT pT : Addr}
def spLaw (K : PySem.W.Frag) (pN pT : Addr) : Sp := fun vs H Q _ => ∃ (a : Addr) (cs : List Int), vs = [.ref a] ∧ SqL K H a (cs.map V.int) ∧ Tabs (TT pN pT) H ∧ ∀ H', Q (.bl true) H'
theorem ok_law (T : Tx K mg w) (L : Tl K mg base cN pN cT pT) (ne1 : cG K ≠ cS K) (ne2 : cG K ≠ cR K) : OkG P w K mg base 29 "law" ["_law_cells"] (spLaw K pN pT) := by
  have nd := sc_law.nd
  refine T.d_law.mkG sc_law bn_law (fun vs H Q E h => ?_) (fun cdv A outer s H vs Q E hgd hr h => ?_)
  · obtain ⟨a, cs, rfl, _⟩ := h
    rfl
  · obtain ⟨a, cs, rfl, ha, hT, q⟩ := h
    refine ⟨_, pss_cons (ps_set (i := 1) nd rfl (.inl rfl) (ClX.pe_cmeth (pe_glob (v := .ref (cF K)) (by rfl) T.g_Flow rfl) T.r_Flow_read T.m_Flow_read (ok_flow_read T) (hr.mono (by decide)) pass0 (pa_cons pe_str pa_nil)))
      (pss_cons (ps_set (i := 2) nd rfl (.inl rfl) (pe_g (ok_run T) (hr.mono (by decide)) (pa_cons (pv 1) (pa_cons (pe_tup (pa_cons pe_int (pa_cons pe_int (pa_cons pe_int (pa_cons pe_int pa_nil))))) (pa_cons (pe_disp (pps_cons pe_str (pe_g (ok_law_number_function T L) (hr.mono (by decide)) (pa_cons pe_int (pa_cons pe_int (pa_cons pe_int pa_nil)))) (pps_cons pe_str (pe_g (ok_law_number_function T L) (hr.mono (by decide)) (pa_cons pe_int (pa_cons pe_int (pa_cons pe_int pa_nil)))) pps_nil)) (by rfl) (by rfl) (by simp) (by simp)) pa_nil)))))
      (pss_cons (ps_if (pt_cmpR op_ne (pe_callB (call_reprD hgd hr.units) (by rfl) T.z_repr bt_repr (pa_cons (pv 2) pa_nil)) pe_str (nomark _)) (pss_one (ps_ret pe_bl)) pss_nil)
      (pss_one (ps_ret (pe_callB (cr_all rfl) (by rfl) T.z_all bt_all (pa_cons (pe_lc (own := [("_law_k", 3)]) (g := gName 3) (tt := tYes) rfl nd (pi_range1 rfl T.z_range (pa_cons (pe_callB (call_max2 (by rfl)) (by rfl) T.z_max bt_max (pa_cons pe_int (pa_cons (pe_callB (call_min2 (by rfl)) (by rfl) T.z_min bt_min (pa_cons (pe_callB call_len_seq (by rfl) T.z_len bt_len (pa_cons (pv 0) pa_nil)) (pa_cons pe_int pa_nil))) pa_nil))) pa_nil)) (blkOk_by (N := ["_law_cells", "_law_mine", "_law_told", "_law_k"]) (sc := defScope s_law) (by decide +kernel)) (fun _ _ _ _ _ => pg_name (i := 3) nd rfl (Or.inl rfl)) (fun _ _ _ _ _ => pts_nil) (fun _ _ _ _ _ => (pe_gG (ok_law_right T L ne1 ne2) hgd hr (pa_cons (pe_g (ok_law_purse T) (hr.mono (by decide)) (pa_cons (pe_g (ok_law_cell T) (hr.mono (by decide)) (pa_cons (pv 0) (pa_cons (pv 3) pa_nil))) pa_nil)) pa_nil)))) pa_nil)))))), ?_⟩
    have hln0 : ∀ l ∈ ln0, LnOk l := by
      intro l hl
      rcases List.mem_cons.mp hl with rfl | hl
      · refine ⟨fun n hn => by rw [List.mem_singleton.mp hn]; decide +kernel, by decide, by decide, fun c hc => ?_⟩
        rw [List.mem_singleton.mp hc]
        exact ⟨fun n hn => by rw [List.mem_singleton.mp hn]; decide +kernel, by decide, by decide⟩
      · rw [List.mem_singleton.mp hl]
        show (1 : Nat) ≤ 9
        decide
    refine ⟨rfl, ln0, congrArg (fun z => [V.ref (cF K), V.str z]) txt0, hln0, by decide, by decide, fun H1 f s1 hf => ?_⟩
    refine ⟨_, rfl, by show 4 ≤ sizeLine; decide, fun t nt => ?_⟩
    intro d nd0
    have s2 := same_new (o := HO.tup [V.int 4, .int 5, .int 6, .int 7]) nt
    have s3 := same_new (o := HO.dK []) nd0
    have s13 := (s1.trans s2).trans s3
    have tS := fun {G G' : Hp} (h : Tabs (TT pN pT) G) (sm : Same G G') => tabs_kp h (Same.kp (M := fun _ => False) sm) (fun _ _ z => z.elim)
    refine ⟨3, 1, 100, rfl, tS hT s13, fun fa H3 e3 t3 n3 a3 => ⟨1, 0, 2, rfl, t3, fun fb H4 e4 t4 n4 a4 => ?_⟩⟩
    have e34 := e3.trans e4
    have hd4 := e34 _ _ (upd_same (H := upd H1 t (.tup [V.int 4, .int 5, .int 6, .int 7])) (a := d) (o := HO.dK [])) (fun _ z => by cases z)
    have ef : Str.ofString "f" = mk [102] := by decide +kernel
    have ep : Str.ofString "p" = mk [112] := by decide +kernel
    have nfp : ¬ ((Sum.inr (mk [102]) : Key)) = Sum.inr (mk [112]) := fun e => by
      have := mk_inj (Sum.inr.inj e)
      cases this
    have hmg : mergeK [] [((Sum.inr (mk [102]) : Key), V.ref fa), (Sum.inr (mk [112]), .ref fb)] = [(Sum.inr (mk [102]), .ref fa), (Sum.inr (mk [112]), .ref fb)] := by
      show putK (putK ([] : List (Key × V)) (Sum.inr (mk [102])) (V.ref fa)) (Sum.inr (mk [112])) (V.ref fb) = _
      rw [putK_new (kvs := ([] : List (Key × V))) _ rfl, List.nil_append, putK_new _ (by rw [valV_neg nfp]; rfl)]
      rfl
    refine ⟨hd4, [((Sum.inr (mk [102]) : Key), V.ref fa), (Sum.inr (mk [112]), .ref fb)], by rw [ef, ep]; rfl, (by show 2 ≤ 15; decide), ?_⟩
    rw [hmg]
    generalize hG : upd H4 d (.dK [((Sum.inr (mk [102]) : Key), V.ref fa), (Sum.inr (mk [112]), .ref fb)]) = G
    have kd : ∀ b o, b ≠ d → H4 b = some o → G b = some o := fun b o z e => by rw [← hG]; exact (upd_ne z).trans e
    have hGd : G d = some (.dK [((Sum.inr (mk [102]) : Key), V.ref fa), (Sum.inr (mk [112]), .ref fb)]) := by rw [← hG]; exact upd_same
    have ext4 : ∀ b φ, H4 b = some (.ext φ) → G b = some (.ext φ) := fun b φ e => kd _ _ (fun z => by rw [z, hd4] at e; cases e) e
    have n2G : Kn (upd H1 t (.tup [V.int 4, .int 5, .int 6, .int 7])) G := fun b o e _ n2 => kd _ _ (fun z => by rw [z, nd0] at e; cases e) (e34 _ _ (s3 _ _ e) n2)
    have fnG : FnsV G d F0 [[102], [112]] := by
      refine ⟨_, hGd, (by show 2 ≤ 1000; decide), fun kv hk => ?_, fun n hn => ?_⟩
      · rcases List.mem_cons.mp hk with rfl | hk
        · exact ⟨[102], rfl, by decide +kernel⟩
        · rw [List.mem_singleton.mp hk]
          exact ⟨[112], rfl, by decide +kernel⟩
      · rcases List.mem_cons.mp hn with rfl | hn
        · exact ⟨fa, valV_pos rfl, (a3.of fun b φ e => e4 _ _ e fun _ z => by cases z).of ext4, by decide, by decide, by decide⟩
        · rw [List.mem_singleton.mp hn]
          exact ⟨fb, by rw [valV_neg nfp]; exact valV_pos rfl, a4.of ext4, by decide, by decide, by decide⟩
    have hall : AllOk [[102], [112]] (sgsOf ln0) := by
      intro sg hs
      have hs : sg ∈ ([.ask .keep [[112]] false, .each [[102]] false, .first 1 false] : List SgL) := hs
      rcases List.mem_cons.mp hs with rfl | hs
      · exact ⟨⟨fun n hn => by rw [List.mem_singleton.mp hn]; decide +kernel, by decide, by decide⟩, fun n hn => List.mem_cons_of_mem _ hn⟩
      · rcases List.mem_cons.mp hs with rfl | hs
        · exact ⟨⟨fun n hn => by rw [List.mem_singleton.mp hn]; decide +kernel, by decide⟩, fun n hn => by rw [List.mem_singleton.mp hn]; exact List.mem_cons_self⟩
        · rw [List.mem_singleton.mp hs]
          exact ⟨by show (1 : Nat) ≤ 9; decide, trivial⟩
    have hok0 : ∀ v ∈ xs0, VOk v := fun v hv => by
      have hv : v ∈ [V.int 4, .int 5, .int 6, .int 7] := hv
      simp only [List.mem_cons, List.not_mem_nil, or_false] at hv
      rcases hv with rfl | rfl | rfl | rfl <;> exact .inl ⟨_, rfl, by decide⟩
    refine ⟨f, t, d, sgsOf ln0, xs0, F0, [[102], [112]], rfl, n2G.flow (hf.sml (SmL.of s2)), by decide, hall, n2G.seqT (SqT.of upd_same), hok0, by decide, fnG, ne1, ne2, fun H5 y s5 hres _ _ _ => ?_⟩
    obtain ⟨py, ya, yb, yys, rfl, hres'⟩ := hres
    have hres : ResV K H5 (.ref py) (ps (WF F0) (sgsOf ln0) [] xs0) := ⟨py, ya, yb, yys, rfl, hres'⟩
    have ecar := car_ps (F := F0) hln0 xs0
    rw [← ecar] at hres
    have hF : FOkN F0 [[102], [112]] := fun n hn => by
      rcases List.mem_cons.mp hn with rfl | hn
      · exact ⟨by decide +kernel, by decide, by decide, by decide⟩
      · rw [List.mem_singleton.mp hn]
        exact ⟨by decide +kernel, by decide, by decide, by decide⟩
    have hcar := carS_ok hF (lns := ln0) (all_names hall) (lst_ok hok0)
    have pres := plain_res hcar.1 hcar.2 (by decide +kernel) (by decide +kernel)
    have dres := res_dp hres hcar.1 hcar.2
    have sizes : (900000 : Nat) ≤ sizeLine := by decide
    refine ⟨_, rfl, py, _, rfl, dres, pres.1, pres.2.1, Nat.le_trans pres.2.2.1 (by decide), Nat.le_trans pres.2.2.2 sizes, ?_⟩
    refine ⟨rfl, _, rfl, ifF (by rw [shown0, decide_eq_true rfl]; rfl) ?_⟩
    have k05 : Kx (fun _ => False) H H5 := fun b o e nt n4 => s5 _ _ (kd _ _ (fun z => by rw [z] at e; have := (s1.trans s2) _ _ e; rw [nd0] at this; cases this) (e34 _ _ (s13 _ _ e) nt))
    have ha5 := sqL_kx k05 ha
    have t5 : Tabs (TT pN pT) H5 := by
      have tG : Tabs (TT pN pT) G := tabs_kp (M := (· = d)) t4 (fun b o e n => by
        rcases n with n | n
        · exact kd _ _ n e
        · exact kd _ _ (fun z => by rw [z, hd4] at e; rw [← Option.some.inj e] at n; rcases n with ⟨_, n⟩ | ⟨_, n⟩ <;> cases n) e) (fun b ps z e => by rw [show b = d from z, hd4] at e; cases e)
      exact tS tG s5
    refine ⟨_, rfl, a, _, rfl, .inl ha5, _, 6, rfl, 2, _, rfl, ?_⟩
    generalize hN : (if (if (6 : Int) < ((cs.map V.int).length : Int) then (6 : Int) else ((cs.map V.int).length : Int)) > 2 then (if (6 : Int) < ((cs.map V.int).length : Int) then (6 : Int) else ((cs.map V.int).length : Int)) else 2) = N
    have hN1 : 2 ≤ N ∧ N ≤ 6 := by
      rw [← hN]
      split
      · split <;> omega
      · omega
    refine ⟨N, rfl, by omega, by omega, fun D nD => ?_⟩
    have sD := same_new (o := HO.lst []) nD
    refine lc_it walk_range (fun i G => Kx (fun _ => False) H5 G ∧ Tabs (TT pN pT) G ∧ G D = some (.lst (List.replicate i (V.bl true)))) ⟨Kx.of (Same.kp sD), tS t5 sD, upd_same⟩ (fun _ _ _ _ => trivial) (fun i x G1 G2 hi hpv hy => ?_) (fun G1 hpv => ?_)
    · obtain ⟨k1, t1, hD1⟩ := hpv
      obtain ⟨rfl, rfl⟩ := hy
      refine ⟨rfl, ?_⟩
      refine yes_if ?_
      refine ⟨_, rfl, _, rfl, a, cs, i, congrArg (fun z => [V.ref a, V.int z]) (Int.zero_add _), sqL_kx k1 ha5, by omega, fun G3 v s3 => ⟨v, rfl, fun G4 p s4 np pp => ⟨p, rfl, pp, tS t1 (s3.trans s4), fun G5 k5 p5 t5 => ?_⟩⟩⟩
      have hD3 := s3 _ _ hD1
      have Dp : D ≠ p := fun e => by rw [← e, hD3] at np; cases np
      have hD5 := k5 _ _ (s4 _ _ hD3) (fun _ z => by cases z) (.inl Dp)
      refine ⟨_, hD5, by rw [List.length_replicate]; exact Nat.lt_of_lt_of_le (show i < 10 by omega) (by decide), fun b o e nt n4 => ?_, ?_, ?_⟩
      · have h3 := s3 _ _ (k1 _ _ e nt n4)
        exact (upd_ne (ne_of_none e nD)).trans (k5 _ _ (s4 _ _ h3) nt (.inl fun z => by rw [show b = p from z, np] at h3; cases h3))
      · refine tabs_kp (M := (· = D)) t5 (fun b o e n => ?_) (fun b ps z e => by rw [show b = D from z, hD5] at e; cases e)
        rcases n with n | n
        · exact (upd_ne n).trans e
        · exact (upd_ne fun z => by rw [z, hD5] at e; rw [← Option.some.inj e] at n; rcases n with ⟨_, n⟩ | ⟨_, n⟩ <;> cases n).trans e
      · rw [upd_same, List.replicate_succ']
    · obtain ⟨k1, t1, hD1⟩ := hpv
      refine ⟨D, List.replicate N.toNat true, rfl, SqL.of (by rw [List.map_replicate]; exact hD1), ?_⟩
      have fin : ∀ bb : Bool, bb = true → Q (.bl bb) G1 := fun bb e => by rw [e]; exact q G1
      exact fin _ (by simp)
end
end K

set_option Elab.async false
set_option linter.all false
set_option maxRecDepth 100000
set_option maxHeartbeats 4000000
/-! HEn: the law is called by the judge's caller: tables told, no repr under way. -/
namespace K
open PySem PySem.Spec PyProof.Rows L2 He LamX Att
/-- what stands where the law is called -/
structure Gnd (K : PySem.W.Frag) (mg mb : Str → Option Value) (sc : Shared) (ps : List (Addr × Addr)) (a : Addr) (vs : List Value) (ns : List Int) : Prop where
  kin : K.In sc.heap
  glo : sc.heap.Ns mainGlobals mg
  blt : sc.heap.Ns builtinsNs mb
  same : ∀ x : Str, x ≠ "__name__" → mb x = bootBuiltins x
  lim : sc.heap.NoLimit
  gens : sc.gens = #[]
  tab : ∀ q ∈ ps, sc.heap.get? q.2 = some { cls := .none, data := .fields #[] }
  out : ∀ q ∈ ps, K.lookup q.2 = none
  code : ∀ q ∈ ps, PySem.W.CodeHd sc.heap q.1 q.2
  mdl : ∃ (bm : Addr) (ob : Obj), mg "__builtins__" = some (.ref bm) ∧ bm ≠ builtinsNs ∧ sc.heap.get? bm = some ob ∧ ob.cls = .type "module" ∧ ob.dict = some builtinsNs ∧ ob.data = .plain
  scr : sc.heap.get? a = some { cls := .type "list", data := .seq vs.toArray }
  whole : IntsAre vs ns
  few : ns.length ≤ sizeLine
/-- the tables and (where the head does not tell it) the script are told -/
def hp0 (K : PySem.W.Frag) (ps : List (Addr × Addr)) (a : Addr) (vs : List Value) (ns : List Int) : Hp := fun b =>
  if b ∈ ps.map (·.2) then some (.tbl #[]) else if b = a ∧ K.lookup a = none then some (.frz { cls := .type "list", data := .seq vs.toArray } (.lst (ns.map V.int))) else none
section
variable {P : Program} {w : World} {K : PySem.W.Frag} {mg mb : Str → Option Value} {sc : Shared} {ps : List (Addr × Addr)} {a : Addr} {vs : List Value} {ns : List Int}
theorem Gnd.tabs (G : Gnd K mg mb sc ps a vs ns) {b : Addr} (hb : b ∈ ps.map (·.2)) : sc.heap.get? b = some { cls := .none, data := .fields #[] } ∧ K.lookup b = none := by
  obtain ⟨q, hq, rfl⟩ := List.mem_map.mp hb
  exact ⟨G.tab q hq, G.out q hq⟩
theorem Gnd.notTab (G : Gnd K mg mb sc ps a vs ns) : a ∉ ps.map (·.2) := fun hb => by
  have h1 := (G.tabs hb).1
  rw [G.scr] at h1
  have h2 : Data.seq vs.toArray _ = Data.fields #[] := congrArg Obj.data (Option.some.inj h1)
  cases h2
theorem hp0_some {b : Addr} {u : HO} (h : hp0 K ps a vs ns b = some u) : (b ∈ ps.map (·.2) ∧ u = .tbl #[]) ∨ (b ∉ ps.map (·.2) ∧ b = a ∧ K.lookup a = none ∧ u = .frz { cls := .type "list", data := .seq vs.toArray } (.lst (ns.map V.int))) := by
  unfold hp0 at h
  split at h
  · rename_i hb
    exact .inl ⟨hb, (Option.some.inj h).symm⟩
  · rename_i hb
    split at h
    · rename_i hc
      exact .inr ⟨hb, hc.1, hc.2, (Option.some.inj h).symm⟩
    · cases h
theorem hp0_tab {q : Addr × Addr} (hq : q ∈ ps) : hp0 K ps a vs ns q.2 = some (.tbl #[]) := if_pos (List.mem_map.mpr ⟨q, hq, rfl⟩)
theorem Gnd.hok (G : Gnd K mg mb sc ps a vs ns) : HOk P w (hp0 K ps a vs ns) sc.heap := fun b u h => by
  rcases hp0_some h with ⟨hb, rfl⟩ | ⟨_, rfl, _, rfl⟩
  · exact (G.tabs hb).1
  · exact ⟨G.scr, by rw [List.length_map]; exact G.few, vs, _, vals_ints G.whole, G.scr⟩
theorem Gnd.script (G : Gnd K mg mb sc ps a vs ns) : SqL K (hp0 K ps a vs ns) a (ns.map V.int) := by
  cases hk : K.lookup a with
  | none => exact .inl (.inr ⟨_, (if_neg G.notTab).trans (if_pos ⟨rfl, hk⟩)⟩)
  | some o =>
    have h1 := G.kin a o hk
    rw [G.scr] at h1
    cases h1
    have hl := G.whole.length
    have hz := G.few
    exact .inr ⟨_, vs.toArray, _, hk, rfl, rfl, rfl, by rw [List.size_toArray, hl]; exact hz, by simpa using vals_ints G.whole⟩
/-- nothing of the written part is told -/
theorem Gnd.free (G : Gnd K mg mb sc ps a vs ns) {b : Addr} {o : Obj} (h : sc.heap.get? b = some o) (h1 : ∀ xs n, o.data ≠ .seq xs n) (h2 : o.data ≠ .fields #[]) : hp0 K ps a vs ns b = none := by
  cases hb : hp0 K ps a vs ns b with
  | none => rfl
  | some u =>
    rcases hp0_some hb with ⟨ht, _⟩ | ⟨_, rfl, _, _⟩
    · rw [(G.tabs ht).1] at h
      cases h
      exact absurd rfl h2
    · rw [G.scr] at h
      cases h
      exact absurd rfl (h1 _ _)
theorem Gnd.nsB (G : Gnd K mg mb sc ps a vs ns) {b : Addr} {m : Str → Option Value} (h : sc.heap.Ns b m) : (hidT sc.heap (hp0 K ps a vs ns)).Ns b m := by
  obtain ⟨o, es, ep, h1, h2, h3⟩ := h
  exact ⟨o, es, ep, hidT_get h1 (G.free h1 (fun xs n z => by rw [h2] at z; cases z) fun z => by rw [h2] at z; cases z), h2, h3⟩
theorem Gnd.inB (G : Gnd K mg mb sc ps a vs ns) : K.In (hidT sc.heap (hp0 K ps a vs ns)) := fun b o h => hidT_get (G.kin b o h) (by
  cases hb : hp0 K ps a vs ns b with
  | none => rfl
  | some u =>
    rcases hp0_some hb with ⟨ht, _⟩ | ⟨_, rfl, hk, _⟩
    · rw [(G.tabs ht).2] at h; cases h
    · rw [hk] at h; cases h)
theorem Gnd.mod (G : Gnd K mg mb sc ps a vs ns) : L2.Mod K mg (hidT sc.heap (hp0 K ps a vs ns)) := by
  obtain ⟨mc, h1, h2⟩ := G.lim
  exact ⟨G.inB, G.nsB G.glo, ⟨mb, G.nsB G.blt, G.same⟩, mc, G.nsB h1, h2⟩
theorem Gnd.tabB (G : Gnd K mg mb sc ps a vs ns) {q : Addr × Addr} (hq : q ∈ ps) : TabB (hidT sc.heap (hp0 K ps a vs ns)) mg q.1 q.2 := by
  have ht := G.tab q hq
  refine ⟨?_, ?_, fun z => ?_⟩
  · obtain ⟨o, us, file, tf, flags, tg, inF, text, tt, e1, r1, r2, r3, r4, r5, r6, r7, r8, hne⟩ := G.code q hq
    have hfr := G.free e1 (fun xs n z => by rw [r2] at z; cases z) fun z => by
      rw [r2] at z
      cases z
      simp at r3
    exact ⟨o, us, file, tf, flags, tg, inF, text, tt, hidT_get e1 hfr, r1, r2, r3, r4, r5, r6, r7, r8, hne⟩
  · obtain ⟨bm, ob, b1, b2, b3, b4, b5, b6⟩ := G.mdl
    have hfr := G.free b3 (fun xs n z => by rw [b6] at z; cases z) fun z => by rw [b6] at z; cases z
    refine ⟨bm, ob, b1, b2, fun z => ?_, fun z => ?_, hidT_get b3 hfr, b4, b5, b6⟩
    · obtain ⟨o, es, ep, h1, h2, _⟩ := G.glo
      rw [z, h1] at b3
      cases b3
      rw [h2] at b6
      cases b6
    · rw [z, ht] at b3
      cases b3
      cases b6
  · obtain ⟨o, es, ep, h1, h2, _⟩ := G.glo
    rw [z, ht] at h1
    cases h1
    cases h2
/-- THE CALL -/
theorem Gnd.call {k : Nat} {fa : Addr} {fd : FuncData} {x : Str} {sp : Sp} (G : Gnd K mg mb sc ps a vs ns) (hr : Room k callerA) (run : RunG P w K mg (hidT sc.heap (hp0 K ps a vs ns)) k fa fd [x] sp) (bind : BindsTo sc fd ⟨[.ref a], []⟩ [(x, .ref a)])
    (hsp : sp [.ref a] (hp0 K ps a vs ns) (fun v _ => v = .bl true) fun _ _ _ => False) :
    codeAny (model P w) callerA (.call (.ref fa) ⟨[.ref a], []⟩) (fun r s' => r = .ok (.ret (.bool true)) ∧ OldK sc.heap s'.heap ∧ s'.os = sc.os ∧ AllBare s'.gens) sc := by
  have env : Env0 P w K mg (hidT sc.heap (hp0 K ps a vs ns)) callerA [] sc (hp0 K ps a vs ns) :=
    ⟨rfl, G.mod, fun b o e => of_hidT e, Nat.le_of_eq (hidT_size _ _), trivial, fun b hb => (by have hb : b ∈ ([] : List Addr) := hb; cases hb), G.hok, .of_eq G.gens⟩
  refine codeAny_mono (run callerA [] sc (hp0 K ps a vs ns) ⟨[.ref a], []⟩ [.ref a] [.ref a] _ _ rfl hr env bind (.cons rfl .nil) hsp) fun r s' hres => ?_
  cases r with
  | error e => exact False.elim hres
  | ok fl =>
    cases fl with
    | next => exact False.elim hres
    | brk => exact False.elim hres
    | cont => exact False.elim hres
    | ret u =>
      obtain ⟨v, H1, hos, hbare, un, hok1, hrel, hv⟩ := hres
      obtain rfl : v = .bl true := hv
      obtain rfl : u = .bool true := hrel
      have kept : ∀ b o, b ∉ ps.map (·.2) → sc.heap.get? b = some o → s'.heap.get? b = some o := fun b o hb e => by
        cases hq : hp0 K ps a vs ns b with
        | none => exact un.keep b o e hq (fun z => by have z : b ∈ ([] : List Addr) := z; cases z) (by simp)
        | some u =>
          rcases hp0_some hq with ⟨ht, _⟩ | ⟨_, _, _, rfl⟩
          · exact absurd ht hb
          · obtain ⟨c1, _⟩ := (G.hok (P := P) (w := w)) b _ hq
            obtain ⟨c2, _⟩ := hok1 b _ (un.frzs b _ _ hq)
            rw [e] at c1
            cases c1
            exact c2
      have grew : ∀ q ∈ ps, ∃ more : Array Value, s'.heap.get? q.2 = some { cls := .none, data := .fields more } := fun q hq => by
        obtain ⟨more, z⟩ := un.tbls q.2 #[] (hp0_tab hq)
        exact ⟨_, hok1 q.2 _ z⟩
      refine ⟨rfl, ⟨fun b o e => ?_, fun b o e => ?_⟩, hos, hbare⟩
      · rcases Classical.em (b ∈ ps.map (·.2)) with hb | hb
        · obtain ⟨q, hq, rfl⟩ := List.mem_map.mp hb
          obtain ⟨more, hm⟩ := grew q hq
          have ht := G.tab q hq
          rw [ht] at e
          cases e
          exact .inr (.inl ⟨((G.code q hq).tab ht).isCodeTable, rfl, #[], more, rfl, by rw [Array.empty_append]; exact hm⟩)
        · exact .inl (kept b o hb e)
      · rcases Classical.em (b ∈ ps.map (·.2)) with hb | hb
        · obtain ⟨q, hq, rfl⟩ := List.mem_map.mp hb
          obtain ⟨more, hm⟩ := grew q hq
          exact ⟨_, hm⟩
        · exact ⟨o, kept b o hb e⟩
end
end K

set_option Elab.async false
set_option linter.all false
set_option maxRecDepth 100000
set_option maxHeartbeats 4000000
/-! HFn: the law, called. -/
namespace K
open PySem PySem.Spec PyProof.Rows L2 He LamX Att
theorem ne1_of {K : PySem.W.Frag} {h : Heap} {w : World} (c : SaysK w h K) : cG K ≠ cS K := neB_ok (c.ex 10 rfl)
theorem ne2_of {K : PySem.W.Frag} {h : Heap} {w : World} (c : SaysK w h K) : cG K ≠ cR K := neB_ok (c.ex 11 rfl)
theorem codeRef {K : PySem.W.Frag} {n q : Str} {st : Stmt} {x : Str} {fd : FuncData} {dvs : List V} {kws : List (Str × V)} (F : FunD K n q (defArgs st) (defBody st) (defScope st) dvs kws (ga K x) fd) :
    ∀ oc od fd' osl, K.lookup (ga K x) = some ⟨oc, od, .func fd', osl⟩ → fd'.code = .ref (cT K (x, none)).1 := by
  intro oc od fd' osl lk
  obtain ⟨oc2, od2, dV, kV, doc, pm, an, cdv, ct, osl2, rfl, lk2, hcd, _, _⟩ := F.ex
  rw [lk2] at lk
  cases lk
  obtain ⟨c, hc⟩ := codeIn_ref hcd
  have := codeOf_eq (p := (x, none)) lk2 hc
  show cdv = .ref (codeOf K (x, none))
  rw [this]
  exact hc
theorem law_called {P : Program} {w : World} {K : PySem.W.Frag} {mg mb : Str → Option Value} {sc : Shared} {fa a : Addr} {vs : List Value} {ns : List Int} (kin : K.In sc.heap) (c : SaysK w sc.heap K) (glo : sc.heap.Ns mainGlobals mg) (blt : sc.heap.Ns builtinsNs mb)
    (same : ∀ x : Str, x ≠ "__name__" → mb x = bootBuiltins x) (lim : sc.heap.NoLimit) (gens : sc.gens = #[])
    (mdl : ∃ (bm : Addr) (ob : Obj), mg "__builtins__" = some (.ref bm) ∧ bm ≠ builtinsNs ∧ sc.heap.get? bm = some ob ∧ ob.cls = .type "module" ∧ ob.dict = some builtinsNs ∧ ob.data = .plain)
    (scr : sc.heap.get? a = some { cls := .type "list", data := .seq vs.toArray }) (whole : IntsAre vs ns) (few : ns.length ≤ sizeLine) (hmg : mg "law" = some (.ref fa)) :
    codeAny (model P w) callerA (.call (.ref fa) ⟨[.ref a], []⟩) (fun r s' => r = .ok (.ret (.bool true)) ∧ OldK sc.heap s'.heap ∧ s'.os = sc.os ∧ AllBare s'.gens) sc := by
  have T := tx_of kin glo c
  have e := hmg.symm.trans T.d_law.1
  cases e
  have G : Gnd K mg mb sc [cT K ("_law_number_function", none), cT K ("_law_truth_function", none)] a vs ns := by
    have hm : ∀ q ∈ [cT K ("_law_number_function", none), cT K ("_law_truth_function", none)], ∃ p ∈ makers, q = cT K p := fun q hq => by
      rcases List.mem_cons.mp hq with rfl | hq
      · exact ⟨_, List.mem_cons_self, rfl⟩
      · exact ⟨_, List.mem_cons_of_mem _ List.mem_cons_self, List.mem_singleton.mp hq⟩
    refine ⟨kin, glo, blt, same, lim, gens, fun q hq => ?_, fun q hq => ?_, fun q hq => ?_, mdl, scr, whole, few⟩
    · obtain ⟨p, hp, rfl⟩ := hm q hq
      exact c.empty p hp
    · obtain ⟨p, hp, rfl⟩ := hm q hq
      exact c.out p hp
    · obtain ⟨p, hp, rfl⟩ := hm q hq
      exact PySem.W.codeHd_of_K kin (c.hd p hp)
  obtain ⟨_, fdN, FN⟩ := T.d_law_number_function
  obtain ⟨_, fdT, FT⟩ := T.d_law_truth_function
  have L : Tl K mg (hidT sc.heap (hp0 K [cT K ("_law_number_function", none), cT K ("_law_truth_function", none)] a vs ns)) (cT K ("_law_number_function", none)).1 (cT K ("_law_number_function", none)).2 (cT K ("_law_truth_function", none)).1 (cT K ("_law_truth_function", none)).2 :=
    ⟨codeRef FN, G.tabB List.mem_cons_self, codeRef FT, G.tabB (List.mem_cons_of_mem _ List.mem_cons_self), c.ne⟩
  obtain ⟨len, ⟨fd, run, _, bind⟩, _, _⟩ := ok_law (P := P) T L (ne1_of c) (ne2_of c)
  refine G.call (k := 29) ⟨rfl, by decide, by decide⟩ run (bind sc [.ref a] rfl) ⟨a, ns, rfl, G.script, fun q hq => ?_, fun _ => rfl⟩
  have none_ : ∀ pos : Pos, codeAmong pos ([] : List Value) = none := fun pos => rfl
  have mk_ : ∀ (b : Addr) (q : Str), hp0 K [cT K ("_law_number_function", none), cT K ("_law_truth_function", none)] a vs ns b = some (.tbl #[]) → TabS (hp0 K [cT K ("_law_number_function", none), cT K ("_law_truth_function", none)] a vs ns) b q := fun b q hb => ⟨#[], hb, trivial, fun pos cv h => by rw [none_ pos] at h; cases h⟩
  rcases List.mem_cons.mp hq with rfl | hq
  · exact mk_ _ _ (hp0_tab (q := cT K ("_law_number_function", none)) List.mem_cons_self)
  · rw [List.mem_singleton.mp hq]
    exact mk_ _ _ (hp0_tab (q := cT K ("_law_truth_function", none)) (List.mem_cons_of_mem _ List.mem_cons_self))
end K

set_option Elab.async false
set_option linter.all false
set_option maxRecDepth 100000
set_option maxHeartbeats 0
open PySem PySem.W PySem.Calls PyProof.Rows
theorem PySem.Challenge.cw_callflows_k19_whole_texts_with_real_func_holds : PySem.Challenge.rw_callflows_k19_whole_texts_with_real_func.Holds := by
  w_on; o_law
  refine HandSHeadRun.head_any (r := OpenLaw.row PySem.Challenge.rw_callflows_k19_whole_texts_with_real_func) (q := K.qv) (H := K.hookK) (ob := K.obK) (M := 9000) (loose := K.looseN) (d := HandSHeadRun.topDef (OpenLaw.row PySem.Challenge.rw_callflows_k19_whole_texts_with_real_func).prog 106) (kwd := []) K.obK_eq (by kernel_rfl) (fun s => by kernel_rfl) K.runK (by kernel_rfl) (by kernel_rfl) (by kernel_rfl) (by rfl) (by first | assumption | decide +kernel) (by decide +kernel) ⟨rfl, rfl, rfl, rfl, rfl, by decide +kernel⟩ ?hw ?hc
  case hw => w_witness2
  case hc =>
    refine Att.attach_callB (n := 63) rfl (by kernel_rfl) fun w s₀ s₁ mg mb fa o pm cd doc a vs ns G Y ho hd hcd hmg hobj hints hlen hbits hg => ?_
    obtain ⟨K, KX, c⟩ := Y
    have hmg2 : mg ("law" : PySem.Str) = some (.ref fa) := by
      have e : (HandSHeadRun.topDef (OpenLaw.row PySem.Challenge.rw_callflows_k19_whole_texts_with_real_func).prog 106).name = ("law" : PySem.Str) := by kernel_rfl
      rw [← e]
      exact hmg
    exact _root_.K.law_called KX c G.T.g G.T.b G.T.builtins G.T.nolimit hg G.T.bmain hobj hints (Nat.le_trans hlen (by decide)) hmg2
