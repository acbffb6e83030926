import PyProof.Rows.All
import Wide.All
import OpenK.AllK
import Wide.FinOn
import HandS.ForMost
import HandS.More
import HandS.Defaults
import HandS.IsInst
import HandS.Evl
import HandS.Steps
import HandS.Flow
import HandS.TupAny
import HandS.DeepEq
import PySem.Challenge.RW_livingroll_k58_whole_journals_judged
import KE.KSortedM
import HandS.Head0
import HandS.Head1
import HandS.Head2
import HandS.HeadEnd
import HandS.HeadHook1
import HandS.HeadHook2
import HandS.HeadHook3
import HandS.HeadHook4
set_option Elab.async false
set_option linter.all false
set_option maxRecDepth 100000
set_option maxHeartbeats 4000000
/-! The data, the one spec of both readings, small lemmas. -/
namespace Lr
open PySem L2 Evl
/-! ### the text -/
def top (i : Nat) : Stmt := PySem.Challenge.pw_livingroll_k58_whole_journals_judged.main.body.getD i (.Pass ⟨0, 0, 0, 0⟩)
/-! ### a def that is called -/
structure Cal (P : Program) (w : World) (K : PySem.W.Frag) (mg : Str → Option Value) (base : Heap) (x : Str) (k : Nat) (ps : List Str) (sp : Sp) (f : Addr) (fd : FuncData) : Prop where
  ok : FnOk P w K mg base CX0 k f fd ps sp
  mg : mg x = some (.ref f)
  kp : PySem.W.keepIn K (.ref f) = true
  bd : Binds K fd ps []
section
variable {X : Cx} {x : Str} {k : Nat} {ps : List Str} {sp : Sp} {f : Addr} {fd : FuncData} {e : Expr} {es : List Expr} {p pos : Pos} {t : TA}
theorem pe_cal (c : Cal X.prog X.w X.K X.mg X.base x k ps sp f fd) (hr : Room k X.A) (hg : Gl X x) (ha : PA X (e :: es) t) (hdb : (x == ("__debug__" : Str)) = false := by decide) (he : starEach (e :: es) X.env = (false, eval e X.env) :: starEach es X.env := by rfl)
    (hpl : (backTo pos (starEach es X.env)).any (·.1) = false := by rfl) : PE X (.Call (.Name x p) (e :: es) [] pos) (tCall sp [] E0 t) :=
  pe_call c.ok hr hg c.mg c.kp c.bd .nil pass0 ha hdb he hpl
theorem pe_gref {a : Addr} (hg : Gl X x) (hm : X.mg x = some (.ref a)) (hd : (x == ("__debug__" : Str)) = false := by decide) : PE X (.Name x pos) (tC (.ref a)) := pe_glob hg hm rfl hd
end
/-! ### isinstance of built-in types -/
def IsB (K : PySem.W.Frag) (H : Hp) (x : V) (n : String) (b : Bool) : Prop := ∃ t, TyX K H x (.type t) ∧ kitB t n = some b
def rIsB (K : PySem.W.Frag) : List V → Hp → VK → Prop := fun xs H Q => ∃ x n b, xs = [x, .ty n] ∧ IsB K H x n b ∧ Q (.bl b) H
theorem call_isB {X : Cx} : CallR X (.builtin "isinstance") (rIsB X.K) := by
  intro pins s σ H xs us Q I r h
  obtain ⟨x, n, b, rfl, ⟨t, ty, kb⟩, q⟩ := h
  exact call_isi pins s σ H _ us Q I r ⟨x, .ty n, .type t, .type n, b, rfl, ClsV.ty n, ty, kit_ty kb, q⟩
theorem pe_isi {X : Cx} {e : Expr} {ta : TE} {n : String} {x : Str} {p p2 pos : Pos} (hg : Gl X "isinstance") (hm : X.mg "isinstance" = none) (hgT : Gl X x) (hmT : X.mg x = none) (hv : bootBuiltins x = some (.type n)) (ha : PE X e ta)
    (hn : x ≠ "__name__" := by decide) (hd : (x == ("__debug__" : Str)) = false := by decide) (he : starEach [e, .Name x p2] X.env = (false, eval e X.env) :: starEach [.Name x p2] X.env := by rfl)
    (he2 : starEach [.Name x p2] X.env = (false, eval (.Name x p2) X.env) :: starEach [] X.env := by rfl) (hpl : (backTo pos (starEach [.Name x p2] X.env)).any (·.1) = false := by rfl) :
    PE X (.Call (.Name "isinstance" p) [e, .Name x p2] [] pos) (tCB (rIsB X.K) (tCons ta (tCons (tC (.ty n)) tNil))) :=
  pe_callB call_isB hg hm (by decide +kernel) (pa_cons ha (pa_cons (pe_bltn (v := .ty n) hgT hmT hv rfl hn hd) pa_nil he2) he) (by decide) (by decide) he hpl
theorem ev_isB {K : PySem.W.Frag} {σ : L2.St} {H : Hp} {ta : TE} {x : V} {n : String} {b : Bool} (ha : Ev ta σ H x) (hb : ∀ H1, Ex H H1 → IsB K H1 x n b) : Ev (tCB (rIsB K) (tCons ta (tCons (tC (.ty n)) tNil))) σ H (.bl b) := by
  refine ev_cb (ea_cons ha (ea_cons ev_c ea_nil)) fun H1 e Q k => ?_
  exact ⟨x, n, b, rfl, hb H1 e, k H1 (Ex.refl _)⟩
section
variable {K : PySem.W.Frag} {H : Hp}
theorem isB_int {i : Int} {n : String} {b : Bool} (h : kitB "int" n = some b) : IsB K H (.int i) n b := ⟨"int", .base (.int i), h⟩
theorem isB_bl {i : Bool} {n : String} {b : Bool} (h : kitB "bool" n = some b) : IsB K H (.bl i) n b := ⟨"bool", .base (.bl i), h⟩
theorem isB_str {x : Str} {n : String} {b : Bool} (h : kitB "str" n = some b) : IsB K H (.str x) n b := ⟨"str", .base (.str x), h⟩
theorem isB_non {n : String} {b : Bool} (h : kitB "NoneType" n = some b) : IsB K H .non n b := ⟨"NoneType", .base .non, h⟩
theorem isB_tup {a : Addr} {xs : List V} {n : String} {b : Bool} (e : H a = some (.tup xs)) (h : kitB "tuple" n = some b) : IsB K H (.ref a) n b := ⟨"tuple", .base (.tup e), h⟩
theorem isB_lst {a : Addr} {xs : List V} {n : String} {b : Bool} (e : H a = some (.lst xs)) (h : kitB "list" n = some b) : IsB K H (.ref a) n b := ⟨"list", .base (.lst e), h⟩
end
theorem k_int_int : kitB "int" "int" = some true := by decide +kernel
theorem k_int_bool : kitB "int" "bool" = some false := by decide +kernel
theorem k_int_str : kitB "int" "str" = some false := by decide +kernel
theorem k_int_tuple : kitB "int" "tuple" = some false := by decide +kernel
theorem k_str_int : kitB "str" "int" = some false := by decide +kernel
theorem k_str_str : kitB "str" "str" = some true := by decide +kernel
theorem k_str_tuple : kitB "str" "tuple" = some false := by decide +kernel
theorem k_non_int : kitB "NoneType" "int" = some false := by decide +kernel
theorem k_non_str : kitB "NoneType" "str" = some false := by decide +kernel
theorem k_non_tuple : kitB "NoneType" "tuple" = some false := by decide +kernel
theorem k_tup_int : kitB "tuple" "int" = some false := by decide +kernel
theorem k_tup_str : kitB "tuple" "str" = some false := by decide +kernel
theorem k_tup_tuple : kitB "tuple" "tuple" = some true := by decide +kernel
theorem k_lst_tuple : kitB "list" "tuple" = some false := by decide +kernel
theorem k_lst_list : kitB "list" "list" = some true := by decide +kernel
end Lr
set_option Elab.async false
set_option linter.all false
set_option maxRecDepth 100000
set_option maxHeartbeats 4000000
namespace Lr
open PySem L2 Evl
/-! ### an entry of the right form -/
structure En where
  seat : Int
  life : Int
  mark : Str
  src : Option Int
abbrev mA : Str := "alive"
abbrev mS : Str := "suspect"
abbrev mD : Str := "dead"
abbrev mL : Str := "left"
def marksV : List V := [.str "alive", .str "suspect", .str "dead", .str "left"]
def isMark (m : Str) : Bool := inV (.str m) marksV
def wholeV : V → Bool
  | .int i => decide (0 ≤ i)
  | _ => false
def markV : V → Bool
  | .str m => isMark m
  | _ => false
def srcV : Option Int → V
  | none => .non
  | some c => .int c
def En.items (e : En) : List V := [.int e.seat, .int e.life, .str e.mark, srcV e.src]
def srcO : V → Option (Option Int)
  | .non => some none
  | .int c => if 0 ≤ c then some (some c) else none
  | _ => none
/-- the entry that a tuple of these items is -/
def formedL : List V → Option En
  | [.int s, .int l, .str m, x] => if 0 ≤ s ∧ 0 ≤ l ∧ isMark m = true then (srcO x).map fun c => ⟨s, l, m, c⟩ else none
  | _ => none
theorem formedL_items {xs : List V} {e : En} (h : formedL xs = some e) : xs = e.items ∧ 0 ≤ e.seat ∧ 0 ≤ e.life ∧ isMark e.mark = true ∧ ∀ c, e.src = some c → 0 ≤ c := by
  unfold formedL at h
  split at h
  · rename_i s l m x
    split at h
    · rename_i hc
      cases x with
      | non =>
        simp only [srcO, Option.map_some, Option.some.injEq] at h
        subst h
        exact ⟨rfl, hc.1, hc.2.1, hc.2.2, fun c q => nomatch q⟩
      | int c =>
        simp only [srcO] at h
        split at h
        · rename_i h0
          simp only [Option.map_some, Option.some.injEq] at h
          subst h
          exact ⟨rfl, hc.1, hc.2.1, hc.2.2, fun c' q => by cases q; exact h0⟩
        · cases h
      | bl _ => cases h
      | str _ => cases h
      | byt _ => cases h
      | flt _ => cases h
      | ref _ => cases h
      | ty _ => cases h
    · cases h
  · cases h
/-- formedness, item by item -/
theorem formedL_isSome (x0 x1 x2 x3 : V) : (formedL [x0, x1, x2, x3]).isSome = (wholeV x0 && wholeV x1 && markV x2 && (decide (x3 = .non) || wholeV x3)) := by
  cases x0 with
  | int s =>
    cases x1 with
    | int l =>
      cases x2 with
      | str m =>
        show (if 0 ≤ s ∧ 0 ≤ l ∧ isMark m = true then (srcO x3).map fun c => (⟨s, l, m, c⟩ : En) else none).isSome = (decide (0 ≤ s) && decide (0 ≤ l) && isMark m && (decide (x3 = .non) || wholeV x3))
        by_cases h1 : 0 ≤ s
        · by_cases h2 : 0 ≤ l
          · cases h3 : isMark m with
            | true =>
              rw [if_pos ⟨h1, h2, rfl⟩, Option.isSome_map, decide_eq_true h1, decide_eq_true h2]
              show (srcO x3).isSome = (decide (x3 = .non) || wholeV x3)
              cases x3 with
              | non => rfl
              | int c =>
                show (if 0 ≤ c then some (some c) else none : Option (Option Int)).isSome = (decide (V.int c = V.non) || decide (0 ≤ c))
                rw [decide_eq_false (fun z => nomatch z : ¬ V.int c = V.non)]
                by_cases h4 : 0 ≤ c
                · rw [if_pos h4, decide_eq_true h4]; rfl
                · rw [if_neg h4, decide_eq_false h4]; rfl
              | bl _ => simp [srcO, wholeV]
              | str _ => simp [srcO, wholeV]
              | byt _ => simp [srcO, wholeV]
              | flt _ => simp [srcO, wholeV]
              | ref _ => simp [srcO, wholeV]
              | ty _ => simp [srcO, wholeV]
            | false =>
              rw [if_neg (fun z => nomatch z.2.2)]
              simp
          · rw [if_neg (fun z => h2 z.2.1), decide_eq_false h2]; simp
        · rw [if_neg (fun z => h1 z.1), decide_eq_false h1]; simp
      | non => simp [formedL, markV]
      | int _ => simp [formedL, markV]
      | bl _ => simp [formedL, markV]
      | byt _ => simp [formedL, markV]
      | flt _ => simp [formedL, markV]
      | ref _ => simp [formedL, markV]
      | ty _ => simp [formedL, markV]
    | non => simp [formedL, wholeV]
    | str _ => simp [formedL, wholeV]
    | bl _ => simp [formedL, wholeV]
    | byt _ => simp [formedL, wholeV]
    | flt _ => simp [formedL, wholeV]
    | ref _ => simp [formedL, wholeV]
    | ty _ => simp [formedL, wholeV]
  | non => simp [formedL, wholeV]
  | str _ => simp [formedL, wholeV]
  | bl _ => simp [formedL, wholeV]
  | byt _ => simp [formedL, wholeV]
  | flt _ => simp [formedL, wholeV]
  | ref _ => simp [formedL, wholeV]
  | ty _ => simp [formedL, wholeV]
theorem formedL_len {xs : List V} (h : xs.length ≠ 4) : formedL xs = none := by
  unfold formedL
  split
  · exact absurd rfl h
  · rfl
/-! ### the spec: the reason of an entry, the rows of journals -/
def step (m : Str) : Int := if m = mA then 1 else if m = mS then 2 else if m = mD then 3 else 4
def rankE (e : En) : Int := 4 * e.life + step e.mark
abbrev Eo := Option En
def lastE (s : Int) (pre : List Eo) : Option En := pre.foldl (fun acc o => match o with
  | some e => if e.seat = s then some e else acc
  | none => acc) none
theorem lastE_snoc (s : Int) (pre : List Eo) (o : Eo) : lastE s (pre ++ [o]) = match o with
  | some e => if e.seat = s then some e else lastE s pre
  | none => lastE s pre := by
  unfold lastE
  rw [List.foldl_append]
  rfl
def sourcedE (pre : List Eo) : Bool := pre.any fun o => match o with
  | some e => e.src.isSome
  | none => false
def same3 (f e : En) : Bool := decide (f.seat = e.seat) && (decide (f.life = e.life) && decide (f.mark = e.mark))
def hitE (e : En) (o : Eo) : Bool := match o with
  | some f => same3 f e
  | none => false
def saidE (runs : List (List Eo)) (e : En) : Bool := runs.any fun r => r.any (hitE e)
def doubtE (e : En) (last : Option En) (lenient : Bool) : Bool :=
  if e.mark = mL then true else if e.mark = mA then decide (0 < e.life) else if lenient = true then false else match last with
  | none => true
  | some l => !decide (l.life = e.life) || !decide (l.mark = if e.mark = mS then mA else mS)
def riseE (e : En) (last : Option En) : Bool := match last with
  | none => false
  | some l => decide (rankE e ≤ rankE l)
/-- the reason ahead of 'source' -/
def reason1 (lack : List Int) (o : Int) (pre : List Eo) (e : En) : Option Str :=
  if e.src = none ∧ sourcedE pre = true then some "kept"
  else if riseE e (lastE e.seat pre) = true then some "rise"
  else if e.src = some o then
    (if e.seat = o then (if e.mark = mA ∨ e.mark = mL then none else some "own") else if doubtE e (lastE e.seat pre) (decide (o ∈ lack)) = true then some "doubt" else none)
  else none
def unsaidE (look : Int → List (List Eo)) (lack : List Int) (o : Int) (e : En) : Bool := match e.src with
  | none => false
  | some c => if c = o ∨ c ∈ lack then false else !saidE (look c) e
def reasonE (look : Int → List (List Eo)) (lack : List Int) (o : Int) (pre : List Eo) : Eo → Option Str
  | none => some "form"
  | some e => match reason1 lack o pre e with
    | some r => some r
    | none => if unsaidE look lack o e = true then some "source" else none
abbrev Row := Int × Nat × Nat × Str
def rowAt (look : Int → List (List Eo)) (lack : List Int) (o : Int) (t : Nat) (run : List Eo) (k : Nat) : List Row := match run[k]? with
  | none => []
  | some e => match reasonE look lack o (run.take k) e with
    | some r => [(o, t, k, r)]
    | none => []
def gath (n : Nat) (f : Nat → List Row) : List Row := (List.range n).flatMap f
theorem gath_zero (f : Nat → List Row) : gath 0 f = [] := rfl
theorem gath_succ (n : Nat) (f : Nat → List Row) : gath (n + 1) f = gath n f ++ f n := by
  unfold gath
  rw [List.range_succ, List.flatMap_append]
  simp
theorem gath_len {f : Nat → List Row} {m : Nat} (h : ∀ i, (f i).length ≤ m) : ∀ n, (gath n f).length ≤ n * m
  | 0 => by simp [gath]
  | n + 1 => by
    rw [gath_succ, List.length_append, Nat.succ_mul]
    exact Nat.add_le_add (gath_len h n) (h n)
def rowsRun (look : Int → List (List Eo)) (lack : List Int) (o : Int) (t : Nat) (run : List Eo) : List Row := gath run.length (rowAt look lack o t run)
def rowsOf (look : Int → List (List Eo)) (lack : List Int) (o : Int) : List Row := gath (look o).length fun t => rowsRun look lack o t ((look o).getD t [])
/-- the rows of the owners os, in that order -/
def rows (look : Int → List (List Eo)) (lack : List Int) (os : List Int) : List Row := gath os.length fun i => rowsOf look lack (os.getD i 0)
/-! ### in the heap -/
/-- what stands as an item of an entry's tuple -/
def ItemOk (H : Hp) : V → Prop
  | .non => True
  | .int _ => True
  | .str _ => True
  | .ref b => ∃ ys, H b = some (.tup ys)
  | _ => False
/-- a value that is no tuple -/
def NonTup (H : Hp) : V → Prop
  | .non => True
  | .int _ => True
  | .str _ => True
  | .ref b => ∃ ys, H b = some (.lst ys)
  | _ => False
/-- v is an entry, of the form o (none: of no right form) -/
def EntAt (H : Hp) (v : V) (o : Eo) : Prop := (∃ a xs, v = .ref a ∧ H a = some (.tup xs) ∧ (∀ x ∈ xs, ItemOk H x) ∧ o = formedL xs) ∨ (o = none ∧ NonTup H v)
abbrev Ent := V × Eo
abbrev Run := List Ent
abbrev Jrn := List (Int × List Run)
abbrev Run.eo (r : Run) : List Eo := r.map (·.2)
def RunAt (H : Hp) (v : V) (r : Run) : Prop := ∃ a, v = .ref a ∧ H a = some (.lst (r.map (·.1))) ∧ ∀ p ∈ r, EntAt H p.1 p.2
def RunsAt (H : Hp) (v : V) (rs : List Run) : Prop := ∃ a xs, v = .ref a ∧ H a = some (.lst xs) ∧ Paired (RunAt H) xs rs
/-- the journals that stand at d (a dict, locked or not) -/
def JrnAt (H : Hp) (d : Addr) (J : Jrn) : Prop := ∃ kvs : List (Key × V), Rd H d (.dK kvs) ∧ Paired (fun (kv : Key × V) (j : Int × List Run) => kv.1 = Sum.inl j.1 ∧ RunsAt H kv.2 j.2) kvs J
def lookJ (J : Jrn) (o : Int) : List Run := match J.find? fun j => decide (j.1 = o) with
  | some j => j.2
  | none => []
/-- the forms alone -/
def eoJ (J : Jrn) (o : Int) : List (List Eo) := (lookJ J o).map Run.eo
structure Bnd (J : Jrn) : Prop where
  n : J.length ≤ 8
  nd : (J.map (·.1)).Nodup
  rs : ∀ j ∈ J, j.2.length ≤ 8 ∧ ∀ r ∈ j.2, r.length ≤ 100
def PackAt (H : Hp) (p : Addr) : Prop := ∃ (c : Addr) (ns : List Int) (at_ rest seed turn : Int),
  H p = some (.dK [(Sum.inr "cells", .ref c), (Sum.inr "at", .int at_), (Sum.inr "rest", .int rest), (Sum.inr "seed", .int seed), (Sum.inr "turn", .int turn)]) ∧ H c = some (.lst (ns.map V.int)) ∧
  0 ≤ at_ ∧ at_ ≤ ns.length ∧ ns.length ≤ 1000 ∧ 0 ≤ rest ∧ 0 ≤ seed ∧ seed < 2147483647
/-- all but p stays -/
def But (p : Addr) (H H' : Hp) : Prop := ∀ b o, H b = some o → b ≠ p → H' b = some o
def RowAt (H : Hp) (v : V) (r : Row) : Prop := ∃ a, v = .ref a ∧ H a = some (.tup [.int r.1, .int (r.2.1 : Nat), .int (r.2.2.1 : Nat), .str r.2.2.2])
def RowsAt (H : Hp) (a : Addr) (rs : List Row) : Prop := ∃ vs, H a = some (.lst vs) ∧ Paired (RowAt H) vs rs
/-! ### what stays -/
theorem Paired.mono {α β : Type} {F G : α → β → Prop} : ∀ {l₁ : List α} {l₂ : List β}, Paired F l₁ l₂ → (∀ a b, F a b → G a b) → Paired G l₁ l₂ := fun h f => L2.Paired.mapP h f
section
variable {H H' : Hp} {v : V}
/-- tuples and lists that stand stay -/
structure Stay (H H' : Hp) : Prop where
  tup : ∀ b xs, H b = some (.tup xs) → H' b = some (.tup xs)
  lst : ∀ b xs, H b = some (.lst xs) → H' b = some (.lst xs)
theorem ItemOk.stay (h : ItemOk H v) (e : ∀ b xs, H b = some (.tup xs) → H' b = some (.tup xs)) : ItemOk H' v := by
  cases v with
  | ref b => obtain ⟨ys, z⟩ := h; exact ⟨ys, e _ _ z⟩
  | _ => exact h
theorem EntAt.stay {o : Eo} (h : EntAt H v o) (e : ∀ b xs, H b = some (.tup xs) → H' b = some (.tup xs)) (l : ∀ b xs, v = .ref b → H b = some (.lst xs) → ∃ ys, H' b = some (.lst ys)) : EntAt H' v o := by
  rcases h with ⟨a, xs, rfl, h1, h2, h3⟩ | ⟨h1, h2⟩
  · exact .inl ⟨a, xs, rfl, e _ _ h1, fun x hx => (h2 x hx).stay e, h3⟩
  · refine .inr ⟨h1, ?_⟩
    cases v with
    | ref b => obtain ⟨ys, z⟩ := h2; exact l b ys rfl z
    | _ => exact h2
theorem RunAt.stay {r : Run} (h : RunAt H v r) (e : Stay H H') : RunAt H' v r := by
  obtain ⟨a, rfl, h1, h2⟩ := h
  exact ⟨a, rfl, e.lst _ _ h1, fun p hp => (h2 p hp).stay e.tup fun b xs _ z => ⟨xs, e.lst _ _ z⟩⟩
theorem RunsAt.stay {rs : List Run} (h : RunsAt H v rs) (e : Stay H H') : RunsAt H' v rs := by
  obtain ⟨a, xs, rfl, h1, h2⟩ := h
  exact ⟨a, xs, rfl, e.lst _ _ h1, Paired.mono h2 fun _ _ z => z.stay e⟩
theorem JrnAt.stay {d : Addr} {J : Jrn} (h : JrnAt H d J) (e : Stay H H') (hd : ∀ kvs, Rd H d (.dK kvs) → Rd H' d (.dK kvs)) : JrnAt H' d J := by
  obtain ⟨kvs, h1, h2⟩ := h
  exact ⟨kvs, hd _ h1, Paired.mono h2 fun _ _ z => ⟨z.1, z.2.stay e⟩⟩
theorem stay_ex (e : Ex H H') : Stay H H' := ⟨fun b xs h => e b _ h, fun b xs h => e b _ h⟩
theorem JrnAt.ex {d : Addr} {J : Jrn} (h : JrnAt H d J) (e : Ex H H') : JrnAt H' d J := h.stay (stay_ex e) fun _ z => ex_rd e z
theorem RunsAt.ex {rs : List Run} (h : RunsAt H v rs) (e : Ex H H') : RunsAt H' v rs := h.stay (stay_ex e)
theorem RunAt.ex {r : Run} (h : RunAt H v r) (e : Ex H H') : RunAt H' v r := h.stay (stay_ex e)
theorem EntAt.ex {o : Eo} (h : EntAt H v o) (e : Ex H H') : EntAt H' v o := h.stay (fun b xs z => e _ _ z) fun b xs _ z => ⟨xs, e _ _ z⟩
theorem RowAt.ex {r : Row} (h : RowAt H v r) (e : Ex H H') : RowAt H' v r := by
  obtain ⟨a, rfl, z⟩ := h
  exact ⟨a, rfl, e _ _ z⟩
theorem PackAt.ex {p : Addr} (h : PackAt H p) (e : Ex H H') : PackAt H' p := by
  obtain ⟨c, ns, a, r, s, t, h1, h2, h3⟩ := h
  exact ⟨c, ns, a, r, s, t, e _ _ h1, e _ _ h2, h3⟩
theorem But.of_ex {p : Addr} (e : Ex H H') : But p H H' := fun b o h _ => e b o h
theorem But.refl (p : Addr) (H : Hp) : But p H H := fun _ _ h _ => h
theorem But.trans {p : Addr} {H2 : Hp} (a : But p H H') (b : But p H' H2) : But p H H2 := fun x o h n => b x o (a x o h n) n
theorem But.upd {p : Addr} {o : HO} (a : But p H H') : But p H (upd H' p o) := fun x u h n => by rw [upd_ne n]; exact a x u h n
theorem But.stay {p : Addr} {kvs : List (Key × V)} (a : But p H H') (h : H p = some (.dK kvs)) : Stay H H' :=
  ⟨fun b xs z => a b _ z (ne_of z h fun q => nomatch q), fun b xs z => a b _ z (ne_of z h fun q => nomatch q)⟩
theorem PackAt.dK {p : Addr} (h : PackAt H p) : ∃ kvs, H p = some (.dK kvs) := by
  obtain ⟨c, ns, a, r, s, t, h1, _⟩ := h
  exact ⟨_, h1⟩
end
end Lr
set_option Elab.async false
set_option linter.all false
set_option maxRecDepth 100000
set_option maxHeartbeats 4000000
namespace Lr
open PySem L2 Evl
/-! ### more of what evaluates to what -/
section
variable {K : PySem.W.Frag} {w : World} {σ : L2.St} {H H' : Hp} {ta tb te td ty : TE} {t u : TT} {x y z v : V} {r : R2}
theorem rv_isN : RV rIsN x .non H (.bl (decide (x = .non))) := fun H1 _ Q k => ⟨rfl, k H1 (Ex.refl _)⟩
theorem rv_notN : RV rNotN x .non H (.bl (!decide (x = .non))) := fun H1 _ Q k => ⟨rfl, k H1 (Ex.refl _)⟩
theorem rv_kd {p : Addr} {s : Str} (h : KDct K w p s v) : RV (rIxD K w) (.ref p) (.str s) H v := fun H1 _ Q k => ⟨p, s, v, rfl, rfl, h, k H1 (Ex.refl _)⟩
theorem ev_dget {a : Addr} (hd : Ev td σ H (.ref a)) (hy : Ev ty σ H y) (h : ∀ H1, Ex H H1 → DGet H1 a y (some v)) : Ev (tDGet td ty) σ H v := by
  intro H1 e1 Q k
  refine hd H1 e1 _ fun H2 e2 => hy H2 (e1.trans e2) _ fun H3 e3 => ?_
  exact ⟨a, v, rfl, h H3 ((e1.trans e2).trans e3), k H3 (e2.trans e3)⟩
theorem ev_dget1 {a : Addr} {o : Option V} (hd : Ev td σ H (.ref a)) (hy : Ev ty σ H y) (hi : ∀ H1, Ex H H1 → IsD H1 a) (h : ∀ H1, Ex H H1 → DGet H1 a y o) : Ev (tDGet1 td ty) σ H (o.getD .non) := by
  intro H1 e1 Q k
  refine hd H1 e1 _ fun H2 e2 => ⟨a, rfl, hi H2 (e1.trans e2), ?_⟩
  refine hy H2 (e1.trans e2) _ fun H3 e3 => ?_
  exact ⟨o, h H3 ((e1.trans e2).trans e3), k H3 (e2.trans e3)⟩
theorem et_din {a : Addr} {o : Option V} (hy : Ev ty σ H y) (hd : Ev td σ H (.ref a)) (h : ∀ H1, Ex H H1 → DGet H1 a y o) : EvT (tB (tDIn ty td)) σ H o.isSome := by
  intro H1 e1 Q k
  refine hy H1 e1 _ fun H2 e2 => hd H2 (e1.trans e2) _ fun H3 e3 => ?_
  exact ⟨a, o, rfl, h H3 ((e1.trans e2).trans e3), _, rfl, k H3 (e2.trans e3)⟩
theorem rv_ixT' {p : Addr} {xs : List V} {i : Nat} (h : SqT K H p xs) (ha : xs[i]? = some v) : RV (rIxT K) (.ref p) (.int (i : Nat)) H v := rv_ixT h (atI_nat ha)
theorem rv_ixL' {p : Addr} {xs : List V} {i : Nat} (h : SqL K H p xs) (ha : xs[i]? = some v) : RV (rIxL K) (.ref p) (.int (i : Nat)) H v := rv_ixL h (atI_nat ha)
/-- t[i], i written -/
theorem ev_it {p : Addr} {xs : List V} {i : Int} (i' : Nat) (ha : Ev ta σ H (.ref p)) (h : SqT K H p xs) (hx : xs[i']? = some v) (e : i = (i' : Int) := by rfl) : Ev (tOp (rIxT K) ta (tC (.int i))) σ H v := by
  subst e
  exact ev_op ha ev_c (rv_ixT' h hx)
theorem ev_lenU {p : Addr} {xs : List V} (ha : Ev ta σ H (.ref p)) (h : SqT K H p xs) : Ev (tCB (rLenS K) (tCons ta tNil)) σ H (.int (xs.length : Int)) := by
  refine ev_cb (ea_cons ha ea_nil) fun H1 e Q k => ?_
  exact ⟨p, xs, rfl, .inr (ex_t e h), k H1 (Ex.refl _)⟩
theorem ev_neI {i j : Int} (ha : Ev ta σ H (.int i)) (hb : Ev tb σ H (.int j)) : Ev (tOp rNe ta tb) σ H (.bl (!decide (i = j))) := by
  have e : decide (V.int i = V.int j) = decide (i = j) := by
    by_cases h : i = j
    · rw [h]; simp
    · rw [decide_eq_false h, decide_eq_false (fun z => h (V.int.inj z))]
  refine ev_is (ev_op ha hb (rv_ne rfl)) ?_
  rw [e]
theorem ev_eqI {i j : Int} (ha : Ev ta σ H (.int i)) (hb : Ev tb σ H (.int j)) : Ev (tOp rEq ta tb) σ H (.bl (decide (i = j))) := by
  have e : decide (V.int i = V.int j) = decide (i = j) := by
    by_cases h : i = j
    · rw [h]; simp
    · rw [decide_eq_false h, decide_eq_false (fun z => h (V.int.inj z))]
  refine ev_is (ev_op ha hb (rv_eq rfl)) ?_
  rw [e]
theorem ev_eqS {i j : Str} (ha : Ev ta σ H (.str i)) (hb : Ev tb σ H (.str j)) : Ev (tOp rEq ta tb) σ H (.bl (decide (i = j))) := by
  have e : decide (V.str i = V.str j) = decide (i = j) := by
    by_cases h : i = j
    · rw [h]; simp
    · rw [decide_eq_false h, decide_eq_false (fun z => h (V.str.inj z))]
  refine ev_is (ev_op ha hb (rv_eq rfl)) ?_
  rw [e]
theorem ev_neS {i j : Str} (ha : Ev ta σ H (.str i)) (hb : Ev tb σ H (.str j)) : Ev (tOp rNe ta tb) σ H (.bl (!decide (i = j))) := by
  have e : decide (V.str i = V.str j) = decide (i = j) := by
    by_cases h : i = j
    · rw [h]; simp
    · rw [decide_eq_false h, decide_eq_false (fun z => h (V.str.inj z))]
  refine ev_is (ev_op ha hb (rv_ne rfl)) ?_
  rw [e]
/-- a call whose promise says a value -/
theorem ev_cal {sp : Sp} {ta : TA} {vs : List V} (h : EvA ta σ H vs) (hs : SpV sp vs H z) : Ev (tCall sp [] E0 ta) σ H z := ev_call h (by rw [List.append_nil]; exact hs)
end
/-! ### the facts of the top -/
structure Tx (K : PySem.W.Frag) (w : World) (mg : Str → Option Value) (aM aS aO aB : Addr) : Prop where
  len : mg "len" = none
  isinstance : mg "isinstance" = none
  int : mg "int" = none
  bool : mg "bool" = none
  str : mg "str" = none
  tuple : mg "tuple" = none
  list : mg "list" = none
  sorted : mg "sorted" = none
  abs : mg "abs" = none
  range : mg "range" = none
  enumerate : mg "enumerate" = none
  MARKS : mg "MARKS" = some (.ref aM)
  MARK_STEPS : mg "MARK_STEPS" = some (.ref aS)
  OWN_MARKS : mg "OWN_MARKS" = some (.ref aO)
  MARK_BEFORE : mg "MARK_BEFORE" = some (.ref aB)
  tM : ∀ H, SqT K H aM marksV
  tO : ∀ H, SqT K H aO [.str "alive", .str "left"]
  s1 : KDct K w aS "alive" (.int 1)
  s2 : KDct K w aS "suspect" (.int 2)
  s3 : KDct K w aS "dead" (.int 3)
  s4 : KDct K w aS "left" (.int 4)
  b1 : KDct K w aB "suspect" (.str "alive")
  b2 : KDct K w aB "dead" (.str "suspect")
abbrev FnP (K : PySem.W.Frag) (x : Str) (st : Stmt) (f : Addr) (fd : FuncData) : Prop := FunD K x x (defArgs st) (defBody st) (defScope st) [] [] f fd
section
variable {P : Program} {w : World} {K : PySem.W.Frag} {mg : Str → Option Value} {base : Heap}
theorem FunD.cal {x : Str} {st : Stmt} {f : Addr} {fd : FuncData} {k : Nat} {ps : List Str} {sp : Sp} (F : FnP K x st f fd) (ok : FnOk P w K mg base CX0 k f fd ps sp) (hm : mg x = some (.ref f))
    (h : ∀ (kV doc pm : Value) (an : Option Addr) (cdv ct : Value) (us : List Value), us.length = ps.length → bindArgs (PySem.W.fnOf x x (defArgs st) (defBody st) (defScope st) .none kV doc pm an cdv ct) ⟨us, []⟩ = pure (ps.zip us)) : Cal P w K mg base x k ps sp f fd :=
  ⟨ok, hm, F.kp, F.bindsN h⟩
end
theorem step_pos (m : Str) : 1 ≤ step m := by
  unfold step
  split
  · omega
  · split
    · omega
    · split <;> omega
theorem isMark_cases {m : Str} (h : isMark m = true) : m = mA ∨ m = mS ∨ m = mD ∨ m = mL := by
  unfold isMark inV marksV at h
  simp only [List.any_cons, List.any_nil, Bool.or_false, Bool.or_eq_true] at h
  have f : ∀ a : Str, eqV (.str a) (.str m) = true → m = a := fun a z => (eq_of_beq z).symm
  rcases h with h | h | h | h
  · exact .inl (f _ h)
  · exact .inr (.inl (f _ h))
  · exact .inr (.inr (.inl (f _ h)))
  · exact .inr (.inr (.inr (f _ h)))
theorem mS_ne_mA : ¬ mS = mA := by decide +kernel
theorem mD_ne_mA : ¬ mD = mA := by decide +kernel
theorem mL_ne_mA : ¬ mL = mA := by decide +kernel
theorem mD_ne_mS : ¬ mD = mS := by decide +kernel
theorem mL_ne_mS : ¬ mL = mS := by decide +kernel
theorem mL_ne_mD : ¬ mL = mD := by decide +kernel
theorem step_A : step mA = 1 := if_pos rfl
theorem step_S : step mS = 2 := by rw [step, if_neg mS_ne_mA, if_pos rfl]
theorem step_D : step mD = 3 := by rw [step, if_neg mD_ne_mA, if_neg mD_ne_mS, if_pos rfl]
theorem step_L : step mL = 4 := by rw [step, if_neg mL_ne_mA, if_neg mL_ne_mS, if_neg mL_ne_mD]
theorem Tx.st {K : PySem.W.Frag} {w : World} {mg : Str → Option Value} {aM aS aO aB : Addr} (T : Tx K w mg aM aS aO aB) {m : Str} (h : isMark m = true) : KDct K w aS m (.int (step m)) := by
  rcases isMark_cases h with rfl | rfl | rfl | rfl
  · rw [step_A]; exact T.s1
  · rw [step_S]; exact T.s2
  · rw [step_D]; exact T.s3
  · rw [step_L]; exact T.s4
end Lr
set_option Elab.async false
set_option linter.all false
set_option maxRecDepth 100000
set_option maxHeartbeats 4000000
namespace Lr
open PySem L2 Evl
section
variable {P : Program} {w : World} {K : PySem.W.Frag} {mg : Str → Option Value} {base : Heap} {aM aS aO aB : Addr} {f : Addr} {fd : FuncData}
/-! ### whole -/
theorem item_whole {K : PySem.W.Frag} {H : Hp} {x : V} (hx : ItemOk H x) : (∃ i, x = .int i) ∨ ((∀ H1, Ex H H1 → IsB K H1 x "int" false) ∧ wholeV x = false) := by
  cases x with
  | int i => exact .inl ⟨i, rfl⟩
  | non => exact .inr ⟨fun _ _ => isB_non k_non_int, rfl⟩
  | str z => exact .inr ⟨fun _ _ => isB_str k_str_int, rfl⟩
  | ref b =>
    obtain ⟨ys, hy⟩ := hx
    exact .inr ⟨fun H1 e1 => isB_tup (e1 _ _ hy) k_tup_int, rfl⟩
  | bl _ => exact hx.elim
  | byt _ => exact hx.elim
  | flt _ => exact hx.elim
  | ty _ => exact hx.elim
def spWhole : Sp := fun vs H Q _ => ∃ x, vs = [x, .int 0, .non] ∧ ItemOk H x ∧ ∀ H', Ex H H' → Q (.bl (wholeV x)) H'
theorem sc_whole : FnScope ["value", "low", "high"] ["value", "low", "high"] (defScope (top 1)) := ⟨rfl, rfl, rfl, by decide +kernel, rfl, by decide +kernel, by decide +kernel⟩
theorem ok_whole (F : FnP K "whole" (top 1) f fd) (T : Tx K w mg aM aS aO aB) : FnOk P w K mg base CX0 1 f fd ["value", "low", "high"] spWhole := by
  refine F.ok sc_whole (fun vs H Q E h => ?_) (fun cdv A outer s H vs Q E hr h => ?_)
  · obtain ⟨x, rfl, _⟩ := h
    rfl
  · obtain ⟨x, rfl, hx, q⟩ := h
    refine ⟨_, PSs.nox (pss_cons (ps_if (PW.pt (pw_or (pt_not (pt_val (pe_isi (n := "int") (by rfl) T.isinstance (by rfl) T.int (by decide +kernel) (pv 0)))) (pw_or1 (pt_val (pe_isi (n := "bool") (by rfl) T.isinstance (by rfl) T.bool (by decide +kernel) (pv 0))))))
        (pss_one (ps_ret pe_bl))
        pss_nil)
      (pss_one (ps_ret (pe_and (pe_cmpR op_le (pv 1) (pv 0) (nomark _)) (pe_one (pe_or (pe_cmpR op_isN1 (pv 2) pe_non (nomark _)) (pe_one (pe_cmpR op_le (pv 0) (pv 2) (nomark _))))))))), ?_⟩
    rcases item_whole hx with ⟨i, rfl⟩ | ⟨hb, e⟩
    · refine q_when (et_or (et_not (et_B (ev_isB (ev_var rfl) fun _ _ => isB_int k_int_int))) fun _ => et_B (ev_isB (ev_var rfl) fun _ _ => isB_int k_int_bool)) (fun z => absurd z (by decide)) (fun _ H1 e1 => ?_)
      refine s_ret (ev_andV (ev_op (ev_var rfl) (ev_var rfl) rv_I0) fun _ => ev_orV (b := false) (ev_op (ev_var rfl) ev_c rv_isN) fun z => absurd z (by decide)) fun H2 e2 => ?_
      have e : (decide ((0 : Int) ≤ i) && (decide (V.non = V.non) || false)) = wholeV (.int i) := by
        show (decide ((0 : Int) ≤ i) && (decide (V.non = V.non) || false)) = decide ((0 : Int) ≤ i)
        rw [decide_eq_true (rfl : V.non = V.non)]; simp
      rw [e]
      exact q H2 (e1.trans e2)
    · refine q_when (et_or (b := false) (et_not (et_B (ev_isB (ev_var rfl) hb))) (fun z => absurd z (by decide))) (fun _ H1 e1 => ?_) (fun z => absurd z (by decide))
      exact s_ret ev_c fun H2 e2 => by rw [← e]; exact q H2 (e1.trans e2)
theorem v_whole {H : Hp} {x : V} (h : ItemOk H x) : SpV spWhole [x, .int 0, .non] H (.bl (wholeV x)) := fun H1 e Q k E => ⟨x, rfl, h.stay fun b xs z => e _ _ z, k⟩
end
end Lr
set_option Elab.async false
set_option linter.all false
set_option maxRecDepth 100000
set_option maxHeartbeats 4000000
namespace Lr
open PySem L2 Evl
section
variable {P : Program} {w : World} {K : PySem.W.Frag} {mg : Str → Option Value} {base : Heap} {aM aS aO aB : Addr} {f : Addr} {fd : FuncData}
theorem ne_non_ref {a : Addr} {A : Prop} (z : decide (V.ref a = V.non) = true) : A := nomatch (of_decide_eq_true z)
/-! ### rank -/
def spRank : Sp := fun vs H Q _ => ∃ a xs l m, vs = [.ref a] ∧ H a = some (.tup xs) ∧ xs[1]? = some (.int l) ∧ xs[2]? = some (.str m) ∧ isMark m = true ∧ ∀ H', Ex H H' → Q (.int (4 * l + step m)) H'
theorem sc_rank : FnScope ["saying"] ["saying"] (defScope (top 5)) := ⟨rfl, rfl, rfl, by decide +kernel, rfl, by decide +kernel, by decide +kernel⟩
theorem ok_rank (F : FnP K "rank" (top 5) f fd) (T : Tx K w mg aM aS aO aB) : FnOk P w K mg base CX0 1 f fd ["saying"] spRank := by
  refine F.ok sc_rank (fun vs H Q E h => ?_) (fun cdv A outer s H vs Q E hr h => ?_)
  · obtain ⟨a, xs, l, m, rfl, _⟩ := h
    rfl
  · obtain ⟨a, xs, l, m, rfl, ha, h1, h2, hm, q⟩ := h
    refine ⟨_, PSs.nox (pss_cons (ps_if (pt_cmpR op_isN1 (pv 0) pe_non (nomark _))
        (pss_one (ps_ret pe_int))
        pss_nil)
      (pss_one (ps_ret (pe_op op_add (pe_op op_mul pe_int (pe_ix ix_tup (pv 0) pe_int (fun _ _ => rfl))) (pe_ix ix_kdict (pe_gref (by rfl) T.MARK_STEPS) (pe_ix ix_tup (pv 0) pe_int (fun _ _ => rfl)) (fun _ _ => rfl)))))), ?_⟩
    refine q_when (et_test (ev_op (ev_var rfl) ev_c rv_isN)) (fun z => ne_non_ref z) (fun _ H1 e1 => ?_)
    have ha1 := e1 _ _ ha
    exact s_ret (ev_op (ev_op ev_c (ev_it 1 (ev_var rfl) (st_of ha1) h1) (rv_I (.inl ⟨by decide, by decide⟩))) (ev_op ev_c (ev_it 2 (ev_var rfl) (st_of ha1) h2) (rv_kd (T.st hm))) rv_I0) fun H2 e2 => q H2 (e1.trans e2)
theorem s_retCallU {sp : Sp} {te : TE} {σ : L2.St} {H : Hp} {xs : List V} {D : Ends} (h : EvU te σ H xs) (k : ∀ p H1, H p = none → Ex H H1 → H1 p = some (.tup xs) → sp [.ref p] H1 D.rt E0) : tRet (tCall sp [] E0 (tCons te tNil)) D σ H :=
  h H (Ex.refl _) _ fun p H2 hp e ht => k p H2 hp e ht
/-! ### entry_rank -/
def spERank : Sp := fun vs H Q _ => ∃ a e, vs = [.ref a] ∧ H a = some (.tup (En.items e)) ∧ isMark e.mark = true ∧ ∀ H', Ex H H' → Q (.int (rankE e)) H'
theorem sc_erank : FnScope ["entry"] ["entry"] (defScope (top 10)) := ⟨rfl, rfl, rfl, by decide +kernel, rfl, by decide +kernel, by decide +kernel⟩
theorem ok_entry_rank {fr : Addr} {fdr : FuncData} (F : FnP K "entry_rank" (top 10) f fd) (T : Tx K w mg aM aS aO aB) (crank : Cal P w K mg base "rank" 1 ["saying"] spRank fr fdr) : FnOk P w K mg base CX0 2 f fd ["entry"] spERank := by
  refine F.ok sc_erank (fun vs H Q E h => ?_) (fun cdv A outer s H vs Q E hr h => ?_)
  · obtain ⟨a, e, rfl, _⟩ := h
    rfl
  · obtain ⟨a, e, rfl, ha, hm, q⟩ := h
    refine ⟨_, PSs.nox (pss_one (ps_ret (pe_cal crank (hr.mono (by decide)) (by rfl) (pa_cons (pe_tup (pa_cons (pe_ix ix_tup (pv 0) pe_int (fun _ _ => rfl)) (pa_cons (pe_ix ix_tup (pv 0) pe_int (fun _ _ => rfl)) (pa_cons (pe_ix ix_tup (pv 0) pe_int (fun _ _ => rfl)) (pa_cons pe_str pa_nil))))) pa_nil)))), ?_⟩
    refine s_retCallU (eu_tup (ea_cons (ev_it 0 (ev_var rfl) (st_of ha) rfl) (ea_cons (ev_it 1 (ev_var rfl) (st_of ha) rfl) (ea_cons (ev_it 2 (ev_var rfl) (st_of ha) rfl) (ea_cons ev_c ea_nil)))) (by show 4 ≤ 100000; decide)) fun p H2 hp e2 ht => ?_
    exact ⟨p, _, e.life, e.mark, rfl, ht, rfl, rfl, hm, fun H' e' => q H' (e2.trans e')⟩
theorem v_erank {H : Hp} {a : Addr} {e : En} (h : H a = some (.tup e.items)) (hm : isMark e.mark = true) : SpV spERank [.ref a] H (.int (rankE e)) := fun H1 e1 Q k E => ⟨a, e, rfl, e1 _ _ h, hm, k⟩
/-! ### is_entry -/
theorem item_mark {K : PySem.W.Frag} {H : Hp} {x : V} (hx : ItemOk H x) : (∃ m, x = .str m) ∨ ((∀ H1, Ex H H1 → IsB K H1 x "str" false) ∧ markV x = false) := by
  cases x with
  | str z => exact .inl ⟨z, rfl⟩
  | non => exact .inr ⟨fun _ _ => isB_non k_non_str, rfl⟩
  | int z => exact .inr ⟨fun _ _ => isB_int k_int_str, rfl⟩
  | ref b =>
    obtain ⟨ys, hy⟩ := hx
    exact .inr ⟨fun H1 e1 => isB_tup (e1 _ _ hy) k_tup_str, rfl⟩
  | bl _ => exact hx.elim
  | byt _ => exact hx.elim
  | flt _ => exact hx.elim
  | ty _ => exact hx.elim
theorem nontup_isB {K : PySem.W.Frag} {H : Hp} {x : V} (hx : NonTup H x) : ∀ H1, Ex H H1 → IsB K H1 x "tuple" false := by
  cases x with
  | str z => exact fun _ _ => isB_str k_str_tuple
  | non => exact fun _ _ => isB_non k_non_tuple
  | int z => exact fun _ _ => isB_int k_int_tuple
  | ref b =>
    obtain ⟨ys, hy⟩ := hx
    exact fun H1 e1 => isB_lst (e1 _ _ hy) k_lst_tuple
  | bl _ => exact hx.elim
  | byt _ => exact hx.elim
  | flt _ => exact hx.elim
  | ty _ => exact hx.elim
theorem len4 {xs : List V} (h : xs.length = 4) : ∃ x0 x1 x2 x3, xs = [x0, x1, x2, x3] := by
  match xs, h with
  | [a, b, c, d], _ => exact ⟨a, b, c, d, rfl⟩
def spFormed : Sp := fun vs H Q _ => ∃ v o, vs = [v] ∧ EntAt H v o ∧ ∀ H', Ex H H' → Q (.bl o.isSome) H'
theorem v_formed {H : Hp} {v : V} {o : Eo} (h : EntAt H v o) : SpV spFormed [v] H (.bl o.isSome) := fun H1 e Q k E => ⟨v, o, rfl, h.ex e, k⟩
theorem sc_is_entry : FnScope ["entry", "seat", "life", "mark", "source"] ["entry"] (defScope (top 9)) := ⟨rfl, rfl, rfl, by decide +kernel, rfl, by decide +kernel, by decide +kernel⟩
theorem marks_flat : marksV.all flatV = true := rfl
theorem ok_is_entry {fw : Addr} {fdw : FuncData} (F : FnP K "is_entry" (top 9) f fd) (T : Tx K w mg aM aS aO aB) (cwhole : Cal P w K mg base "whole" 1 ["value", "low", "high"] spWhole fw fdw) : FnOk P w K mg base CX0 2 f fd ["entry"] spFormed := by
  refine F.ok sc_is_entry (fun vs H Q E h => ?_) (fun cdv A outer s H vs Q E hr h => ?_)
  · obtain ⟨v, o, rfl, _⟩ := h
    rfl
  · obtain ⟨v, o, rfl, hv, q⟩ := h
    refine ⟨_, PSs.nox (pss_cons (ps_if (PW.pt (pw_or (pt_not (pt_val (pe_isi (n := "tuple") (by rfl) T.isinstance (by rfl) T.tuple (by decide +kernel) (pv 0)))) (pw_or1 (pt_cmpR op_ne (pe_callB call_len_seq (by rfl) T.len PySem.boot_len (pa_cons (pv 0) pa_nil)) pe_int (nomark _)))))
        (pss_one (ps_ret pe_bl))
        pss_nil)
      (pss_cons (ps_asg (pv 0) (pg_tup rfl (pgs_cons (pg_name (i := 1) sc_is_entry.nd rfl (Or.inl rfl)) (pgs_cons (pg_name (i := 2) sc_is_entry.nd rfl (Or.inl rfl)) (pgs_cons (pg_name (i := 3) sc_is_entry.nd rfl (Or.inl rfl)) (pgs_cons (pg_name (i := 4) sc_is_entry.nd rfl (Or.inl rfl)) pgs_nil))))))
      (pss_cons (ps_if (PW.pt (pw_or (pt_not (pt_val (pe_cal cwhole (hr.mono (by decide)) (by rfl) (pa_cons (pv 1) (pa_cons pe_int (pa_cons pe_non pa_nil)))))) (pw_or1 (pt_not (pt_val (pe_cal cwhole (hr.mono (by decide)) (by rfl) (pa_cons (pv 2) (pa_cons pe_int (pa_cons pe_non pa_nil)))))))))
        (pss_one (ps_ret pe_bl))
        pss_nil)
      (pss_cons (ps_if (PW.pt (pw_or (pt_not (pt_val (pe_isi (n := "str") (by rfl) T.isinstance (by rfl) T.str (by decide +kernel) (pv 3)))) (pw_or1 (pt_cmpR op_notIn_seq (pv 3) (pe_gref (by rfl) T.MARKS) rfl))))
        (pss_one (ps_ret pe_bl))
        pss_nil)
      (pss_one (ps_ret (pe_or (pe_cmpR op_isN1 (pv 4) pe_non (nomark _)) (pe_one (pe_cal cwhole (hr.mono (by decide)) (by rfl) (pa_cons (pv 4) (pa_cons pe_int (pa_cons pe_non pa_nil)))))))))))), ?_⟩
    rcases hv with ⟨a, xs, rfl, ha, hi, rfl⟩ | ⟨rfl, hn⟩
    · by_cases hl : xs.length = 4
      · obtain ⟨x0, x1, x2, x3, rfl⟩ := len4 hl
        refine q_when (et_or (et_not (et_B (ev_isB (ev_var rfl) fun H1 e1 => isB_tup (e1 _ _ ha) k_tup_tuple))) fun _ => et_test (ev_neI (ev_lenU (ev_var rfl) (st_of ha)) ev_c)) (fun z => by simp at z) (fun _ H1 e1 => ?_)
        have ha1 := e1 _ _ ha
        refine ⟨.ref a, rfl, a, _, rfl, st_of ha1, rfl, x0, _, rfl, x1, _, rfl, x2, _, rfl, x3, _, rfl, rfl, ?_⟩
        have i0 : ItemOk H1 x0 := (hi x0 (by simp)).stay fun b xs z => e1 _ _ z
        have i1 : ItemOk H1 x1 := (hi x1 (by simp)).stay fun b xs z => e1 _ _ z
        have i2 : ItemOk H1 x2 := (hi x2 (by simp)).stay fun b xs z => e1 _ _ z
        have i3 : ItemOk H1 x3 := (hi x3 (by simp)).stay fun b xs z => e1 _ _ z
        have q' : ∀ b H', Ex H1 H' → b = (wholeV x0 && wholeV x1 && markV x2 && (decide (x3 = .non) || wholeV x3)) → Q (.bl b) H' := fun b H' e' hb => by
          rw [hb, ← formedL_isSome]
          exact q H' (e1.trans e')
        refine q_when (et_or (et_not (et_B (ev_cal (ea_cons (ev_var rfl) (ea_cons ev_c (ea_cons ev_c ea_nil))) (v_whole i0)))) fun _ => et_not (et_B (ev_cal (ea_cons (ev_var rfl) (ea_cons ev_c (ea_cons ev_c ea_nil))) (v_whole i1)))) (fun hb H2 e2 => ?_) (fun hb H2 e2 => ?_)
        · refine s_ret ev_c fun H3 e3 => q' false H3 (e2.trans e3) ?_
          revert hb
          cases wholeV x0 <;> cases wholeV x1 <;> simp
        · have hw : wholeV x0 = true ∧ wholeV x1 = true := by
            revert hb
            cases wholeV x0 <;> cases wholeV x1 <;> simp
          rcases item_mark (K := K) i2 with ⟨m, rfl⟩ | ⟨nb, em⟩
          · refine q_when (et_or (et_not (et_B (ev_isB (ev_var rfl) fun _ _ => isB_str k_str_str))) fun _ => et_test (ev_op (ev_var rfl) ev_c (rv_niT (T.tM _) rfl marks_flat))) (fun hb H3 e3 => ?_) (fun hb H3 e3 => ?_)
            · refine s_ret ev_c fun H4 e4 => q' false H4 ((e2.trans e3).trans e4) ?_
              have em : markV (.str m) = false := by
                show inV (.str m) marksV = false
                revert hb
                cases inV (.str m) marksV <;> simp
              rw [em]; simp
            · have em : markV (.str m) = true := by
                show inV (.str m) marksV = true
                revert hb
                cases inV (.str m) marksV <;> simp
              have i3' : ItemOk H3 x3 := i3.stay fun b xs z => (e2.trans e3) _ _ z
              refine s_ret (ev_orV (ev_op (ev_var rfl) ev_c rv_isN) fun _ => ev_cal (ea_cons (ev_var rfl) (ea_cons ev_c (ea_cons ev_c ea_nil))) (v_whole i3')) fun H4 e4 => q' _ H4 ((e2.trans e3).trans e4) ?_
              rw [hw.1, hw.2, em]; simp
          · refine q_when (et_or (b := false) (et_not (et_B (ev_isB (ev_var rfl) fun H3 e3 => nb H3 (e2.trans e3)))) fun z => absurd z (by decide)) (fun hb H3 e3 => ?_) (fun z => absurd z (by decide))
            refine s_ret ev_c fun H4 e4 => q' false H4 ((e2.trans e3).trans e4) ?_
            rw [em]; simp
      · refine q_when (et_or (et_not (et_B (ev_isB (ev_var rfl) fun H1 e1 => isB_tup (e1 _ _ ha) k_tup_tuple))) fun _ => et_test (ev_neI (ev_lenU (ev_var rfl) (st_of ha)) ev_c)) (fun hb H1 e1 => ?_) (fun hb => ?_)
        · refine s_ret ev_c fun H2 e2 => ?_
          have q1 := q H2 (e1.trans e2)
          rw [formedL_len hl] at q1
          exact q1
        · exfalso
          have e : decide ((xs.length : Int) = 4) = false := decide_eq_false (by omega)
          rw [e] at hb
          exact absurd hb (by decide)
    · refine q_when (et_or (b := false) (et_not (et_B (ev_isB (ev_var rfl) (nontup_isB hn)))) fun z => absurd z (by decide)) (fun hb H1 e1 => ?_) (fun z => absurd z (by decide))
      exact s_ret ev_c fun H2 e2 => q H2 (e1.trans e2)
end
end Lr
set_option Elab.async false
set_option linter.all false
set_option maxRecDepth 100000
set_option maxHeartbeats 4000000
namespace Lr
open PySem L2 Evl
section
variable {P : Program} {w : World} {K : PySem.W.Frag} {mg : Str → Option Value} {base : Heap} {aM aS aO aB : Addr} {f : Addr} {fd : FuncData}
/-- the value of the last entry, as a walk holds it -/
def BefAt (H : Hp) (v : V) (o : Option En) : Prop := (o = none ∧ v = .non) ∨ ∃ c l, o = some l ∧ v = .ref c ∧ H c = some (.tup (En.items l)) ∧ isMark l.mark = true
theorem BefAt.ex {H H' : Hp} {v : V} {o : Option En} (h : BefAt H v o) (e : Ex H H') : BefAt H' v o := by
  rcases h with h | ⟨c, l, h1, h2, h3, h4⟩
  · exact .inl h
  · exact .inr ⟨c, l, h1, h2, e _ _ h3, h4⟩
theorem ev_ifB {σ : L2.St} {H : Hp} {t : TT} {ta tb : TE} {b : Bool} {x y : V} (h : EvT t σ H b) (h1 : b = true → Ev ta σ H x) (h2 : b = false → Ev tb σ H y) : Ev (tIf t ta tb) σ H (if b = true then x else y) := by
  refine ev_if h (fun e => ?_) (fun e => ?_)
  · rw [if_pos e]; exact h1 e
  · rw [if_neg (by rw [e]; decide)]; exact h2 e
theorem doubtE_L {e : En} {last : Option En} {lk : Bool} (h : e.mark = mL) : doubtE e last lk = true := by unfold doubtE; rw [if_pos h]
theorem doubtE_A {e : En} {last : Option En} {lk : Bool} (h : ¬ e.mark = mL) (h2 : e.mark = mA) : doubtE e last lk = decide (0 < e.life) := by unfold doubtE; rw [if_neg h, if_pos h2]
theorem doubtE_lk {e : En} {last : Option En} (h : ¬ e.mark = mL) (h2 : ¬ e.mark = mA) : doubtE e last true = false := by unfold doubtE; rw [if_neg h, if_neg h2, if_pos rfl]
theorem doubtE_none {e : En} (h : ¬ e.mark = mL) (h2 : ¬ e.mark = mA) : doubtE e none false = true := by unfold doubtE; rw [if_neg h, if_neg h2, if_neg (by decide)]
theorem doubtE_some {e l : En} (h : ¬ e.mark = mL) (h2 : ¬ e.mark = mA) : doubtE e (some l) false = (!decide (l.life = e.life) || !decide (l.mark = if e.mark = mS then mA else mS)) := by unfold doubtE; rw [if_neg h, if_neg h2, if_neg (by decide)]
/-! ### is_wrong_doubt -/
def spDoubt : Sp := fun vs H Q _ => ∃ a e b last lk, vs = [.ref a, b, .bl lk] ∧ H a = some (.tup (En.items e)) ∧ isMark e.mark = true ∧ BefAt H b last ∧ ∀ H', Ex H H' → Q (.bl (doubtE e last lk)) H'
theorem sc_is_wrong_doubt : FnScope ["entry", "before", "lacking", "life", "mark"] ["entry", "before", "lacking"] (defScope (top 12)) := ⟨rfl, rfl, rfl, by decide +kernel, rfl, by decide +kernel, by decide +kernel⟩
theorem ok_is_wrong_doubt (F : FnP K "is_wrong_doubt" (top 12) f fd) (T : Tx K w mg aM aS aO aB) : FnOk P w K mg base CX0 1 f fd ["entry", "before", "lacking"] spDoubt := by
  refine F.ok sc_is_wrong_doubt (fun vs H Q E h => ?_) (fun cdv A outer s H vs Q E hr h => ?_)
  · obtain ⟨a, e, b, last, lk, rfl, _⟩ := h
    rfl
  · obtain ⟨a, e, b, last, lk, rfl, ha, hm, hb, q⟩ := h
    refine ⟨_, PSs.nox (pss_cons (ps_set (i := 3) sc_is_wrong_doubt.nd rfl (Or.inl rfl) (pe_ix ix_tup (pv 0) pe_int (fun _ _ => rfl)))
      (pss_cons (ps_set (i := 4) sc_is_wrong_doubt.nd rfl (Or.inl rfl) (pe_ix ix_tup (pv 0) pe_int (fun _ _ => rfl)))
      (pss_cons (ps_if (pt_cmpR op_eq (pv 4) pe_str (nomark _))
        (pss_one (ps_ret pe_bl))
        pss_nil)
      (pss_cons (ps_if (pt_cmpR op_eq (pv 4) pe_str (nomark _))
        (pss_one (ps_ret (pe_cmpR op_gt (pv 3) pe_int (nomark _))))
        pss_nil)
      (pss_cons (ps_if (pt_val (pv 2))
        (pss_one (ps_ret pe_bl))
        pss_nil)
      (pss_one (ps_ret (pe_or (pe_cmpR op_isN1 (pv 1) pe_non (nomark _)) (pe_or (pe_cmpR op_ne (pe_ix ix_tup (pv 1) pe_int (fun _ _ => rfl)) (pv 3) (nomark _)) (pe_one (pe_cmpR op_ne (pe_ix ix_tup (pv 1) pe_int (fun _ _ => rfl)) (pe_ix ix_kdict (pe_gref (by rfl) T.MARK_BEFORE) (pv 4) (fun _ _ => rfl)) (nomark _)))))))))))), ?_⟩
    refine q_asg (ev_it 1 (ev_var rfl) (st_of ha) rfl) fun H1 e1 => ?_
    refine q_asg (ev_it 2 (ev_var rfl) (st_of (e1 _ _ ha)) rfl) fun H2 e2 => ?_
    have e12 := e1.trans e2
    by_cases hL : e.mark = mL
    · refine q_when (et_is (et_test (ev_eqS (ev_var rfl) ev_c)) (decide_eq_true hL)) (fun _ H3 e3 => ?_) (fun z => absurd z (by decide))
      refine s_ret ev_c fun H4 e4 => ?_
      have q1 := q H4 ((e12.trans e3).trans e4)
      rw [doubtE_L hL] at q1
      exact q1
    · refine q_when (et_is (et_test (ev_eqS (ev_var rfl) ev_c)) (decide_eq_false hL)) (fun z => absurd z (by decide)) (fun _ H3 e3 => ?_)
      by_cases hA : e.mark = mA
      · refine q_when (et_is (et_test (ev_eqS (ev_var rfl) ev_c)) (decide_eq_true hA)) (fun _ H4 e4 => ?_) (fun z => absurd z (by decide))
        refine s_ret (ev_op (ev_var rfl) ev_c rv_I0) fun H5 e5 => ?_
        have q1 := q H5 (((e12.trans e3).trans e4).trans e5)
        rw [doubtE_A hL hA] at q1
        exact q1
      · refine q_when (et_is (et_test (ev_eqS (ev_var rfl) ev_c)) (decide_eq_false hA)) (fun z => absurd z (by decide)) (fun _ H4 e4 => ?_)
        have e14 := (e12.trans e3).trans e4
        cases lk with
        | true =>
          refine q_when (et_B (ev_var rfl)) (fun _ H5 e5 => ?_) (fun z => absurd z (by decide))
          refine s_ret ev_c fun H6 e6 => ?_
          have q1 := q H6 ((e14.trans e5).trans e6)
          rw [doubtE_lk hL hA] at q1
          exact q1
        | false =>
          refine q_when (et_B (ev_var rfl)) (fun z => absurd z (by decide)) (fun _ H5 e5 => ?_)
          have e15 := e14.trans e5
          rcases hb with ⟨rfl, rfl⟩ | ⟨c, l, rfl, rfl, hc, hml⟩
          · refine s_ret (ev_orV (b := false) (ev_is (ev_op (ev_var rfl) ev_c rv_isN) (congrArg V.bl (decide_eq_true rfl))) fun z => absurd z (by decide)) fun H6 e6 => ?_
            have q1 := q H6 (e15.trans e6)
            rw [doubtE_none hL hA] at q1
            exact q1
          · have hc5 := e15 _ _ hc
            have kd : KDct K w aB e.mark (.str (if e.mark = mS then mA else mS)) := by
              rcases isMark_cases hm with h | h | h | h
              · exact absurd h hA
              · rw [if_pos h, h]; exact T.b1
              · rw [h, if_neg mD_ne_mS]; exact T.b2
              · exact absurd h hL
            refine s_ret (ev_orV (ev_is (ev_op (ev_var rfl) ev_c rv_isN) (congrArg V.bl (decide_eq_false (fun z => nomatch z)))) fun _ => ev_orV (ev_neI (ev_it 1 (ev_var rfl) (st_of hc5) rfl) (ev_var rfl)) fun _ => ev_neS (ev_it 2 (ev_var rfl) (st_of hc5) rfl) (ev_op ev_c (ev_var rfl) (rv_kd kd))) fun H6 e6 => ?_
            have q1 := q H6 (e15.trans e6)
            rw [doubtE_some hL hA] at q1
            exact q1
theorem v_doubt {H : Hp} {a : Addr} {e : En} {b : V} {last : Option En} {lk : Bool} (h : H a = some (.tup e.items)) (hm : isMark e.mark = true) (hb : BefAt H b last) : SpV spDoubt [.ref a, b, .bl lk] H (.bl (doubtE e last lk)) :=
  fun H1 e1 Q k E => ⟨a, e, b, last, lk, rfl, e1 _ _ h, hm, hb.ex e1, k⟩
/-! ### run_reason -/
def reasonP (o : Int) (sc lk : Bool) (last : Option En) (e : En) : Option Str :=
  if e.src = none ∧ sc = true then some "kept"
  else if riseE e last = true then some "rise"
  else if e.src = some o then
    (if e.seat = o then (if e.mark = mA ∨ e.mark = mL then none else some "own") else if doubtE e last lk = true then some "doubt" else none)
  else none
theorem reason1_eq (lack : List Int) (o : Int) (pre : List Eo) (e : En) : reason1 lack o pre e = reasonP o (sourcedE pre) (decide (o ∈ lack)) (lastE e.seat pre) e := rfl
def reasV : Option Str → V
  | none => .non
  | some r => .str r
theorem srcV_non (o : Option Int) : decide (srcV o = .non) = decide (o = none) := by
  cases o with
  | none => rfl
  | some c => rw [decide_eq_false (fun z => nomatch z : ¬ srcV (some c) = .non), decide_eq_false (fun z => nomatch z)]
theorem srcV_int (o : Option Int) (c : Int) : decide (srcV o = .int c) = decide (o = some c) := by
  cases o with
  | none => rw [decide_eq_false (fun z => nomatch z : ¬ srcV none = .int c), decide_eq_false (fun z => nomatch z)]
  | some d =>
    show decide (V.int d = V.int c) = decide (some d = some c)
    by_cases h : d = c
    · subst h; simp
    · rw [decide_eq_false (fun z => h (V.int.inj z)), decide_eq_false (fun z => h (Option.some.inj z))]
theorem srcV_scal (o : Option Int) (c : Int) : scal (srcV o) (.int c) = true := by cases o <;> rfl
theorem inOwn (m : Str) : inV (.str m) [.str "alive", .str "left"] = decide (m = mA ∨ m = mL) := by
  unfold inV
  simp only [List.any_cons, List.any_nil, Bool.or_false]
  have f : ∀ a : Str, eqV (.str a) (.str m) = decide (m = a) := fun a => by
    show (a == m) = decide (m = a)
    by_cases h : m = a
    · subst h; simp
    · rw [decide_eq_false h]; exact beq_eq_false_iff_ne.mpr fun z => h z.symm
  rw [f, f, Bool.decide_or]
def spReason : Sp := fun vs H Q _ => ∃ o a e b last sc lk, vs = [.int o, .ref a, b, .bl sc, .bl lk] ∧ H a = some (.tup (En.items e)) ∧ isMark e.mark = true ∧ BefAt H b last ∧ ∀ H', Ex H H' → Q (reasV (reasonP o sc lk last e)) H'
theorem sc_run_reason : FnScope ["owner", "entry", "before", "sourced", "lacking", "seat", "source"] ["owner", "entry", "before", "sourced", "lacking"] (defScope (top 13)) := ⟨rfl, rfl, rfl, by decide +kernel, rfl, by decide +kernel, by decide +kernel⟩
theorem ok_run_reason {fe fdb : Addr} {fde fdd : FuncData} (F : FnP K "run_reason" (top 13) f fd) (T : Tx K w mg aM aS aO aB) (centry_rank : Cal P w K mg base "entry_rank" 2 ["entry"] spERank fe fde)
    (cis_wrong_doubt : Cal P w K mg base "is_wrong_doubt" 1 ["entry", "before", "lacking"] spDoubt fdb fdd) : FnOk P w K mg base CX0 3 f fd ["owner", "entry", "before", "sourced", "lacking"] spReason := by
  refine F.ok sc_run_reason (fun vs H Q E h => ?_) (fun cdv A outer s H vs Q E hr h => ?_)
  · obtain ⟨o, a, e, b, last, sc, lk, rfl, _⟩ := h
    rfl
  · obtain ⟨o, a, e, b, last, sc, lk, rfl, ha, hm, hb, q⟩ := h
    refine ⟨_, PSs.nox (pss_cons (ps_set (i := 5) sc_run_reason.nd rfl (Or.inl rfl) (pe_ix ix_tup (pv 1) pe_int (fun _ _ => rfl)))
      (pss_cons (ps_set (i := 6) sc_run_reason.nd rfl (Or.inl rfl) (pe_ix ix_tup (pv 1) pe_int (fun _ _ => rfl)))
      (pss_cons (ps_if (PW.pt (pw_and (pt_cmpR op_isN1 (pv 6) pe_non (nomark _)) (pw_and1 (pt_val (pv 3)))))
        (pss_one (ps_ret pe_str))
        pss_nil)
      (pss_cons (ps_if (PW.pt (pw_and (pt_cmpR op_notN1 (pv 2) pe_non (nomark _)) (pw_and1 (pt_cmpR op_le (pe_cal centry_rank (hr.mono (by decide)) (by rfl) (pa_cons (pv 1) pa_nil)) (pe_cal centry_rank (hr.mono (by decide)) (by rfl) (pa_cons (pv 2) pa_nil)) (nomark _)))))
        (pss_one (ps_ret pe_str))
        pss_nil)
      (pss_cons (ps_if (pt_cmpR op_ne (pv 6) (pv 0) (nomark _))
        (pss_one (ps_ret pe_non))
        pss_nil)
      (pss_cons (ps_if (pt_cmpR op_eq (pv 5) (pv 0) (nomark _))
        (pss_one (ps_ret (pe_ifExp (pt_cmpR op_in_seq (pe_ix ix_tup (pv 1) pe_int (fun _ _ => rfl)) (pe_gref (by rfl) T.OWN_MARKS) rfl) pe_non pe_str)))
        pss_nil)
      (pss_one (ps_ret (pe_ifExp (pt_val (pe_cal cis_wrong_doubt (hr.mono (by decide)) (by rfl) (pa_cons (pv 1) (pa_cons (pv 2) (pa_cons (pv 4) pa_nil))))) pe_str pe_non))))))))), ?_⟩
    refine q_asg (ev_it 0 (ev_var rfl) (st_of ha) rfl) fun H1 e1 => ?_
    refine q_asg (ev_it 3 (ev_var rfl) (st_of (e1 _ _ ha)) rfl) fun H2 e2 => ?_
    have e12 := e1.trans e2
    refine q_when (b := decide (e.src = none ∧ sc = true)) (et_is (et_and (et_test (ev_op (ev_var rfl) ev_c rv_isN)) fun _ => et_B (ev_var rfl)) (by rw [srcV_non, Bool.decide_and, Bool.decide_eq_true])) (fun h1 H3 e3 => ?_) (fun h1 H3 e3 => ?_)
    · refine s_ret ev_c fun H4 e4 => ?_
      have q1 := q H4 ((e12.trans e3).trans e4)
      rw [reasonP, if_pos (of_decide_eq_true h1)] at q1
      exact q1
    have n1 := of_decide_eq_false h1
    have e13 := e12.trans e3
    refine q_when (b := riseE e last) ?_ (fun h2 H4 e4 => ?_) (fun h2 H4 e4 => ?_)
    · rcases hb with ⟨rfl, rfl⟩ | ⟨c, l, rfl, rfl, hc, hml⟩
      · exact et_and (a := false) (b := false) (et_is (et_test (ev_op (ev_var rfl) ev_c rv_notN)) rfl) fun z => absurd z (by decide)
      · refine et_is (et_and (et_test (ev_op (ev_var rfl) ev_c rv_notN)) fun _ => et_test (ev_op (ev_cal (ea_cons (ev_var rfl) ea_nil) (v_erank (e13 _ _ ha) hm)) (ev_cal (ea_cons (ev_var rfl) ea_nil) (v_erank (e13 _ _ hc) hml)) rv_I0)) ?_
        rw [decide_eq_false (fun z => nomatch z : ¬ V.ref c = .non)]
        rfl
    · refine s_ret ev_c fun H5 e5 => ?_
      have q1 := q H5 ((e13.trans e4).trans e5)
      rw [reasonP, if_neg n1, if_pos h2] at q1
      exact q1
    have n2 : ¬ riseE e last = true := by rw [h2]; decide
    have e14 := e13.trans e4
    by_cases h3 : e.src = some o
    · refine q_when (et_is (et_test (ev_op (ev_var rfl) (ev_var rfl) (rv_ne (srcV_scal _ _)))) (by rw [srcV_int, decide_eq_true h3])) (fun z => absurd z (by decide)) (fun _ H5 e5 => ?_)
      have e15 := e14.trans e5
      by_cases h4 : e.seat = o
      · refine q_when (et_is (et_test (ev_eqI (ev_var rfl) (ev_var rfl))) (decide_eq_true h4)) (fun _ H6 e6 => ?_) (fun z => absurd z (by decide))
        have e16 := e15.trans e6
        refine s_ret (ev_ifB (et_test (ev_op (ev_it 2 (ev_var rfl) (st_of (e16 _ _ ha)) rfl) ev_c (rv_isT (T.tO _) rfl rfl))) (fun _ => ev_c) (fun _ => ev_c)) fun H7 e7 => ?_
        have q1 := q H7 (e16.trans e7)
        rw [reasonP, if_neg n1, if_neg n2, if_pos h3, if_pos h4] at q1
        rw [inOwn]
        by_cases h5 : e.mark = mA ∨ e.mark = mL
        · rw [if_pos h5] at q1
          rw [if_pos (decide_eq_true h5)]
          exact q1
        · rw [if_neg h5] at q1
          rw [if_neg (by rw [decide_eq_false h5]; decide)]
          exact q1
      · refine q_when (et_is (et_test (ev_eqI (ev_var rfl) (ev_var rfl))) (decide_eq_false h4)) (fun z => absurd z (by decide)) (fun _ H6 e6 => ?_)
        have e16 := e15.trans e6
        refine s_ret (ev_ifB (et_B (ev_cal (ea_cons (ev_var rfl) (ea_cons (ev_var rfl) (ea_cons (ev_var rfl) ea_nil))) (v_doubt (e16 _ _ ha) hm (hb.ex e16)))) (fun _ => ev_c) (fun _ => ev_c)) fun H7 e7 => ?_
        have q1 := q H7 (e16.trans e7)
        rw [reasonP, if_neg n1, if_neg n2, if_pos h3, if_neg h4] at q1
        by_cases h5 : doubtE e last lk = true
        · rw [if_pos h5] at q1
          rw [if_pos h5]
          exact q1
        · rw [if_neg h5] at q1
          rw [if_neg h5]
          exact q1
    · refine q_when (et_is (et_test (ev_op (ev_var rfl) (ev_var rfl) (rv_ne (srcV_scal _ _)))) (by rw [srcV_int, decide_eq_false h3])) (fun _ H5 e5 => ?_) (fun z => absurd z (by decide))
      refine s_ret ev_c fun H6 e6 => ?_
      have q1 := q H6 ((e14.trans e5).trans e6)
      rw [reasonP, if_neg n1, if_neg n2, if_neg h3] at q1
      exact q1
theorem v_reason {H : Hp} {o : Int} {a : Addr} {e : En} {b : V} {last : Option En} {sc lk : Bool} (h : H a = some (.tup e.items)) (hm : isMark e.mark = true) (hb : BefAt H b last) :
    SpV spReason [.int o, .ref a, b, .bl sc, .bl lk] H (reasV (reasonP o sc lk last e)) := fun H1 e1 Q k E => ⟨o, a, e, b, last, sc, lk, rfl, e1 _ _ h, hm, hb.ex e1, k⟩
theorem s_retNotIn {te td : TE} {σ : L2.St} {H : Hp} {xs : List V} {D : Ends} (h : EvU te σ H xs) (k : ∀ p H1, H p = none → Ex H H1 → H1 p = some (.tup xs) → td σ H1 fun x H2 => ∃ a o, x = .ref a ∧ DGet H2 a (.ref p) o ∧ D.rt (.bl (!o.isSome)) H2) : tRet (tDNotIn te td) D σ H :=
  h H (Ex.refl _) _ fun p H1 hp e ht => k p H1 hp e ht
/-! ### is_unsaid -/
def keyE (o : Int) (e : En) : List L2.Key := [Sum.inl o, Sum.inl e.seat, Sum.inl e.life, Sum.inr e.mark]
def FactsAt (H : Hp) (a : Addr) (look : Int → List (List Eo)) : Prop := ∃ kvs : List (List L2.Key × V), H a = some (.dT kvs) ∧ ∀ o e, (valV kvs (keyE o e)).isSome = saidE (look o) e
/-- partial: a list or a tuple of these ints -/
def PartAt (K : PySem.W.Frag) (H : Hp) (v : V) (lack : List Int) : Prop := ∃ a, v = .ref a ∧ (SqL K H a (lack.map V.int) ∨ SqT K H a (lack.map V.int))
theorem PartAt.ex {H H' : Hp} {v : V} {lack : List Int} (h : PartAt K H v lack) (e : Ex H H') : PartAt K H' v lack := by
  obtain ⟨a, h1, h2⟩ := h
  exact ⟨a, h1, h2.imp (ex_l e) (ex_t e)⟩
theorem FactsAt.ex {H H' : Hp} {a : Addr} {look : Int → List (List Eo)} (h : FactsAt H a look) (e : Ex H H') : FactsAt H' a look := by
  obtain ⟨kvs, h1, h2⟩ := h
  exact ⟨kvs, e _ _ h1, h2⟩
theorem ints_flat (ns : List Int) : (ns.map V.int).all flatV = true := by
  induction ns with
  | nil => rfl
  | cons n r ih => rw [List.map_cons, List.all_cons, ih]; rfl
theorem in_ints (c : Int) (ns : List Int) : inV (.int c) (ns.map V.int) = decide (c ∈ ns) := by
  induction ns with
  | nil => rfl
  | cons n r ih =>
    show (n == c || inV (.int c) (r.map V.int)) = _
    rw [ih]
    by_cases h : c = n
    · subst h; simp
    · rw [beq_eq_false_iff_ne.mpr (fun z => h z.symm)]
      simp [h]
theorem rv_part {H : Hp} {v : V} {lack : List Int} {c : Int} (h : PartAt K H v lack) : RV (rIn K false) (.int c) v H (.bl (decide (c ∈ lack))) := by
  obtain ⟨a, rfl, h⟩ := h
  rw [← in_ints]
  rcases h with h | h
  · exact rv_isL h rfl (ints_flat _)
  · exact rv_isT h rfl (ints_flat _)
def spUnsaid (K : PySem.W.Frag) : Sp := fun vs H Q _ => ∃ o a e p lack fa look, vs = [.int o, .ref a, p, .ref fa] ∧ H a = some (.tup (En.items e)) ∧ PartAt K H p lack ∧ FactsAt H fa look ∧ ∀ H', Ex H H' → Q (.bl (unsaidE look lack o e)) H'
theorem sc_is_unsaid : FnScope ["owner", "entry", "partial", "facts", "seat", "life", "mark", "source"] ["owner", "entry", "partial", "facts"] (defScope (top 14)) := ⟨rfl, rfl, rfl, by decide +kernel, rfl, by decide +kernel, by decide +kernel⟩
theorem ok_is_unsaid (F : FnP K "is_unsaid" (top 14) f fd) (T : Tx K w mg aM aS aO aB) : FnOk P w K mg base CX0 1 f fd ["owner", "entry", "partial", "facts"] (spUnsaid K) := by
  refine F.ok sc_is_unsaid (fun vs H Q E h => ?_) (fun cdv A outer s H vs Q E hr h => ?_)
  · obtain ⟨o, a, e, p, lack, fa, look, rfl, _⟩ := h
    rfl
  · obtain ⟨o, a, e, p, lack, fa, look, rfl, ha, hp, hf, q⟩ := h
    have hu := hu_of hr
    refine ⟨_, PSs.nox (pss_cons (ps_asg (pv 1) (pg_tup rfl (pgs_cons (pg_name (i := 4) sc_is_unsaid.nd rfl (Or.inl rfl)) (pgs_cons (pg_name (i := 5) sc_is_unsaid.nd rfl (Or.inl rfl)) (pgs_cons (pg_name (i := 6) sc_is_unsaid.nd rfl (Or.inl rfl)) (pgs_cons (pg_name (i := 7) sc_is_unsaid.nd rfl (Or.inl rfl)) pgs_nil))))))
      (pss_cons (ps_if (PW.pt (pw_or (pt_cmpR op_isN1 (pv 7) pe_non (nomark _)) (pw_or (pt_cmpR op_eq (pv 7) (pv 0) (nomark _)) (pw_or1 (pt_cmpR op_in_seq (pv 7) (pv 2) rfl)))))
        (pss_one (ps_ret pe_bl))
        pss_nil)
      (pss_one (ps_ret (pe_cmp (pc_dnotin hu (pe_tup (pa_cons (pv 7) (pa_cons (pv 4) (pa_cons (pv 5) (pa_cons (pv 6) pa_nil))))) (pv 3))))))), ?_⟩
    refine ⟨.ref a, rfl, a, _, rfl, st_of ha, rfl, _, _, rfl, _, _, rfl, _, _, rfl, _, _, rfl, rfl, ?_⟩
    cases hs : e.src with
    | none =>
      refine q_when (et_or (b := false) (et_is (et_test (ev_op (ev_var rfl) ev_c rv_isN)) (by rw [srcV_non])) fun z => absurd z (by decide)) (fun _ H1 e1 => ?_) (fun z => absurd z (by decide))
      refine s_ret ev_c fun H2 e2 => ?_
      have q1 := q H2 (e1.trans e2)
      rw [unsaidE, hs] at q1
      exact q1
    | some c =>
      have hv : srcV (some c) = .int c := rfl
      by_cases hc : c = o ∨ c ∈ lack
      · refine q_when (et_is (et_or (et_is (et_test (ev_op (ev_var rfl) ev_c rv_isN)) (by rw [srcV_non])) fun _ => et_or (et_test (ev_eqI (ev_is (ev_var rfl) hv) (ev_var rfl))) fun _ => et_test (ev_op (ev_is (ev_var rfl) hv) (ev_var rfl) (rv_part hp))) (b := true) (by
          rw [← Bool.decide_or, decide_eq_true hc]; rfl)) (fun _ H1 e1 => ?_) (fun z => absurd z (by decide))
        refine s_ret ev_c fun H2 e2 => ?_
        have q1 := q H2 (e1.trans e2)
        rw [unsaidE, hs] at q1
        simp only [if_pos hc] at q1
        exact q1
      · refine q_when (et_is (et_or (et_is (et_test (ev_op (ev_var rfl) ev_c rv_isN)) (by rw [srcV_non])) fun _ => et_or (et_test (ev_eqI (ev_is (ev_var rfl) hv) (ev_var rfl))) fun _ => et_test (ev_op (ev_is (ev_var rfl) hv) (ev_var rfl) (rv_part hp))) (b := false) (by
          rw [← Bool.decide_or, decide_eq_false hc]; rfl)) (fun z => absurd z (by decide)) (fun _ H1 e1 => ?_)
        refine s_retNotIn (eu_tup (ea_cons (ev_is (ev_var rfl) hv) (ea_cons (ev_var rfl) (ea_cons (ev_var rfl) (ea_cons (ev_var rfl) ea_nil)))) (by show 4 ≤ 100000; decide)) fun k H2 hk e2 ht => ?_
        obtain ⟨kvs, h1, h2⟩ := (hf.ex e1).ex e2
        refine ⟨.ref fa, rfl, fa, _, rfl, DGet.t h1 (show H2 k = some (.tup ((keyE c e).map kV)) from ht), ?_⟩
        have q1 := q H2 (e1.trans e2)
        rw [unsaidE, hs] at q1
        simp only [if_neg hc] at q1
        show Q (.bl (!(valV kvs (keyE c e)).isSome)) H2
        rw [h2]
        exact q1
theorem v_unsaid {H : Hp} {o : Int} {a : Addr} {e : En} {p : V} {lack : List Int} {fa : Addr} {look : Int → List (List Eo)} (h : H a = some (.tup e.items)) (hp : PartAt K H p lack) (hf : FactsAt H fa look) :
    SpV (spUnsaid K) [.int o, .ref a, p, .ref fa] H (.bl (unsaidE look lack o e)) := fun H1 e1 Q k E => ⟨o, a, e, p, lack, fa, look, rfl, e1 _ _ h, hp.ex e1, hf.ex e1, k⟩
end
end Lr
set_option Elab.async false
set_option linter.all false
set_option maxRecDepth 100000
set_option maxHeartbeats 4000000
namespace Lr
open PySem L2 Evl
/-! ### loops by the number of turns -/
theorem for_n {J : It} {g : TG} {tb : TS} {D : Ends} {σ : L2.St} {H : Hp} (n : Nat) (Pv : Nat → L2.St → Hp → Prop) (h0 : Pv 0 σ H) (hgo : ∀ i σ H, i < n → Pv i σ H → J.go i H) (hst : ∀ σ H, Pv n σ H → J.stop n H)
    (hs : ∀ i x σ H H', i < n → Pv i σ H → J.yld i H x H' → g x σ H' fun σ2 H2 => tb { D with nx := Pv (i + 1), ct := Pv (i + 1), bk := D.nx } σ2 H2) (hd : ∀ σ H, Pv n σ H → D.nx σ H) :
    ∃ W : Nat → Nat → L2.St → Hp → Prop, (∃ m, W 0 m σ H) ∧ ∀ i m σ H, W i m σ H →
      (J.stop i H ∧ D.nx σ H) ∨ (J.go i H ∧ ∃ N : L2.St → Hp → Prop, (∀ σ' H', N σ' H' → ∃ m', m' < m ∧ W (i + 1) m' σ' H') ∧ ∀ x H', J.yld i H x H' → g x σ H' fun σ2 H2 => tb { D with nx := N, ct := N, bk := D.nx } σ2 H2) := by
  refine ⟨fun i m σ H => i + m = n ∧ Pv i σ H, ⟨n, by omega, h0⟩, fun i m σ H ⟨e, p⟩ => ?_⟩
  by_cases hi : i < n
  · exact .inr ⟨hgo i σ H hi p, fun σ' H' => Pv (i + 1) σ' H', fun σ' H' q => ⟨m - 1, by omega, by omega, q⟩, fun x H' y => hs i x σ H H' hi p y⟩
  · have e' : i = n := by omega
    subst e'
    exact .inl ⟨hst σ H p, hd σ H p⟩
/-- for k in d: the dict at d is locked meanwhile -/
theorem s_forKeys {te : TE} {tb : TS} {D : Ends} {σ : L2.St} {H : Hp} {d : Addr} {kvs : List (L2.Key × V)} {j : Nat} (he : ∀ H1, te σ H1 = fun Q => Q (.ref d) H1) (hd0 : H d = some (.dK kvs)) (Pv : Obj → Nat → L2.St → Hp → Prop)
    (h0 : ∀ od, Pv od 0 σ (upd H d (.frz od (.dK kvs)))) (hl : ∀ od i σ H, Pv od i σ H → H d = some (.frz od (.dK kvs)))
    (hs : ∀ od i (p : L2.Key × V) σ' H', kvs[i]? = some p → Pv od i σ' H' →
      tb { nx := Pv od (i + 1), rt := fun v H' => H' d = some (.frz od (.dK kvs)) ∧ D.rt v (upd H' d (.dK kvs)), ct := Pv od (i + 1), bk := fun σ' H' => H' d = some (.frz od (.dK kvs)) ∧ D.nx σ' (upd H' d (.dK kvs)) } (σ'.set j (some (kV p.1))) H')
    (hd : ∀ od σ' H', Pv od kvs.length σ' H' → D.nx σ' (upd H' d (.dK kvs))) : tLock (tFor (iKeys te) (gName j) tb) D σ H := by
  refine ⟨d, .dK kvs, hd0, trivial, fun od => ?_⟩
  show te σ (upd H d (.frz od (.dK kvs))) _
  rw [he]
  refine ⟨d, od, rfl, .inl ⟨kvs, upd_same, ?_⟩⟩
  refine for_n kvs.length (Pv od) (h0 od) (fun i σ H hi p => ⟨hl od i σ H p, hi⟩) (fun σ H p => ⟨hl od _ σ H p, Nat.le_refl _⟩) (fun i x σ' H1 H2 hi p y => ?_) (fun σ' H' p => ⟨hl od _ σ' H' p, hd od σ' H' p⟩)
  obtain ⟨rfl, k, v, hk, rfl⟩ := y
  exact hs od i (k, v) σ' H2 hk p
/-- for i, x in enumerate(xs) -/
theorem s_forEnum {K : PySem.W.Frag} {ta : TA} {tb : TS} {D : Ends} {σ : L2.St} {H : Hp} {a : Addr} {xs : List V} {i1 i2 : Nat} (h : EvA ta σ H [.ref a]) (hx : SqL K H a xs) (Pv : Nat → L2.St → Hp → Prop) (h0 : ∀ H1, Ex H H1 → Pv 0 σ H1)
    (hl : ∀ i σ' H', i ≤ xs.length → Pv i σ' H' → SqL K H' a xs)
    (hs : ∀ i x σ' H' H2, xs[i]? = some x → Pv i σ' H' → Ex H' H2 → tb { D with nx := Pv (i + 1), ct := Pv (i + 1), bk := D.nx } ((σ'.set i1 (some (.int (i : Nat)))).set i2 (some x)) H2) (hd : ∀ σ' H', Pv xs.length σ' H' → D.nx σ' H') :
    tFor (iEnum K ta) (gTup K 2 (gCons (gName i1) (gCons (gName i2) gNil))) tb D σ H := by
  refine h H (Ex.refl _) _ fun H1 e1 => ?_
  refine ⟨a, xs, rfl, ex_l e1 hx, ?_⟩
  refine for_n xs.length Pv (h0 H1 e1) (fun i σ H hi p => ⟨xs, xs[i], hl i σ H (Nat.le_of_lt hi) p, List.getElem?_eq_getElem hi⟩) (fun σ H p => ⟨xs, hl _ σ H (Nat.le_refl _) p, Nat.le_refl _⟩) (fun i x σ' H2 H3 hi p y => ?_) hd
  obtain ⟨T, x', rfl, hT, rfl, hy⟩ := y
  have hx' : xs[i]? = some x' := hy xs (hl i σ' H2 (Nat.le_of_lt hi) p)
  refine ⟨T, [.int (i : Nat), x'], rfl, st_of upd_same, rfl, _, _, rfl, _, _, rfl, rfl, ?_⟩
  exact hs i x' σ' H2 _ hx' p (Ex.new hT)
/-- d[k] = v, k a new tuple -/
theorem s_dputU {td ty tv : TE} {D : Ends} {σ : L2.St} {H : Hp} {a : Addr} {v : V} {ys : List V} (hv : Ev tv σ H v) (hd : Ev td σ H (.ref a)) (hy : EvU ty σ H ys)
    (k : ∀ p H1, H p = none → Ex H H1 → H1 p = some (.tup ys) → ∃ H4, DPut H1 a (.ref p) v H4 ∧ D.nx σ H4) : sDPut td ty tv D σ H := by
  refine hv H (Ex.refl _) _ fun H1 e1 => hd H1 e1 _ fun H2 e2 => ?_
  refine hy H2 (e1.trans e2) _ fun p H3 hp e3 ht => ?_
  have e13 := (e1.trans e2).trans e3
  obtain ⟨H4, h4, q⟩ := k p H3 (fresh_back (e1.trans e2) hp) e13 ht
  exact ⟨a, H4, rfl, h4, q⟩
/-- d[k] = v -/
theorem s_dput {td ty tv : TE} {D : Ends} {σ : L2.St} {H : Hp} {a : Addr} {v y : V} (hv : Ev tv σ H v) (hd : Ev td σ H (.ref a)) (hy : Ev ty σ H y)
    (k : ∀ H1, Ex H H1 → ∃ H4, DPut H1 a y v H4 ∧ D.nx σ H4) : sDPut td ty tv D σ H := by
  refine hv H (Ex.refl _) _ fun H1 e1 => hd H1 e1 _ fun H2 e2 => ?_
  refine hy H2 (e1.trans e2) _ fun H3 e3 => ?_
  obtain ⟨H4, h4, q⟩ := k H3 ((e1.trans e2).trans e3)
  exact ⟨a, H4, rfl, h4, q⟩
theorem any_take {α : Type} {l : List α} {i : Nat} {x : α} (f : α → Bool) (h : l[i]? = some x) : (l.take (i + 1)).any f = ((l.take i).any f || f x) := by
  rw [List.take_succ, h]
  simp
theorem take_snoc {α : Type} {l : List α} {i : Nat} {x : α} (h : l[i]? = some x) : l.take (i + 1) = l.take i ++ [x] := by
  rw [List.take_succ, h]
  rfl
theorem paired_at {α β : Type} {G : α → β → Prop} {l₁ : List α} {l₂ : List β} (h : Paired G l₁ l₂) : ∀ {i : Nat} {a : α}, l₁[i]? = some a → ∃ b, l₂[i]? = some b ∧ G a b := L2.paired_get h
theorem paired_at' {α β : Type} {G : α → β → Prop} {l₁ : List α} {l₂ : List β} (h : Paired G l₁ l₂) {i : Nat} {b : β} (hb : l₂[i]? = some b) : ∃ a, l₁[i]? = some a ∧ G a b := by
  have hl := h.length
  obtain ⟨h1, _⟩ := List.getElem?_eq_some_iff.mp hb
  have h2 : i < l₁.length := by omega
  obtain ⟨b', hb', g⟩ := L2.paired_get h (List.getElem?_eq_getElem h2)
  rw [hb] at hb'
  cases hb'
  exact ⟨_, List.getElem?_eq_getElem h2, g⟩
theorem Paired.snoc {α β : Type} {G : α → β → Prop} : ∀ {l₁ : List α} {l₂ : List β} {a : α} {b : β}, Paired G l₁ l₂ → G a b → Paired G (l₁ ++ [a]) (l₂ ++ [b])
  | _, _, _, _, .nil, g => .cons g .nil
  | _, _, _, _, .cons r t, g => .cons r (Paired.snoc t g)
end Lr
set_option Elab.async false
set_option linter.all false
set_option maxRecDepth 100000
set_option maxHeartbeats 4000000
namespace Lr
open PySem L2 Evl
/-- the journals that stand at d, a dict that is not locked -/
def JrnS (H : Hp) (d : Addr) (J : Jrn) : Prop := ∃ kvs : List (L2.Key × V), H d = some (.dK kvs) ∧ Paired (fun (kv : L2.Key × V) (j : Int × List Run) => kv.1 = Sum.inl j.1 ∧ RunsAt H kv.2 j.2) kvs J
theorem JrnS.ex {H H' : Hp} {d : Addr} {J : Jrn} (h : JrnS H d J) (e : Ex H H') : JrnS H' d J := by
  obtain ⟨kvs, h1, h2⟩ := h
  exact ⟨kvs, e _ _ h1, Paired.mono h2 fun _ _ z => ⟨z.1, z.2.ex e⟩⟩
theorem kvs_keys {H : Hp} {kvs : List (L2.Key × V)} {J : Jrn} (h : Paired (fun (kv : L2.Key × V) (j : Int × List Run) => kv.1 = Sum.inl j.1 ∧ RunsAt H kv.2 j.2) kvs J) : kvs.map (·.1) = (J.map (·.1)).map Sum.inl := by
  induction h with
  | nil => rfl
  | cons r _ ih => rw [List.map_cons, List.map_cons, List.map_cons, ih, r.1]
theorem kvs_val {H : Hp} {kvs : List (L2.Key × V)} {J : Jrn} (h : Paired (fun (kv : L2.Key × V) (j : Int × List Run) => kv.1 = Sum.inl j.1 ∧ RunsAt H kv.2 j.2) kvs J) (o : Int) :
    (valV kvs (Sum.inl o) = none ∧ (∀ j ∈ J, j.1 ≠ o) ∧ lookJ J o = []) ∨ ∃ v, valV kvs (Sum.inl o) = some v ∧ RunsAt H v (lookJ J o) ∧ ∃ j ∈ J, j.1 = o ∧ j.2 = lookJ J o := by
  induction h with
  | nil => exact .inl ⟨rfl, fun j hj => (by cases hj), rfl⟩
  | cons r _ ih =>
    rename_i kv j kvs' J' _
    by_cases e : j.1 = o
    · have ek : kv.1 = Sum.inl o := by rw [r.1, e]
      have el : lookJ (j :: J') o = j.2 := by unfold lookJ; rw [List.find?_cons, decide_eq_true e]
      refine .inr ⟨kv.2, valV_pos ek, by rw [el]; exact r.2, j, List.mem_cons_self, e, el.symm⟩
    · have ek : ¬ kv.1 = Sum.inl o := by rw [r.1]; exact fun z => e (Sum.inl.inj z)
      have el : lookJ (j :: J') o = lookJ J' o := by unfold lookJ; rw [List.find?_cons, decide_eq_false e]
      rw [valV_neg ek, el]
      rcases ih with ⟨h1, h2, h3⟩ | ⟨v, h1, h2, j', hj', h3⟩
      · exact .inl ⟨h1, fun j' hj' => (List.mem_cons.mp hj').elim (fun z => by rw [z]; exact e) (h2 j'), h3⟩
      · exact .inr ⟨v, h1, h2, j', List.mem_cons_of_mem _ hj', h3⟩
def saidRun (r : Run) (e : En) : Bool := r.any fun p => hitE e p.2
theorem saidE_eo (rs : List Run) (e : En) : saidE (rs.map Run.eo) e = rs.any fun r => saidRun r e := by
  unfold saidE saidRun
  rw [List.any_map]
  congr 1
  funext r
  show (r.map (·.2)).any (hitE e) = _
  rw [List.any_map]
  rfl
def sJ (e : En) (o : Int) (j : Int × List Run) : Bool := decide (j.1 = o) && j.2.any fun r => saidRun r e
theorem said_all {J : Jrn} (nd : (J.map (·.1)).Nodup) (o : Int) (e : En) : (J.any (sJ e o)) = saidE (eoJ J o) e := by
  have e0 : saidE (eoJ J o) e = (lookJ J o).any fun r => saidRun r e := saidE_eo _ _
  rw [e0]
  have no : ∀ {J : Jrn}, (∀ j ∈ J, j.1 ≠ o) → J.any (sJ e o) = false := fun {J} h => by
    rw [List.any_eq_false]
    intro j hj
    unfold sJ
    rw [decide_eq_false (h j hj)]
    simp
  clear e0
  induction J with
  | nil => rfl
  | cons j J ih =>
    rw [List.map_cons, List.nodup_cons] at nd
    rw [List.any_cons]
    by_cases h : j.1 = o
    · have el : lookJ (j :: J) o = j.2 := by unfold lookJ; rw [List.find?_cons, decide_eq_true h]
      rw [el, no (fun j' hj' z => nd.1 (List.mem_map.mpr ⟨j', hj', z.trans h.symm⟩)), Bool.or_false]
      unfold sJ
      rw [decide_eq_true h, Bool.true_and]
    · have el : lookJ (j :: J) o = lookJ J o := by unfold lookJ; rw [List.find?_cons, decide_eq_false h]
      rw [el, ← ih nd.2]
      have : sJ e o j = false := by unfold sJ; rw [decide_eq_false h]; rfl
      rw [this, Bool.false_or]
theorem keyE_dec (o o' : Int) (e f : En) : decide (keyE o e = keyE o' f) = (decide (o' = o) && same3 f e) := by
  unfold same3
  by_cases h : o' = o ∧ f.seat = e.seat ∧ f.life = e.life ∧ f.mark = e.mark
  · obtain ⟨h1, h2, h3, h4⟩ := h
    rw [decide_eq_true h1, decide_eq_true h2, decide_eq_true h3, decide_eq_true h4, decide_eq_true (by unfold keyE; rw [h1, h2, h3, h4])]
    rfl
  · rw [decide_eq_false (fun z => h (by
      unfold keyE at z
      injection z with z1 z
      injection z with z2 z
      injection z with z3 z
      injection z with z4 _
      exact ⟨(Sum.inl.inj z1).symm, (Sum.inl.inj z2).symm, (Sum.inl.inj z3).symm, (Sum.inr.inj z4).symm⟩))]
    rw [← Bool.decide_and, ← Bool.decide_and, ← Bool.decide_and, decide_eq_false h]
/-- the facts so far -/
def FSt (H0 : Hp) (fa : Addr) (n : Nat) (S : Int → En → Bool) (H' : Hp) : Prop := But fa H0 H' ∧ ∃ kvs : List (List L2.Key × V), H' fa = some (.dT kvs) ∧ kvs.length ≤ n ∧ ∀ o e, (valV kvs (keyE o e)).isSome = S o e
theorem FSt.ex {H0 H H' : Hp} {fa : Addr} {n : Nat} {S : Int → En → Bool} (h : FSt H0 fa n S H) (e : Ex H H') : FSt H0 fa n S H' := by
  obtain ⟨h1, kvs, h2, h3⟩ := h
  exact ⟨h1.trans (But.of_ex e), kvs, e _ _ h2, h3⟩
theorem FSt.to {H0 H : Hp} {fa : Addr} {n m : Nat} {S S' : Int → En → Bool} (h : FSt H0 fa n S H) (hn : n ≤ m) (e : ∀ o x, S o x = S' o x) : FSt H0 fa m S' H := by
  obtain ⟨h1, kvs, h2, h3, h4⟩ := h
  exact ⟨h1, kvs, h2, Nat.le_trans h3 hn, fun o x => (h4 o x).trans (e o x)⟩
theorem FSt.stay {H0 H : Hp} {fa : Addr} {n : Nat} {S : Int → En → Bool} (h : FSt H0 fa n S H) (h0 : H0 fa = some (.dT [])) : Stay H0 H :=
  ⟨fun b xs z => h.1 b _ z (ne_of z h0 fun q => nomatch q), fun b xs z => h.1 b _ z (ne_of z h0 fun q => nomatch q)⟩
section
variable {P : Program} {w : World} {K : PySem.W.Frag} {mg : Str → Option Value} {base : Heap} {aM aS aO aB : Addr} {f : Addr} {fd : FuncData}
def spFacts : Sp := fun vs H Q _ => ∃ d J, vs = [.ref d] ∧ JrnS H d J ∧ Bnd J ∧ ∀ fa H', H fa = none → Ex H H' → FactsAt H' fa (eoJ J) → Q (.ref fa) H'
theorem sc_stated_facts : FnScope ["journals", "facts", "owner", "run", "entry"] ["journals"] (defScope (top 11)) := ⟨rfl, rfl, rfl, by decide +kernel, rfl, by decide +kernel, by decide +kernel⟩
theorem ok_stated_facts {fe : Addr} {fde : FuncData} (F : FnP K "stated_facts" (top 11) f fd) (T : Tx K w mg aM aS aO aB) (cis_entry : Cal P w K mg base "is_entry" 2 ["entry"] spFormed fe fde) :
    FnOk P w K mg base CX0 3 f fd ["journals"] spFacts := by
  refine F.ok sc_stated_facts (fun vs H Q E h => ?_) (fun cdv A outer s H vs Q E hr h => ?_)
  · obtain ⟨d, J, rfl, _⟩ := h
    rfl
  · obtain ⟨d, J, rfl, hJ, hB, q⟩ := h
    have hu := hu_of hr
    refine ⟨_, PSs.nox (pss_cons (ps_set (i := 1) sc_stated_facts.nd rfl (Or.inl rfl) pe_dnewT)
      (pss_cons (ps_lock (ps_for PassesOwn.never rfl (pi_keys (pv 0)) (pg_name (i := 2) sc_stated_facts.nd rfl (Or.inl rfl))
        (pss_one (ps_for PassesOwn.never rfl (pi_list (pe_dget hu (pv 0) (pv 2) (fun _ _ => rfl))) (pg_name (i := 3) sc_stated_facts.nd rfl (Or.inl rfl))
          (pss_one (ps_for PassesOwn.never rfl (pi_list (pv 3)) (pg_name (i := 4) sc_stated_facts.nd rfl (Or.inl rfl))
            (pss_one (ps_if (pt_val (pe_cal cis_entry (hr.mono (by decide)) (by rfl) (pa_cons (pv 4) pa_nil)))
              (pss_one (ps_dput hu (pv 1) (pe_tup (pa_cons (pv 2) (pa_cons (pe_ix ix_tup (pv 4) pe_int (fun _ _ => rfl)) (pa_cons (pe_ix ix_tup (pv 4) pe_int (fun _ _ => rfl)) (pa_cons (pe_ix ix_tup (pv 4) pe_int (fun _ _ => rfl)) pa_nil))))) pe_bl rfl))
              pss_nil))))))))
      (pss_one (ps_ret (pv 1))))), ?_⟩
    intro fa hfa
    have e1 : Ex H (upd H fa (.dT [])) := Ex.new hfa
    obtain ⟨kvs, hd, hk⟩ := id hJ
    have nfd : fa ≠ d := fun z => by rw [z, hd] at hfa; cases hfa
    have hd1 : upd H fa (.dT []) d = some (.dK kvs) := e1 _ _ hd
    have hlen := hk.length
    refine s_forKeys (kvs := kvs) (fun H1 => by funext Q; exact propext ⟨fun ⟨v, h1, h2⟩ => by cases h1; exact h2, fun h => ⟨_, rfl, h⟩⟩) hd1
      (fun od i σ' H' => (∃ x2 x3 x4, σ' = [some (.ref d), some (.ref fa), x2, x3, x4]) ∧ FSt (upd (upd H fa (.dT [])) d (.frz od (.dK kvs))) fa (i * 800) (fun o e => (J.take i).any (sJ e o)) H')
      (fun od => ⟨⟨_, _, _, rfl⟩, But.refl _ _, [], ?_, Nat.zero_le _, fun o e => rfl⟩) (fun od i σ' H' h => h.2.1 _ _ upd_same nfd.symm) ?_ ?_
    · rw [upd_ne nfd, upd_same]
    · rintro od i p σ' H' hp ⟨⟨x2, x3, x4, rfl⟩, hF⟩
      have h00 : (upd (upd H fa (.dT [])) d (.frz od (.dK kvs))) fa = some (.dT []) := by rw [upd_ne nfd, upd_same]
      have hdz : H' d = some (.frz od (.dK kvs)) := hF.1 _ _ upd_same nfd.symm
      have st0 : Stay H (upd (upd H fa (.dT [])) d (.frz od (.dK kvs))) := ⟨fun b xs z => by rw [upd_ne (ne_of z hd fun q => nomatch q)]; exact e1 _ _ z, fun b xs z => by rw [upd_ne (ne_of z hd fun q => nomatch q)]; exact e1 _ _ z⟩
      obtain ⟨j, hj, ek, hrs⟩ := paired_at hk hp
      have hjm : j ∈ J := List.mem_of_getElem? hj
      have hjb := hB.rs j hjm
      obtain ⟨ra, rvs, hra, hrl, hrp⟩ := hrs.stay st0
      have vj : valV kvs (Sum.inl j.1) = some (.ref ra) := by
        have := val_nodup (kvs := kvs) (by rw [kvs_keys hk]; exact List.Pairwise.map _ (fun a b z q => z (Sum.inl.inj q)) hB.nd) p (List.mem_of_getElem? hp)
        rw [ek, hra] at this
        exact this
      have hp1 : kV p.1 = .int j.1 := by rw [ek]; rfl
      rw [hp1]
      have hi8 : i < 8 := by
        have := (List.getElem?_eq_some_iff.mp hj).1
        have := hB.n
        omega
      have hrl' : rvs.length = j.2.length := hrp.length
      refine s_forLn (xs := rvs) (ev_dget (ev_var rfl) (ev_var rfl) fun H1 e1 => .inl ⟨kvs, Sum.inl j.1, .inr ⟨od, e1 _ _ hdz⟩, rfl, vj.symm⟩) (sq_of ((hF.stay h00).lst _ _ hrl))
        (fun t σ' H' => (∃ x3 x4, σ' = [some (.ref d), some (.ref fa), some (.int j.1), x3, x4]) ∧ FSt (upd (upd H fa (.dT [])) d (.frz od (.dK kvs))) fa (i * 800 + t * 100) (fun o e => (J.take i).any (sJ e o) || (decide (j.1 = o) && (j.2.take t).any fun r => saidRun r e)) H')
        (fun H1 e1 => ⟨⟨_, _, rfl⟩, (hF.ex e1).to (by omega) fun o e => by simp⟩) (fun t σ' H' _ h => sq_of ((h.2.stay h00).lst _ _ hrl)) ?_ ?_
      · rintro t rv σ' H' hrv ⟨⟨x3, x4, rfl⟩, hF⟩
        obtain ⟨r, hr1, a2, rfl, hl2, he2⟩ := paired_at hrp hrv
        have ht8 : t < 8 := by
          have := (List.getElem?_eq_some_iff.mp hr1).1
          have := hjb.1
          omega
        have hr100 := hjb.2 r (List.mem_of_getElem? hr1)
        refine s_forLn (xs := r.map (·.1)) (ev_var rfl) (sq_of ((hF.stay h00).lst _ _ hl2))
          (fun k σ' H' => (∃ x4, σ' = [some (.ref d), some (.ref fa), some (.int j.1), some (.ref a2), x4]) ∧ FSt (upd (upd H fa (.dT [])) d (.frz od (.dK kvs))) fa (i * 800 + t * 100 + k)
            (fun o e => ((J.take i).any (sJ e o) || (decide (j.1 = o) && (j.2.take t).any fun r => saidRun r e)) || (decide (j.1 = o) && saidRun (r.take k) e)) H')
          (fun H1 e1 => ⟨⟨_, rfl⟩, (hF.ex e1).to (by omega) fun o e => by simp [saidRun]⟩) (fun k σ' H' _ h => sq_of ((h.2.stay h00).lst _ _ hl2)) ?_ ?_
        · rintro k x σ' H' hx ⟨⟨x4, rfl⟩, hF⟩
          obtain ⟨⟨y, o⟩, hy, rfl⟩ : ∃ p : Ent, r[k]? = some p ∧ p.1 = x := by
            rw [List.getElem?_map] at hx
            cases e : r[k]? with
            | none => rw [e] at hx; cases hx
            | some p => rw [e] at hx; exact ⟨p, rfl, Option.some.inj hx⟩
          have hent : EntAt H' y o := (he2 (y, o) (List.mem_of_getElem? hy)).stay (hF.stay h00).tup fun b xs _ z => ⟨xs, (hF.stay h00).lst _ _ z⟩
          have hk100 : k < 100 := by
            have := (List.getElem?_eq_some_iff.mp hy).1
            omega
          have S1 : ∀ e', saidRun (r.take (k + 1)) e' = (saidRun (r.take k) e' || hitE e' o) := fun e' => any_take (fun p : Ent => hitE e' p.2) hy
          refine s_when (et_B (ev_cal (ea_cons (ev_var rfl) ea_nil) (v_formed hent))) (fun hb H1 e1 => ?_) (fun hb H1 e1 => ?_)
          · cases o with
            | none => cases hb
            | some en =>
              rcases hent.ex e1 with ⟨a3, xs, rfl, ha3, _, hfo⟩ | ⟨h, _⟩
              · obtain ⟨rfl, _, _, hm, _⟩ := formedL_items hfo.symm
                refine s_dputU (a := fa) ev_c (ev_var rfl) (eu_tup (ea_cons (ev_var rfl) (ea_cons (ev_it 0 (ev_var rfl) (st_of ha3) rfl) (ea_cons (ev_it 1 (ev_var rfl) (st_of ha3) rfl) (ea_cons (ev_it 2 (ev_var rfl) (st_of ha3) rfl) ea_nil)))) (by show 4 ≤ 100000; decide)) fun p H2 hp2 e2 ht => ?_
                obtain ⟨hb1, kv2, hf2, hl2', hs2⟩ := (hF.ex e1).ex e2
                refine ⟨_, DPut.t (k := keyE j.1 en) hf2 (show H2 p = some (.tup ((keyE j.1 en).map kV)) from ht) (sz_lt (by omega)), ⟨_, rfl⟩, hb1.upd, _, upd_same, Nat.le_trans (length_putK _ _ _) (by omega), fun o e => ?_⟩
                dsimp only
                rw [valV_put, S1 e]
                have ek := keyE_dec o j.1 e en
                by_cases hke : keyE o e = keyE j.1 en
                · rw [if_pos hke]
                  rw [decide_eq_true hke] at ek
                  have := Bool.and_eq_true_iff.mp ek.symm
                  rw [this.1]
                  show true = (_ || (true && (_ || hitE e (some en))))
                  rw [show hitE e (some en) = true from this.2]
                  simp
                · rw [if_neg hke, hs2]
                  dsimp only
                  rw [decide_eq_false hke] at ek
                  cases h1 : decide (j.1 = o) with
                  | false => simp
                  | true =>
                    rw [h1] at ek
                    have h2 : same3 en e = false := by rw [Bool.true_and] at ek; exact ek.symm
                    show _ = (_ || (true && (_ || hitE e (some en))))
                    rw [show hitE e (some en) = false from h2]
                    simp
              · cases h
          · cases o with
            | some en => cases hb
            | none => exact ⟨⟨_, rfl⟩, (hF.ex e1).to (by omega) fun o e => by rw [S1 e]; simp [hitE]⟩
        · rintro σ' H' ⟨⟨x4, rfl⟩, hF⟩
          rw [List.length_map] at hF
          refine ⟨⟨_, _, rfl⟩, hF.to (by omega) fun o e => ?_⟩
          rw [List.take_length, any_take _ hr1, Bool.and_or_distrib_left, Bool.or_assoc]
      · rintro σ' H' ⟨⟨x3, x4, rfl⟩, hF⟩
        rw [hrl'] at hF
        refine ⟨⟨_, _, _, rfl⟩, hF.to (by have := hjb.1; omega) fun o e => ?_⟩
        rw [List.take_length, any_take _ hj]
        rfl
    · rintro od σ' H' ⟨⟨x2, x3, x4, rfl⟩, hF⟩
      obtain ⟨hb, kv2, hf2, _, hs2⟩ := hF
      refine ⟨_, rfl, ?_⟩
      refine q fa _ hfa (fun b o hbo => ?_) ⟨kv2, by rw [upd_ne nfd]; exact hf2, fun o e => ?_⟩
      · by_cases hbd : b = d
        · rw [hbd, upd_same]
          rw [hbd, hd] at hbo
          exact hbo
        · rw [upd_ne hbd]
          refine hb b o ?_ (fun z => by rw [z, hfa] at hbo; cases hbo)
          rw [upd_ne hbd]
          exact e1 _ _ hbo
      · rw [hs2, hlen, List.take_length]
        exact said_all hB.nd o e
end
end Lr
set_option Elab.async false
set_option linter.all false
set_option maxRecDepth 100000
set_option maxHeartbeats 4000000
namespace Lr
open PySem L2 Evl
def reasP (look : Int → List (List Eo)) (lack : List Int) (o : Int) (es : List Eo) (n : Nat) : List (Option Str) := (List.range n).map fun k => reasonE look lack o (es.take k) (es.getD k none)
theorem reasP_succ {look : Int → List (List Eo)} {lack : List Int} {o : Int} {es : List Eo} {n : Nat} {e : Eo} (h : es[n]? = some e) : reasP look lack o es (n + 1) = reasP look lack o es n ++ [reasonE look lack o (es.take n) e] := by
  unfold reasP
  rw [List.range_succ, List.map_append]
  show _ ++ [reasonE look lack o (es.take n) (es.getD n none)] = _
  rw [List.getD_eq_getElem?_getD, h]
  rfl
theorem reasP_len {look : Int → List (List Eo)} {lack : List Int} {o : Int} {es : List Eo} {n : Nat} : (reasP look lack o es n).length = n := by
  unfold reasP; rw [List.length_map, List.length_range]
theorem sourced_snoc (pre : List Eo) (e : En) : sourcedE (pre ++ [some e]) = (sourcedE pre || e.src.isSome) := by
  unfold sourcedE
  rw [List.any_append]
  simp
theorem sourced_snoc0 (pre : List Eo) : sourcedE (pre ++ [none]) = sourcedE pre := by
  unfold sourcedE
  rw [List.any_append]
  simp
theorem BefAt.tup {H H' : Hp} {v : V} {o : Option En} (h : BefAt H v o) (e : ∀ b xs, H b = some (.tup xs) → H' b = some (.tup xs)) : BefAt H' v o := by
  rcases h with h | ⟨c, l, h1, h2, h3, h4⟩
  · exact .inl h
  · exact .inr ⟨c, l, h1, h2, e _ _ h3, h4⟩
theorem q_dput {td ty tv : TE} {tz : TS} {D : Ends} {σ : L2.St} {H : Hp} {a : Addr} {v y : V} (hv : Ev tv σ H v) (hd : Ev td σ H (.ref a)) (hy : Ev ty σ H y)
    (k : ∀ H1, Ex H H1 → ∃ H4, DPut H1 a y v H4 ∧ tz D σ H4) : tSeq (sDPut td ty tv) tz D σ H := s_dput hv hd hy k
theorem q_newK {tz : TS} {D : Ends} {σ : L2.St} {H : Hp} {i : Nat} (k : ∀ p H1, H p = none → Ex H H1 → H1 p = some (.dK []) → tz D (σ.set i (some (.ref p))) H1) : tSeq (tAsg tDNewK (gName i)) tz D σ H :=
  fun p hp => k p _ hp (Ex.new hp) upd_same
theorem q_newT {tz : TS} {D : Ends} {σ : L2.St} {H : Hp} {i : Nat} (k : ∀ p H1, H p = none → Ex H H1 → H1 p = some (.dT []) → tz D (σ.set i (some (.ref p))) H1) : tSeq (tAsg tDNewT (gName i)) tz D σ H :=
  fun p hp => k p _ hp (Ex.new hp) upd_same
/-- the entry of a run, by its place -/
theorem run_at {r : Run} {k : Nat} {x : V} (hx : (r.map (·.1))[k]? = some x) : ∃ o, r[k]? = some (x, o) ∧ (Run.eo r)[k]? = some o := by
  rw [List.getElem?_map] at hx
  cases e : r[k]? with
  | none => rw [e] at hx; cases hx
  | some p =>
    rw [e] at hx
    have : p.1 = x := Option.some.inj hx
    refine ⟨p.2, by rw [← this], ?_⟩
    show (r.map (·.2))[k]? = _
    rw [List.getElem?_map, e]
    rfl
section
variable {P : Program} {w : World} {K : PySem.W.Frag} {mg : Str → Option Value} {base : Heap} {aM aS aO aB : Addr} {f : Addr} {fd : FuncData}
def spRuns (K : PySem.W.Frag) : Sp := fun vs H Q _ => ∃ o v p fa r lack look, vs = [.int o, v, p, .ref fa] ∧ RunAt H v r ∧ r.length ≤ 100 ∧ PartAt K H p lack ∧ FactsAt H fa look ∧
  ∀ l H', H l = none → Ex H H' → H' l = some (.lst ((reasP look lack o (Run.eo r) r.length).map reasV)) → Q (.ref l) H'
theorem sc_run_reasons : FnScope ["owner", "run", "partial", "facts", "reasons", "last", "sourced", "lacking", "entry", "reason"] ["owner", "run", "partial", "facts"] (defScope (top 15)) := ⟨rfl, rfl, rfl, by decide +kernel, rfl, by decide +kernel, by decide +kernel⟩
theorem ok_run_reasons {fe fr fu : Addr} {fde fdr fdu : FuncData} (F : FnP K "run_reasons" (top 15) f fd) (T : Tx K w mg aM aS aO aB) (cis_entry : Cal P w K mg base "is_entry" 2 ["entry"] spFormed fe fde)
    (crun_reason : Cal P w K mg base "run_reason" 3 ["owner", "entry", "before", "sourced", "lacking"] spReason fr fdr) (cis_unsaid : Cal P w K mg base "is_unsaid" 1 ["owner", "entry", "partial", "facts"] (spUnsaid K) fu fdu) :
    FnOk P w K mg base CX0 4 f fd ["owner", "run", "partial", "facts"] (spRuns K) := by
  refine F.ok sc_run_reasons (fun vs H Q E h => ?_) (fun cdv A outer s H vs Q E hr h => ?_)
  · obtain ⟨o, v, p, fa, r, lack, look, rfl, _⟩ := h
    rfl
  · obtain ⟨o, v, p, fa, r, lack, look, rfl, hrun, hlen, hp, hf, q⟩ := h
    have hu := hu_of hr
    obtain ⟨ra, rfl, hra, hent⟩ := id hrun
    refine ⟨_, PSs.nox (pss_cons (ps_set (i := 4) sc_run_reasons.nd rfl (Or.inl rfl) (pe_lst pa_nil))
      (pss_cons (ps_set (i := 5) sc_run_reasons.nd rfl (Or.inl rfl) pe_dnewK)
      (pss_cons (ps_set (i := 6) sc_run_reasons.nd rfl (Or.inl rfl) pe_bl)
      (pss_cons (ps_set (i := 7) sc_run_reasons.nd rfl (Or.inl rfl) (pe_cmpR op_in_seq (pv 0) (pv 2) rfl))
      (pss_cons (ps_for PassesOwn.never rfl (pi_list (pv 1)) (pg_name (i := 8) sc_run_reasons.nd rfl (Or.inl rfl))
        (pss_cons (ps_if (pt_not (pt_val (pe_cal cis_entry (hr.mono (by decide)) (by rfl) (pa_cons (pv 8) pa_nil))))
          (pss_cons (ps_expr (pe_bm PySem.F.plainAttrs_list PySem.F.slot_list_append PySem.F.type_list_append mt_append (pv 4) (pa_cons pe_str pa_nil)))
          (pss_one ps_continue))
          pss_nil)
        (pss_cons (ps_set (i := 9) sc_run_reasons.nd rfl (Or.inl rfl) (pe_cal crun_reason (hr.mono (by decide)) (by rfl) (pa_cons (pv 0) (pa_cons (pv 8) (pa_cons (pe_dget1 hu (pv 5) (pe_ix ix_tup (pv 8) pe_int (fun _ _ => rfl)) ⟨rfl, rfl, rfl, rfl⟩) (pa_cons (pv 6) (pa_cons (pv 7) pa_nil)))))))
        (pss_cons (ps_if (PW.pt (pw_and (pt_cmpR op_isN1 (pv 9) pe_non (nomark _)) (pw_and1 (pt_val (pe_cal cis_unsaid (hr.mono (by decide)) (by rfl) (pa_cons (pv 0) (pa_cons (pv 8) (pa_cons (pv 2) (pa_cons (pv 3) pa_nil)))))))))
          (pss_one (ps_set (i := 9) sc_run_reasons.nd rfl (Or.inl rfl) pe_str))
          pss_nil)
        (pss_cons (ps_expr (pe_bm PySem.F.plainAttrs_list PySem.F.slot_list_append PySem.F.type_list_append mt_append (pv 4) (pa_cons (pv 9) pa_nil)))
        (pss_cons (ps_dput hu (pv 5) (pe_ix ix_tup (pv 8) pe_int (fun _ _ => rfl)) (pv 8) rfl)
        (pss_one (ps_if (pt_cmpR op_notN1 (pe_ix ix_tup (pv 8) pe_int (fun _ _ => rfl)) pe_non (nomark _))
          (pss_one (ps_set (i := 6) sc_run_reasons.nd rfl (Or.inl rfl) pe_bl))
          pss_nil))))))))
      (pss_one (ps_ret (pv 4)))))))), ?_⟩
    refine q_asgL (el_lst ea_nil (by decide)) fun rl H1 nrl e1 hrl => ?_
    refine q_newK fun ld H2 nld e2' hld => ?_
    have hrl2 := e2' _ _ hrl
    have nrd : rl ≠ ld := ne_of hrl2 hld fun z => nomatch z
    have e2 : Ex H H2 := e1.trans e2'
    have hld0 : H ld = none := fresh_back e1 nld
    refine q_asg ev_c fun H3 e3 => ?_
    have e03 := e2.trans e3
    refine q_asg (ev_op (ev_var rfl) (ev_var rfl) (rv_part (hp.ex e03))) fun H4 e4 => ?_
    have e04 := e03.trans e4
    refine q_forLn (xs := r.map (·.1)) (ev_var rfl) (sq_of (e04 _ _ hra))
      (fun i σ' H' => (∃ x8 x9, σ' = [some (.int o), some (.ref ra), some p, some (.ref fa), some (.ref rl), some (.ref ld), some (.bl (sourcedE ((Run.eo r).take i))), some (.bl (decide (o ∈ lack))), x8, x9]) ∧ Ex H H' ∧
        H' rl = some (.lst ((reasP look lack o (Run.eo r) i).map reasV)) ∧ ∃ lk : List (L2.Key × V), H' ld = some (.dK lk) ∧ lk.length ≤ i ∧ ∀ s, BefAt H' ((valV lk (Sum.inl s)).getD .non) (lastE s ((Run.eo r).take i)))
      (fun H5 e5 => ⟨⟨_, _, rfl⟩, e04.trans e5, e5 _ _ (e4 _ _ (e3 _ _ hrl2)), [], e5 _ _ (e4 _ _ (e3 _ _ hld)), Nat.zero_le _, fun s => .inl ⟨rfl, rfl⟩⟩) (fun i σ' H' _ h => sq_of (h.2.1 _ _ hra)) ?_ ?_
    · rintro i x σ' H' hx ⟨⟨x8, x9, rfl⟩, eH, hrl, lk, hld, hlk, hbef⟩
      obtain ⟨eo, hro, heo⟩ := run_at hx
      have hi : i < 100 := by
        have := (List.getElem?_eq_some_iff.mp hro).1
        omega
      have hentx : EntAt H' x eo := (hent _ (List.mem_of_getElem? hro)).ex eH
      have tk : (Run.eo r).take (i + 1) = (Run.eo r).take i ++ [eo] := take_snoc heo
      have hzl : ((reasP look lack o (Run.eo r) i).map reasV).length < 100000 := by rw [List.length_map, reasP_len]; omega
      refine q_when (et_not (et_B (ev_cal (ea_cons (ev_var rfl) ea_nil) (v_formed hentx)))) (fun hb H5 e5 => ?_) (fun hb H5 e5 => ?_)
      · cases eo with
        | some _ => cases hb
        | none =>
          refine q_app (e5 _ _ hrl) (ev_var rfl) ev_c hzl fun H6 e6 => ?_
          have e56 := e5.trans e6
          refine ⟨⟨_, _, by rw [tk, sourced_snoc0]; rfl⟩, (eH.trans e56).mut nrl, ?_, lk, ?_, by omega, fun s => ?_⟩
          · rw [upd_same, reasP_succ heo, List.map_append]; rfl
          · rw [upd_ne nrd.symm]; exact e56 _ _ hld
          · rw [tk, lastE_snoc]
            exact ((hbef s).ex e56).tup fun b xs z => by rw [upd_ne (ne_of z (e56 _ _ hrl) fun q => nomatch q)]; exact z
      · cases eo with
        | none => cases hb
        | some e =>
          rcases hentx with ⟨a, xs, rfl, ha, _, hfo⟩ | ⟨h, _⟩
          · obtain ⟨rfl, _, _, hm, _⟩ := formedL_items hfo.symm
            have ha5 := e5 _ _ ha
            have hld5 := e5 _ _ hld
            have hb5 := (hbef e.seat).ex e5
            refine q_asg (ev_cal (ea_cons (ev_var rfl) (ea_cons (ev_var rfl) (ea_cons (ev_dget1 (o := valV lk (Sum.inl e.seat)) (ev_var rfl) (ev_it 0 (ev_var rfl) (st_of ha5) rfl) (fun H6 e6 => .inl ⟨lk, .inl (e6 _ _ hld5)⟩) (fun H6 e6 => DGet.k (k := Sum.inl e.seat) (e6 _ _ hld5))) (ea_cons (ev_var rfl) (ea_cons (ev_var rfl) ea_nil)))))
              (v_reason (sc := sourcedE ((Run.eo r).take i)) (lk := decide (o ∈ lack)) ha5 hm hb5)) fun H6 e6 => ?_
            have e56 := e5.trans e6
            have ha6 := e56 _ _ ha
            have hr1 : reasonP o (sourcedE ((Run.eo r).take i)) (decide (o ∈ lack)) (lastE e.seat ((Run.eo r).take i)) e = reason1 lack o ((Run.eo r).take i) e := rfl
            rw [hr1]
            refine q_ifAsg (v := reasV (reasonE look lack o ((Run.eo r).take i) (some e))) (et_and (et_test (ev_op (ev_var rfl) ev_c rv_isN)) fun _ => et_B (ev_cal (ea_cons (ev_var rfl) (ea_cons (ev_var rfl) (ea_cons (ev_var rfl) (ea_cons (ev_var rfl) ea_nil)))) (v_unsaid ha6 (hp.ex (eH.trans e56)) (hf.ex (eH.trans e56))))) (fun hb2 => ?_) (fun hb2 => ?_) fun H7 e7 => ?_
            · obtain ⟨hz1, hz2⟩ := Bool.and_eq_true_iff.mp hb2
              have hz3 : reason1 lack o ((Run.eo r).take i) e = none := by
                cases z : reason1 lack o ((Run.eo r).take i) e with
                | none => rfl
                | some y =>
                  rw [z] at hz1
                  exact nomatch (of_decide_eq_true hz1)
              have hz4 : reasonE look lack o ((Run.eo r).take i) (some e) = some ("source" : Str) := by
                unfold reasonE
                dsimp only
                rw [hz3]
                dsimp only
                rw [if_pos hz2]
              rw [hz4]
              exact ev_c
            · have hz4 : reasonE look lack o ((Run.eo r).take i) (some e) = reason1 lack o ((Run.eo r).take i) e := by
                unfold reasonE
                dsimp only
                cases z : reason1 lack o ((Run.eo r).take i) e with
                | some y => rfl
                | none =>
                  rw [z] at hb2
                  dsimp only
                  have hz5 : unsaidE look lack o e = false := by
                    have : (decide (reasV none = V.non) && unsaidE look lack o e) = false := hb2
                    have h0 : decide (reasV none = V.non) = true := rfl
                    rwa [h0, Bool.true_and] at this
                  rw [if_neg (by rw [hz5]; decide)]
              rw [hz4]
              rfl
            · have e57 := e56.trans e7
              refine q_app (e57 _ _ hrl) (ev_var rfl) (ev_var rfl) hzl fun H8 e8 => ?_
              have e58 := e57.trans e8
              have ha8 : (upd H8 rl (.lst ((reasP look lack o (Run.eo r) i).map reasV ++ [reasV (reasonE look lack o ((Run.eo r).take i) (some e))]))) a = some (.tup e.items) := by
                rw [upd_ne (ne_of (e58 _ _ ha) (e58 _ _ hrl) fun q => nomatch q)]; exact e58 _ _ ha
              refine q_dput (a := ld) (y := .int e.seat) (ev_var rfl) (ev_var rfl) (ev_it 0 (ev_var rfl) (st_of ha8) rfl) fun H9 e9 => ?_
              have hld9 : H9 ld = some (.dK lk) := e9 _ _ (by rw [upd_ne nrd.symm]; exact e58 _ _ hld)
              refine ⟨_, DPut.k (k := Sum.inl e.seat) hld9 (sz_lt (by omega)), ?_⟩
              have ha10 : (upd H9 ld (.dK (putK lk (Sum.inl e.seat) (.ref a)))) a = some (.tup e.items) := by
                rw [upd_ne (ne_of (e9 _ _ ha8) hld9 fun q => nomatch q)]; exact e9 _ _ ha8
              have tup10 : ∀ b xs, H' b = some (.tup xs) → (upd H9 ld (.dK (putK lk (Sum.inl e.seat) (.ref a)))) b = some (.tup xs) := fun b xs z => by
                rw [upd_ne (ne_of z hld fun q => nomatch q)]
                refine e9 _ _ ?_
                rw [upd_ne (ne_of z hrl fun q => nomatch q)]
                exact e58 _ _ z
              refine s_ifAsg (v := .bl (sourcedE ((Run.eo r).take (i + 1)))) (et_test (ev_op (ev_it 3 (ev_var rfl) (st_of ha10) rfl) ev_c rv_notN)) (fun hb3 => ?_) (fun hb3 => ?_) fun H11 e11 => ?_
              · have : e.src.isSome = true := by
                  rw [srcV_non] at hb3
                  cases hs : e.src with
                  | none => rw [hs] at hb3; cases hb3
                  | some c => rfl
                rw [tk, sourced_snoc, this, Bool.or_true]
                exact ev_c
              · have : e.src.isSome = false := by
                  rw [srcV_non] at hb3
                  cases hs : e.src with
                  | none => rfl
                  | some c => rw [hs] at hb3; cases hb3
                rw [tk, sourced_snoc, this, Bool.or_false]
                rfl
              · refine ⟨⟨_, _, rfl⟩, ((((eH.trans e58).mut nrl).trans e9).mut hld0).trans e11, e11 _ _ ?_, putK lk (Sum.inl e.seat) (.ref a), e11 _ _ upd_same, Nat.le_trans (length_putK _ _ _) (by omega), fun s => ?_⟩
                · rw [upd_ne nrd]
                  refine e9 _ _ ?_
                  rw [upd_same, reasP_succ heo, List.map_append]
                  rfl
                · refine BefAt.ex ?_ e11
                  rw [tk, lastE_snoc, valV_put]
                  dsimp only
                  by_cases hse : e.seat = s
                  · subst hse
                    rw [if_pos rfl, if_pos rfl]
                    exact .inr ⟨a, e, rfl, rfl, ha10, hm⟩
                  · rw [if_neg hse, if_neg (fun z => hse (Sum.inl.inj z).symm)]
                    exact (hbef s).tup tup10
          · cases h
    · rintro σ' H' ⟨⟨x8, x9, rfl⟩, eH, hrl, lk, hld, hlk, hbef⟩
      rw [List.length_map] at hrl
      exact ⟨_, rfl, q rl H' nrl eH hrl⟩
end
end Lr
set_option Elab.async false
set_option linter.all false
set_option maxRecDepth 100000
set_option maxHeartbeats 4000000
namespace Lr
open PySem L2 Evl
/-! ### the owners in order -/
def srt (ns : List Int) : List Int := ns.mergeSort fun a b => decide (a ≤ b)
theorem srt_perm (ns : List Int) : (srt ns).Perm ns := List.mergeSort_perm _ _
theorem srt_le (ns : List Int) : (srt ns).Pairwise (· ≤ ·) := by
  have h := List.pairwise_mergeSort (le := fun (a b : Int) => decide (a ≤ b)) (fun a b c h1 h2 => by
    have h1 := of_decide_eq_true h1
    have h2 := of_decide_eq_true h2
    exact decide_eq_true (by omega)) (fun a b => by
    by_cases h : a ≤ b
    · rw [decide_eq_true h]; rfl
    · rw [decide_eq_true (show b ≤ a by omega), Bool.or_true]) ns
  exact h.imp fun z => of_decide_eq_true z
theorem srt_of {ns ms : List Int} (h : ms.Perm ns) (h2 : ms.Pairwise (· ≤ ·)) : ms = srt ns := PySem.W.ksm_same (h.trans (srt_perm ns).symm) h2 (srt_le ns)
theorem srt_perm_eq {ns ms : List Int} (h : ms.Perm ns) : srt ms = srt ns := srt_of ((srt_perm ms).trans h) (srt_le ms)
theorem srt_len (ns : List Int) : (srt ns).length = ns.length := (srt_perm ns).length_eq
abbrev keysJ (J : Jrn) : List Int := J.map (·.1)
/-! ### sizes -/
theorem look_mem {J : Jrn} (o : Int) : lookJ J o = [] ∨ ∃ j ∈ J, j.1 = o ∧ j.2 = lookJ J o := by
  unfold lookJ
  cases h : J.find? fun j => decide (j.1 = o) with
  | none => exact .inl rfl
  | some j => exact .inr ⟨j, List.mem_of_find?_eq_some h, of_decide_eq_true (List.find?_some (p := fun j : Int × List Run => decide (j.1 = o)) h), rfl⟩
theorem look_bnd {J : Jrn} (h : Bnd J) (o : Int) : (lookJ J o).length ≤ 8 ∧ ∀ r ∈ lookJ J o, r.length ≤ 100 := by
  rcases look_mem (J := J) o with e | ⟨j, hj, _, e⟩
  · rw [e]; exact ⟨Nat.zero_le _, fun r hr => (by cases hr)⟩
  · rw [← e]; exact h.rs j hj
theorem eo_bnd {J : Jrn} (h : Bnd J) (o : Int) : (eoJ J o).length ≤ 8 ∧ ∀ t, ((eoJ J o).getD t []).length ≤ 100 := by
  have hb := look_bnd h o
  refine ⟨by unfold eoJ; rw [List.length_map]; exact hb.1, fun t => ?_⟩
  unfold eoJ
  rw [List.getD_eq_getElem?_getD, List.getElem?_map]
  cases e : (lookJ J o)[t]? with
  | none => exact Nat.zero_le _
  | some r =>
    show (r.map (·.2)).length ≤ 100
    rw [List.length_map]
    exact hb.2 r (List.mem_of_getElem? e)
theorem rowAt_len (look : Int → List (List Eo)) (lack : List Int) (o : Int) (t : Nat) (run : List Eo) (k : Nat) : (rowAt look lack o t run k).length ≤ 1 := by
  unfold rowAt
  split
  · exact Nat.zero_le _
  · split
    · exact Nat.le_refl _
    · exact Nat.zero_le _
theorem gath_row (look : Int → List (List Eo)) (lack : List Int) (o : Int) (t : Nat) (run : List Eo) (k : Nat) : (gath k (rowAt look lack o t run)).length ≤ k := by
  have := gath_len (rowAt_len look lack o t run) k
  omega
theorem rowsRun_len {J : Jrn} (h : Bnd J) (lack : List Int) (o : Int) (t : Nat) : (rowsRun (eoJ J) lack o t ((eoJ J o).getD t [])).length ≤ 100 := by
  have := gath_row (eoJ J) lack o t ((eoJ J o).getD t []) ((eoJ J o).getD t []).length
  have := (eo_bnd h o).2 t
  unfold rowsRun
  omega
theorem rowsOf_len {J : Jrn} (h : Bnd J) (lack : List Int) (o : Int) : (rowsOf (eoJ J) lack o).length ≤ 800 := by
  have := gath_len (fun t => rowsRun_len h lack o t) (eoJ J o).length
  have := (eo_bnd h o).1
  unfold rowsOf
  omega
/-! ### rows in the heap -/
theorem RowsAt.ex {H H' : Hp} {a : Addr} {rs : List Row} (h : RowsAt H a rs) (e : Ex H H') : RowsAt H' a rs := by
  obtain ⟨vs, h1, h2⟩ := h
  exact ⟨vs, e _ _ h1, Paired.mono h2 fun _ _ z => z.ex e⟩
theorem RowAt.upd {H : Hp} {v : V} {r : Row} {a : Addr} {xs ys : List V} (h : RowAt H v r) (ha : H a = some (.lst xs)) : RowAt (upd H a (.lst ys)) v r := by
  obtain ⟨b, rfl, z⟩ := h
  exact ⟨b, rfl, by rw [upd_ne (ne_of z ha fun q => nomatch q)]; exact z⟩
theorem RowsAt.snoc {H : Hp} {a p : Addr} {vs : List V} {rs : List Row} {r : Row} (h1 : H a = some (.lst vs)) (h2 : Paired (RowAt H) vs rs) (hp : H p = some (.tup [.int r.1, .int (r.2.1 : Nat), .int (r.2.2.1 : Nat), .str r.2.2.2])) :
    RowsAt (upd H a (.lst (vs ++ [.ref p]))) a (rs ++ [r]) := by
  refine ⟨_, upd_same, Paired.snoc (Paired.mono h2 fun _ _ z => z.upd h1) (RowAt.upd ⟨p, rfl, hp⟩ h1)⟩
theorem q_call {sp : Sp} {ta : TA} {tz : TS} {D : Ends} {σ : L2.St} {H : Hp} {i : Nat} {vs : List V} (h : EvA ta σ H vs) (k : ∀ H1, Ex H H1 → sp vs H1 (fun v H2 => tz D (σ.set i (some v)) H2) E0) : tSeq (tAsg (tCall sp [] E0 ta) (gName i)) tz D σ H := by
  refine h H (Ex.refl _) _ fun H1 e1 => ?_
  rw [List.append_nil]
  exact k H1 e1
/-- for i, x in enumerate(a new list) -/
theorem s_forEnumN {K : PySem.W.Frag} {te : TE} {tb : TS} {D : Ends} {σ : L2.St} {H : Hp} {xs : List V} {i1 i2 : Nat} (h : EvL te σ H xs) (Pv : Addr → Nat → L2.St → Hp → Prop) (h0 : ∀ p H1, H p = none → Ex H H1 → H1 p = some (.lst xs) → Pv p 0 σ H1)
    (hl : ∀ p i σ' H', i ≤ xs.length → Pv p i σ' H' → SqL K H' p xs)
    (hs : ∀ p i x σ' H' H2, xs[i]? = some x → Pv p i σ' H' → Ex H' H2 → tb { D with nx := Pv p (i + 1), ct := Pv p (i + 1), bk := D.nx } ((σ'.set i1 (some (.int (i : Nat)))).set i2 (some x)) H2) (hd : ∀ p σ' H', Pv p xs.length σ' H' → D.nx σ' H') :
    tFor (iEnum K (tCons te tNil)) (gTup K 2 (gCons (gName i1) (gCons (gName i2) gNil))) tb D σ H := by
  refine h H (Ex.refl _) _ fun a H1 ha e1 hx => ?_
  refine ⟨a, xs, rfl, sq_of hx, ?_⟩
  refine for_n xs.length (Pv a) (h0 a H1 ha e1 hx) (fun i σ H hi p => ⟨xs, xs[i], hl a i σ H (Nat.le_of_lt hi) p, List.getElem?_eq_getElem hi⟩) (fun σ H p => ⟨xs, hl a _ σ H (Nat.le_refl _) p, Nat.le_refl _⟩) (fun i x σ' H2 H3 hi p y => ?_) (hd a)
  obtain ⟨T, x', rfl, hT, rfl, hy⟩ := y
  have hx' : xs[i]? = some x' := hy xs (hl a i σ' H2 (Nat.le_of_lt hi) p)
  refine ⟨T, [.int (i : Nat), x'], rfl, st_of upd_same, rfl, _, _, rfl, _, _, rfl, rfl, ?_⟩
  exact hs a i x' σ' H2 _ hx' p (Ex.new hT)
def rListK : List V → Hp → VK → Prop := fun xs H Q => ∃ (a : Addr) (kvs : List (L2.Key × V)), xs = [.ref a] ∧ Rd H a (.dK kvs) ∧ ∀ p, H p = none → Q (.ref p) (upd H p (.lst (kvs.map fun kv => kV kv.1)))
theorem kV_keys {H : Hp} {kvs : List (L2.Key × V)} {J : Jrn} (h : Paired (fun (kv : L2.Key × V) (j : Int × List Run) => kv.1 = Sum.inl j.1 ∧ RunsAt H kv.2 j.2) kvs J) : (kvs.map fun kv => kV kv.1) = (keysJ J).map V.int := by
  induction h with
  | nil => rfl
  | cons r _ ih => rw [List.map_cons, ih, r.1]; rfl
/-- list(journals) -/
theorem el_listK {σ : L2.St} {H : Hp} {te : TE} {d : Addr} {J : Jrn} (he : Ev te σ H (.ref d)) (hJ : JrnS H d J) : EvL (tCB rListK (tCons te tNil)) σ H ((keysJ J).map V.int) := by
  refine el_cb (ea_cons he ea_nil) fun H1 e1 Q k => ?_
  obtain ⟨kvs, h1, h2⟩ := hJ.ex e1
  refine ⟨d, kvs, rfl, .inl h1, fun p hp => k p _ hp (Ex.new hp) ?_⟩
  rw [upd_same, kV_keys h2]
/-- sorted(list(journals)) -/
theorem el_sortedL {K : PySem.W.Frag} {σ : L2.St} {H : Hp} {te : TE} {ns : List Int} (he : EvL te σ H (ns.map V.int)) (hn : ns.length < 64) : EvL (tCB (rSorted K) (tCons te tNil)) σ H ((srt ns).map V.int) := by
  intro H1 e1 Q k
  refine he H1 e1 _ fun a H2 ha e2 hx => ?_
  refine ⟨a, ns, rfl, sq_of hx, hn, fun ns' p hp hs hn' => ?_⟩
  have := srt_of hp hs
  subst this
  exact k p _ (fresh_back e2 hn') (e2.trans (Ex.new hn')) upd_same
def rSortedDI : List V → Hp → VK → Prop := fun xs H Q => ∃ (a : Addr) (kvs : List (L2.Key × V)) (ks : List Int), xs = [.ref a] ∧ Rd H a (.dK kvs) ∧ kvs.map (·.1) = ks.map Sum.inl ∧ ks.length < 64 ∧
    ∀ (ys : List Int) (p : Addr), ys.Perm ks → ys.Pairwise (· ≤ ·) → H p = none → Q (.ref p) (upd H p (.lst (ys.map V.int)))
/-- sorted(journals) -/
theorem el_sortedD {σ : L2.St} {H : Hp} {te : TE} {d : Addr} {J : Jrn} (he : Ev te σ H (.ref d)) (hJ : JrnS H d J) (hn : J.length < 64) : EvL (tCB rSortedDI (tCons te tNil)) σ H ((srt (keysJ J)).map V.int) := by
  refine el_cb (ea_cons he ea_nil) fun H1 e1 Q k => ?_
  obtain ⟨kvs, h1, h2⟩ := hJ.ex e1
  refine ⟨d, kvs, keysJ J, rfl, .inl h1, kvs_keys h2, by rw [List.length_map]; exact hn, fun ys p hp hs hq => ?_⟩
  have := srt_of hp hs
  subst this
  exact k p _ hq (Ex.new hq) upd_same
section
variable {P : Program} {w : World} {K : PySem.W.Frag} {mg : Str → Option Value} {base : Heap} {aM aS aO aB aE : Addr} {f : Addr} {fd : FuncData}
theorem v_runs {H : Hp} {o : Int} {v p : V} {fa : Addr} {r : Run} {lack : List Int} {look : Int → List (List Eo)} (h : RunAt H v r) (hl : r.length ≤ 100) (hp : PartAt K H p lack) (hf : FactsAt H fa look) :
    SpL (spRuns K) [.int o, v, p, .ref fa] H ((reasP look lack o (Run.eo r) r.length).map reasV) := fun H1 e1 Q k E => ⟨o, v, p, fa, r, lack, look, rfl, h.ex e1, hl, hp.ex e1, hf.ex e1, k⟩
def spWrong (K : PySem.W.Frag) : Sp := fun vs H Q _ => ∃ d p J lack, vs = [.ref d, p] ∧ JrnS H d J ∧ Bnd J ∧ PartAt K H p lack ∧ ∀ l H', H l = none → Ex H H' → RowsAt H' l (rows (eoJ J) lack (srt (keysJ J))) → Q (.ref l) H'
theorem sc_wrong_entries : FnScope ["journals", "partial", "facts", "found", "owner", "place", "run", "index", "reason"] ["journals", "partial"] (defScope (top 16)) := ⟨rfl, rfl, rfl, by decide +kernel, rfl, by decide +kernel, by decide +kernel⟩
/-- a def with one keyword-only parameter, its default the object at aE -/
abbrev FnK (K : PySem.W.Frag) (x : Str) (st : Stmt) (aE f : Addr) (fd : FuncData) : Prop := FunD K x x (defArgs st) (defBody st) (defScope st) [] [("partial", .ref aE)] f fd
theorem ok_wrong_entries {fe fr : Addr} {fde fdr : FuncData} (F : FnK K "wrong_entries" (top 16) aE f fd) (T : Tx K w mg aM aS aO aB) (cstated_facts : Cal P w K mg base "stated_facts" 3 ["journals"] spFacts fe fde)
    (crun_reasons : Cal P w K mg base "run_reasons" 4 ["owner", "run", "partial", "facts"] (spRuns K) fr fdr) : FnOk P w K mg base CX0 5 f fd ["journals", "partial"] (spWrong K) := by
  refine F.ok sc_wrong_entries (fun vs H Q E h => ?_) (fun cdv A outer s H vs Q E hr h => ?_)
  · obtain ⟨d, p, J, lack, rfl, _⟩ := h
    rfl
  · obtain ⟨d, p, J, lack, rfl, hJ, hB, hp, q⟩ := h
    have hu := hu_of hr
    refine ⟨_, PSs.nox (pss_cons (ps_set (i := 2) sc_wrong_entries.nd rfl (Or.inl rfl) (pe_cal cstated_facts (hr.mono (by decide)) (by rfl) (pa_cons (pv 0) pa_nil)))
      (pss_cons (ps_set (i := 3) sc_wrong_entries.nd rfl (Or.inl rfl) (pe_lst pa_nil))
      (pss_cons (ps_for PassesOwn.never rfl (pi_list (pe_callB cr_sorted (by rfl) T.sorted (by decide +kernel) (pa_cons (pe_callTy (call_listD rfl) (by rfl) T.list (by decide +kernel) (pa_cons (pv 0) pa_nil)) pa_nil))) (pg_name (i := 4) sc_wrong_entries.nd rfl (Or.inl rfl))
        (pss_one (ps_for PassesOwn.never rfl (pi_enum (by rfl) T.enumerate (pa_cons (pe_dget hu (pv 0) (pv 4) (fun _ _ => rfl)) pa_nil)) (pg_tup rfl (pgs_cons (pg_name (i := 5) sc_wrong_entries.nd rfl (Or.inl rfl)) (pgs_cons (pg_name (i := 6) sc_wrong_entries.nd rfl (Or.inl rfl)) pgs_nil)))
          (pss_one (ps_for PassesOwn.never rfl (pi_enum (by rfl) T.enumerate (pa_cons (pe_cal crun_reasons (hr.mono (by decide)) (by rfl) (pa_cons (pv 4) (pa_cons (pv 6) (pa_cons (pv 1) (pa_cons (pv 2) pa_nil))))) pa_nil)) (pg_tup rfl (pgs_cons (pg_name (i := 7) sc_wrong_entries.nd rfl (Or.inl rfl)) (pgs_cons (pg_name (i := 8) sc_wrong_entries.nd rfl (Or.inl rfl)) pgs_nil)))
            (pss_one (ps_if (pt_cmpR op_notN1 (pv 8) pe_non (nomark _))
              (pss_one (ps_expr (pe_bm PySem.F.plainAttrs_list PySem.F.slot_list_append PySem.F.type_list_append mt_append (pv 3) (pa_cons (pe_tup (pa_cons (pv 4) (pa_cons (pv 5) (pa_cons (pv 7) (pa_cons (pv 8) pa_nil))))) pa_nil))))
              pss_nil)))))))
      (pss_one (ps_ret (pv 3)))))), ?_⟩
    refine q_call (ea_cons (ev_var rfl) ea_nil) fun H1 e1 => ?_
    refine ⟨d, J, rfl, hJ.ex e1, hB, fun fa H2 nfa e2 hf => ?_⟩
    have e12 := e1.trans e2
    refine q_asgL (el_lst ea_nil (by decide)) fun fl H3 nfl e3 hfl => ?_
    have e13 := e12.trans e3
    have hfl0 : H fl = none := fresh_back e12 nfl
    have hkl : (keysJ J).length < 64 := by rw [List.length_map]; have := hB.n; omega
    obtain ⟨kvs, hd, hk⟩ := id hJ
    refine q_forNLn (xs := (srt (keysJ J)).map V.int) (el_sortedL (el_listK (ev_var rfl) (hJ.ex e13)) hkl)
      (fun u i σ' H' => (∃ x4 x5 x6 x7 x8, σ' = [some (.ref d), some p, some (.ref fa), some (.ref fl), x4, x5, x6, x7, x8]) ∧ Ex H H' ∧ FactsAt H' fa (eoJ J) ∧ (H' u = some (.lst ((srt (keysJ J)).map V.int)) ∧ u ≠ fl) ∧ RowsAt H' fl (gath i fun i => rowsOf (eoJ J) lack ((srt (keysJ J)).getD i 0)))
      (fun u H4 nu e4 hu4 => ⟨⟨_, _, _, _, _, rfl⟩, e13.trans e4, (hf.ex e3).ex e4, ⟨hu4, (ne_of_none hfl nu).symm⟩, [], e4 _ _ hfl, .nil⟩) (fun u i σ' H' _ h => sq_of h.2.2.2.1.1) ?_ ?_
    · rintro u i x σ' H' hx ⟨⟨x4, x5, x6, x7, x8, rfl⟩, eH, hfH, hu4, hrows⟩
      obtain ⟨o, ho, rfl⟩ : ∃ o, (srt (keysJ J))[i]? = some o ∧ V.int o = x := by
        rw [List.getElem?_map] at hx
        cases e : (srt (keysJ J))[i]? with
        | none => rw [e] at hx; cases hx
        | some o => rw [e] at hx; exact ⟨o, rfl, Option.some.inj hx⟩
      have hi8 : i < 8 := by
        have h1 := (List.getElem?_eq_some_iff.mp ho).1
        rw [srt_len, List.length_map] at h1
        have := hB.n
        omega
      have hmo : o ∈ keysJ J := (srt_perm _).mem_iff.mp (List.mem_of_getElem? ho)
      have hgo : (srt (keysJ J)).getD i 0 = o := by rw [List.getD_eq_getElem?_getD, ho]; rfl
      rcases kvs_val hk o with ⟨_, hno, _⟩ | ⟨rv, hval, hruns, _⟩
      · obtain ⟨j, hj, e⟩ := List.mem_map.mp hmo
        exact absurd e (hno j hj)
      obtain ⟨ra, rvs, rfl, hra, hrp⟩ := hruns
      have hlb := look_bnd hB o
      have hrl' : rvs.length = (lookJ J o).length := hrp.length
      have hbase : (gath i fun i => rowsOf (eoJ J) lack ((srt (keysJ J)).getD i 0)).length ≤ 6400 := by
        have := gath_len (f := fun i => rowsOf (eoJ J) lack ((srt (keysJ J)).getD i 0)) (fun i => rowsOf_len hB lack _) i
        omega
      refine s_forEnum (xs := rvs) (ea_cons (ev_dget (ev_var rfl) (ev_var rfl) fun H4 e4 => (by rw [← hval]; exact DGet.k (k := Sum.inl o) (e4 _ _ (eH _ _ hd)))) ea_nil) (sq_of (eH _ _ hra))
        (fun t σ' H' => (∃ x5 x6 x7 x8, σ' = [some (.ref d), some p, some (.ref fa), some (.ref fl), some (.int o), x5, x6, x7, x8]) ∧ Ex H H' ∧ FactsAt H' fa (eoJ J) ∧ (H' u = some (.lst ((srt (keysJ J)).map V.int)) ∧ u ≠ fl) ∧
          RowsAt H' fl ((gath i fun i => rowsOf (eoJ J) lack ((srt (keysJ J)).getD i 0)) ++ gath t fun t => rowsRun (eoJ J) lack o t ((eoJ J o).getD t [])))
        (fun H4 e4 => ⟨⟨_, _, _, _, rfl⟩, eH.trans e4, hfH.ex e4, ⟨e4 _ _ hu4.1, hu4.2⟩, by rw [gath_zero, List.append_nil]; exact hrows.ex e4⟩) (fun t σ' H' _ h => sq_of (h.2.1 _ _ hra)) ?_ ?_
      · rintro t rx σ' H4 H5 hrx ⟨⟨x5, x6, x7, x8, rfl⟩, eH, hfH, hu4, hrows⟩ e5
        obtain ⟨r, hr1, hrun⟩ := paired_at hrp hrx
        have ht8 : t < 8 := by
          have := (List.getElem?_eq_some_iff.mp hr1).1
          have := hlb.1
          omega
        have hr100 := hlb.2 r (List.mem_of_getElem? hr1)
        have heo : (eoJ J o).getD t [] = Run.eo r := by
          unfold eoJ
          rw [List.getD_eq_getElem?_getD, List.getElem?_map, hr1]
          rfl
        have e05 := eH.trans e5
        have hbase2 : (gath t fun t => rowsRun (eoJ J) lack o t ((eoJ J o).getD t [])).length ≤ 800 := by
          have := gath_len (f := fun t => rowsRun (eoJ J) lack o t ((eoJ J o).getD t [])) (fun t => rowsRun_len hB lack o t) t
          omega
        refine s_forEnumN (xs := (reasP (eoJ J) lack o (Run.eo r) r.length).map reasV) (el_call (ea_cons (ev_var rfl) (ea_cons (ev_var rfl) (ea_cons (ev_var rfl) (ea_cons (ev_var rfl) ea_nil)))) (by rw [List.append_nil]; exact v_runs (hrun.ex e05) hr100 (hp.ex e05) (hfH.ex e5)))
          (fun rl k σ' H' => (∃ x7 x8, σ' = [some (.ref d), some p, some (.ref fa), some (.ref fl), some (.int o), some (.int (t : Nat)), some rx, x7, x8]) ∧ Ex H H' ∧ FactsAt H' fa (eoJ J) ∧ (H' u = some (.lst ((srt (keysJ J)).map V.int)) ∧ u ≠ fl) ∧
            (H' rl = some (.lst ((reasP (eoJ J) lack o (Run.eo r) r.length).map reasV)) ∧ rl ≠ fl) ∧
            RowsAt H' fl (((gath i fun i => rowsOf (eoJ J) lack ((srt (keysJ J)).getD i 0)) ++ gath t fun t => rowsRun (eoJ J) lack o t ((eoJ J o).getD t [])) ++ gath k (rowAt (eoJ J) lack o t (Run.eo r))))
          (fun rl H6 nrl e6 hrl => ⟨⟨_, _, rfl⟩, e05.trans e6, (hfH.ex e5).ex e6, ⟨e6 _ _ (e5 _ _ hu4.1), hu4.2⟩, ⟨hrl, (ne_of_none (e5 _ _ hrows.choose_spec.1) nrl).symm⟩, by rw [gath_zero, List.append_nil]; exact (hrows.ex e5).ex e6⟩)
          (fun rl k σ' H' _ h => sq_of h.2.2.2.2.1.1) ?_ ?_
        · rintro rl k y σ' H6 H7 hy ⟨⟨x7, x8, rfl⟩, eH, hfH, hu4, hrl, hrows⟩ e7
          have hk1 : k < r.length := by
            have := (List.getElem?_eq_some_iff.mp hy).1
            rwa [List.length_map, reasP_len] at this
          have hk2 : (Run.eo r)[k]? = some r[k].2 := by
            show (r.map (·.2))[k]? = _
            rw [List.getElem?_map, List.getElem?_eq_getElem hk1]
            rfl
          have hy2 : y = reasV (reasonE (eoJ J) lack o ((Run.eo r).take k) r[k].2) := by
            unfold reasP at hy
            rw [List.map_map, List.getElem?_map, List.getElem?_range hk1] at hy
            have := Option.some.inj hy
            rw [← this]
            show reasV (reasonE _ _ _ _ ((Run.eo r).getD k none)) = _
            rw [List.getD_eq_getElem?_getD, hk2]
            rfl
          have hrw : rowAt (eoJ J) lack o t (Run.eo r) k = match reasonE (eoJ J) lack o ((Run.eo r).take k) r[k].2 with
            | some z => [(o, t, k, z)]
            | none => [] := by
            unfold rowAt
            rw [hk2]
            all_goals rfl
          cases hre : reasonE (eoJ J) lack o ((Run.eo r).take k) r[k].2 with
          | none =>
            rw [hre] at hy2 hrw
            subst hy2
            refine s_when (b := false) (et_is (et_test (ev_op (ev_var rfl) ev_c rv_notN)) rfl) (fun z => absurd z (by decide)) (fun _ H8 e8 => ?_)
            have e78 := e7.trans e8
            refine ⟨⟨_, _, rfl⟩, eH.trans e78, hfH.ex e78, ⟨e78 _ _ hu4.1, hu4.2⟩, ⟨e78 _ _ hrl.1, hrl.2⟩, ?_⟩
            rw [gath_succ, hrw, List.append_nil]
            exact hrows.ex e78
          | some z =>
            rw [hre] at hy2 hrw
            subst hy2
            refine s_when (b := true) (et_is (et_test (ev_op (ev_var rfl) ev_c rv_notN)) rfl) (fun _ H8 e8 => ?_) (fun z => absurd z (by decide))
            have e78 := e7.trans e8
            obtain ⟨vs, hvs, hpr⟩ := hrows.ex e78
            have hvl : vs.length < 100000 := by
              have h1 := hpr.length
              have h2 := gath_row (eoJ J) lack o t (Run.eo r) k
              rw [List.length_append, List.length_append] at h1
              omega
            refine s_appU (l := fl) (xs := vs) hvs (ev_var rfl) (eu_tup (ea_cons (ev_var rfl) (ea_cons (ev_var rfl) (ea_cons (ev_var rfl) (ea_cons (ev_var rfl) ea_nil)))) (by show 4 ≤ 100000; decide)) hvl fun tp H9 ntp e9 htp => ?_
            have e79 := e78.trans e9
            obtain ⟨kv2, hf1, hf2⟩ := hfH.ex e79
            refine ⟨⟨_, _, rfl⟩, (eH.trans e79).mut hfl0, ⟨kv2, by rw [upd_ne (ne_of hf1 (e9 _ _ hvs) fun q => nomatch q)]; exact hf1, hf2⟩, ⟨by rw [upd_ne hu4.2]; exact e79 _ _ hu4.1, hu4.2⟩, ⟨by rw [upd_ne hrl.2]; exact e79 _ _ hrl.1, hrl.2⟩, ?_⟩
            rw [gath_succ, hrw, ← List.append_assoc]
            exact RowsAt.snoc (r := (o, t, k, z)) (e9 _ _ hvs) (Paired.mono hpr fun _ _ z => z.ex e9) htp
        · rintro rl σ' H6 ⟨⟨x7, x8, rfl⟩, eH, hfH, hu4, hrl, hrows⟩
          refine ⟨⟨_, _, _, _, rfl⟩, eH, hfH, hu4, ?_⟩
          rw [List.length_map, reasP_len] at hrows
          rw [gath_succ, heo, ← List.append_assoc]
          unfold rowsRun
          rw [show (Run.eo r).length = r.length from List.length_map _]
          exact hrows
      · rintro σ' H4 ⟨⟨x5, x6, x7, x8, rfl⟩, eH, hfH, hu4, hrows⟩
        refine ⟨⟨_, _, _, _, _, rfl⟩, eH, hfH, hu4, ?_⟩
        rw [gath_succ, hgo]
        unfold rowsOf
        rw [show (eoJ J o).length = rvs.length by unfold eoJ; rw [List.length_map, hrl']]
        exact hrows
    · rintro u σ' H' ⟨⟨x4, x5, x6, x7, x8, rfl⟩, eH, hfH, hu4, hrows⟩
      refine ⟨_, rfl, q fl H' hfl0 eH ?_⟩
      rw [List.length_map] at hrows
      exact hrows
end
end Lr
set_option Elab.async false
set_option linter.all false
set_option maxRecDepth 100000
set_option maxHeartbeats 4000000
namespace Lr
open PySem L2 Evl
/-- a def called by one place and one keyword, or by one place alone -/
structure CalK (P : Program) (w : World) (K : PySem.W.Frag) (mg : Str → Option Value) (base : Heap) (x : Str) (k : Nat) (sp : Sp) (aE f : Addr) (fd : FuncData) : Prop where
  ok : FnOk P w K mg base CX0 k f fd ["journals", "partial"] sp
  mg : mg x = some (.ref f)
  kp : PySem.W.keepIn K (.ref f) = true
  kb : KBn K fd ["journals", "partial"] 1 ["partial"] (fun us ws => us ++ ws) (fun vs zs => vs ++ zs)
  db : Binds K fd ["journals", "partial"] [.ref aE]
theorem kbn_of {K : PySem.W.Frag} {x : Str} {st : Stmt} {aE f : Addr} {fd : FuncData} (F : FnK K x st aE f fd)
    (h : ∀ (kV doc pm : Value) (an : Option Addr) (cdv ct u v : Value), bindArgs (PySem.W.fnOf x x (defArgs st) (defBody st) (defScope st) .none kV doc pm an cdv ct) ⟨[u], [(("partial" : Str), v)]⟩ = pure [(("journals" : Str), u), (("partial" : Str), v)]) :
    KBn K fd ["journals", "partial"] 1 ["partial"] (fun us ws => us ++ ws) (fun vs zs => vs ++ zs) := by
  refine ⟨fun s us ws hK h1 h2 => ?_, fun r1 r2 => r1.append r2⟩
  obtain ⟨oc, od, dV, kV, doc, pm, an, cdv, ct, osl, rfl, _, _, hdv, _⟩ := F.ex
  rcases hdv with ⟨_, rfl⟩ | ⟨h, _⟩
  · match us, ws, h1, h2 with
    | [u], [v], _, _ => exact BindsTo.of_eq (h kV doc pm an cdv ct u v)
  · exact absurd rfl h
section
variable {X : Cx} {x : Str} {k : Nat} {sp : Sp} {aE f : Addr} {fd : FuncData} {e : Expr} {kws : List Keyword} {p pos : Pos} {t tk : TA}
theorem pe_calN (c : CalK X.prog X.w X.K X.mg X.base x k sp aE f fd) (hr : Room k X.A) (hg : Gl X x) (ha : PA X [e] t) (hkw : PK X kws tk) (hall : (backToKw pos (keywordEach kws X.env)).all (·.1.isSome) = true := by rfl) (hks : (backToKw pos (keywordEach kws X.env)).filterMap (·.1) = [("partial" : Str)] := by rfl)
    (hdb : (x == ("__debug__" : Str)) = false := by decide) (he : starEach [e] X.env = (false, eval e X.env) :: starEach [] X.env := by rfl)
    (hpl : ((backTo pos (starEach [e] X.env)).any (·.1) || (backToKw pos (keywordEach kws X.env)).any (·.1.isNone)) = false := by rfl) :
    PE X (.Call (.Name x p) [e] kws pos) (tCallN 1 1 sp (fun vs zs => vs ++ zs) E0 t tk) :=
  pe_callN c.ok hr hg c.mg c.kp c.kb pass0 ha hkw hall hks hdb he hpl
theorem pe_calD (c : CalK X.prog X.w X.K X.mg X.base x k sp aE f fd) (hr : Room k X.A) (hg : Gl X x) (ha : PA X [e] t) (hdb : (x == ("__debug__" : Str)) = false := by decide) (he : starEach [e] X.env = (false, eval e X.env) :: starEach [] X.env := by rfl)
    (hpl : (backTo pos (starEach [] X.env)).any (·.1) = false := by rfl) : PE X (.Call (.Name x p) [e] [] pos) (tCall sp [.ref aE] E0 t) :=
  pe_call c.ok hr hg c.mg c.kp c.db (.cons rfl .nil) pass0 ha hdb he hpl
end
section
variable {P : Program} {w : World} {K : PySem.W.Frag} {mg : Str → Option Value} {base : Heap} {aM aS aO aB aE : Addr} {f : Addr} {fd : FuncData}
def spFirst (K : PySem.W.Frag) : Sp := fun vs H Q _ => ∃ d p J lack, vs = [.ref d, p] ∧ JrnS H d J ∧ Bnd J ∧ PartAt K H p lack ∧
  ∀ v H', Ex H H' → ((rows (eoJ J) lack (srt (keysJ J)) = [] ∧ v = .non) ∨ ∃ r rs, rows (eoJ J) lack (srt (keysJ J)) = r :: rs ∧ RowAt H' v r) → Q v H'
theorem sc_first_wrong : FnScope ["journals", "partial", "wrong"] ["journals", "partial"] (defScope (top 17)) := ⟨rfl, rfl, rfl, by decide +kernel, rfl, by decide +kernel, by decide +kernel⟩
theorem ok_first_wrong {fw aF : Addr} {fdw : FuncData} (F : FnK K "first_wrong" (top 17) aF f fd) (T : Tx K w mg aM aS aO aB) (cwrong_entries : CalK P w K mg base "wrong_entries" 5 (spWrong K) aE fw fdw) :
    FnOk P w K mg base CX0 6 f fd ["journals", "partial"] (spFirst K) := by
  refine F.ok sc_first_wrong (fun vs H Q E h => ?_) (fun cdv A outer s H vs Q E hr h => ?_)
  · obtain ⟨d, p, J, lack, rfl, _⟩ := h
    rfl
  · obtain ⟨d, p, J, lack, rfl, hJ, hB, hp, q⟩ := h
    have hu := hu_of hr
    refine ⟨_, PSs.nox (pss_cons (ps_set (i := 2) sc_first_wrong.nd rfl (Or.inl rfl) (pe_calN cwrong_entries (hr.mono (by decide)) (by rfl) (pa_cons (pv 0) pa_nil) (pk_cons (pv 1) pk_nil)))
      (pss_one (ps_ret (pe_ifExp (pt_truth (pv 2) (by intro _; rfl)) (pe_ix ix_list (pv 2) pe_int (fun _ _ => rfl)) pe_non)))), ?_⟩
    refine ⟨.ref d, rfl, p, rfl, rfl, rfl, d, p, J, lack, rfl, hJ, hB, hp, fun l H1 nl e1 hrows => ?_⟩
    obtain ⟨vs, hvs, hpr⟩ := hrows
    refine ⟨.ref l, rfl, _, .inl ⟨vs, sq_of hvs, rfl⟩, ?_⟩
    revert hpr
    generalize hR : rows (eoJ J) lack (srt (keysJ J)) = R
    intro hpr
    cases hpr with
    | nil => exact q .non H1 e1 (.inl ⟨hR, rfl⟩)
    | cons h t =>
      refine ⟨.ref l, rfl, l, _, 0, _, rfl, rfl, sq_of hvs, atI_nat (j := 0) rfl, ?_⟩
      exact q _ H1 e1 (.inr ⟨_, _, hR, h⟩)
end
end Lr
set_option Elab.async false
set_option linter.all false
set_option maxRecDepth 100000
set_option maxHeartbeats 4000000
namespace Lr
open PySem L2 Evl
section
variable {P : Program} {w : World} {K : PySem.W.Frag} {mg : Str → Option Value} {base : Heap} {aM aS aO aB aE : Addr} {f : Addr} {fd : FuncData}
/-! ### _law_whole -/
def spLWhole : Sp := fun vs H Q _ => ∃ x, vs = [x] ∧ ItemOk H x ∧ ∀ H', Ex H H' → Q (.bl (wholeV x)) H'
theorem v_lwhole {H : Hp} {x : V} (h : ItemOk H x) : SpV spLWhole [x] H (.bl (wholeV x)) := fun H1 e Q k E => ⟨x, rfl, h.stay fun b xs z => e _ _ z, k⟩
theorem sc_law_whole : FnScope ["_law_number"] ["_law_number"] (defScope (top 23)) := ⟨rfl, rfl, rfl, by decide +kernel, rfl, by decide +kernel, by decide +kernel⟩
theorem ok_law_whole (F : FnP K "_law_whole" (top 23) f fd) (T : Tx K w mg aM aS aO aB) : FnOk P w K mg base CX0 1 f fd ["_law_number"] spLWhole := by
  refine F.ok sc_law_whole (fun vs H Q E h => ?_) (fun cdv A outer s H vs Q E hr h => ?_)
  · obtain ⟨x, rfl, _⟩ := h
    rfl
  · obtain ⟨x, rfl, hx, q⟩ := h
    refine ⟨_, PSs.nox (pss_one (ps_ret (pe_and (pe_isi (n := "int") (by rfl) T.isinstance (by rfl) T.int (by decide +kernel) (pv 0)) (pe_and (pe_not (pe_isi (n := "bool") (by rfl) T.isinstance (by rfl) T.bool (by decide +kernel) (pv 0))) (pe_one (pe_cmpR op_ge (pv 0) pe_int (nomark _))))))), ?_⟩
    rcases item_whole hx with ⟨i, rfl⟩ | ⟨hb, e⟩
    · exact s_ret (ev_andV (ev_isB (ev_var rfl) fun _ _ => isB_int k_int_int) fun _ => ev_andV (ev_notV (ev_isB (ev_var rfl) fun _ _ => isB_int k_int_bool)) fun _ => ev_op (ev_var rfl) ev_c rv_I0) fun H1 e1 => q H1 e1
    · refine s_ret (ev_andV (b := false) (ev_isB (ev_var rfl) hb) fun z => absurd z (by decide)) fun H1 e1 => ?_
      have := q H1 e1
      rw [e] at this
      exact this
/-! ### _law_formed -/
theorem sc_law_formed : FnScope ["_law_entry_here"] ["_law_entry_here"] (defScope (top 24)) := ⟨rfl, rfl, rfl, by decide +kernel, rfl, by decide +kernel, by decide +kernel⟩
theorem ev_niL {σ : L2.St} {H : Hp} {ta tb : TE} {x : V} {xs : List V} (ha : Ev ta σ H x) (hb : EvL tb σ H xs) (hx : flatV x = true) (hf : xs.all flatV = true) : Ev (tOp (rIn K true) ta tb) σ H (.bl (!inV x xs)) :=
  ev_opL ha hb fun p H1 h1 e1 => rv_niL (sq_of h1) hx hf
theorem el_marks {σ : L2.St} {H : Hp} : EvL (tLst (tCons (tC (.str "alive")) (tCons (tC (.str "suspect")) (tCons (tC (.str "dead")) (tCons (tC (.str "left")) tNil))))) σ H marksV :=
  el_lst (ea_cons ev_c (ea_cons ev_c (ea_cons ev_c (ea_cons ev_c ea_nil)))) (by decide)
theorem ok_law_formed {fw : Addr} {fdw : FuncData} (F : FnP K "_law_formed" (top 24) f fd) (T : Tx K w mg aM aS aO aB) (c_law_whole : Cal P w K mg base "_law_whole" 1 ["_law_number"] spLWhole fw fdw) :
    FnOk P w K mg base CX0 2 f fd ["_law_entry_here"] spFormed := by
  refine F.ok sc_law_formed (fun vs H Q E h => ?_) (fun cdv A outer s H vs Q E hr h => ?_)
  · obtain ⟨v, o, rfl, _⟩ := h
    rfl
  · obtain ⟨v, o, rfl, hv, q⟩ := h
    refine ⟨_, PSs.nox (pss_cons (ps_if (PW.pt (pw_or (pt_not (pt_val (pe_isi (n := "tuple") (by rfl) T.isinstance (by rfl) T.tuple (by decide +kernel) (pv 0)))) (pw_or1 (pt_cmpR op_ne (pe_callB call_len_seq (by rfl) T.len PySem.boot_len (pa_cons (pv 0) pa_nil)) pe_int (nomark _)))))
        (pss_one (ps_ret pe_bl))
        pss_nil)
      (pss_cons (ps_if (PW.pt (pw_or (pt_not (pt_val (pe_cal c_law_whole (hr.mono (by decide)) (by rfl) (pa_cons (pe_ix ix_tup (pv 0) pe_int (fun _ _ => rfl)) pa_nil)))) (pw_or1 (pt_not (pt_val (pe_cal c_law_whole (hr.mono (by decide)) (by rfl) (pa_cons (pe_ix ix_tup (pv 0) pe_int (fun _ _ => rfl)) pa_nil)))))))
        (pss_one (ps_ret pe_bl))
        pss_nil)
      (pss_cons (ps_if (PW.pt (pw_or (pt_not (pt_val (pe_isi (n := "str") (by rfl) T.isinstance (by rfl) T.str (by decide +kernel) (pe_ix ix_tup (pv 0) pe_int (fun _ _ => rfl))))) (pw_or1 (pt_cmpR op_notIn_seq (pe_ix ix_tup (pv 0) pe_int (fun _ _ => rfl)) (pe_lst (pa_cons pe_str (pa_cons pe_str (pa_cons pe_str (pa_cons pe_str pa_nil))))) rfl))))
        (pss_one (ps_ret pe_bl))
        pss_nil)
      (pss_one (ps_ret (pe_or (pe_cmpR op_isN1 (pe_ix ix_tup (pv 0) pe_int (fun _ _ => rfl)) pe_non (nomark _)) (pe_one (pe_cal c_law_whole (hr.mono (by decide)) (by rfl) (pa_cons (pe_ix ix_tup (pv 0) pe_int (fun _ _ => rfl)) pa_nil))))))))), ?_⟩
    rcases hv with ⟨a, xs, rfl, ha, hi, rfl⟩ | ⟨rfl, hn⟩
    · by_cases hl : xs.length = 4
      · obtain ⟨x0, x1, x2, x3, rfl⟩ := len4 hl
        refine q_when (et_or (et_not (et_B (ev_isB (ev_var rfl) fun H1 e1 => isB_tup (e1 _ _ ha) k_tup_tuple))) fun _ => et_test (ev_neI (ev_lenU (ev_var rfl) (st_of ha)) ev_c)) (fun z => by simp at z) (fun _ H1 e1 => ?_)
        have ha1 := e1 _ _ ha
        have i0 : ItemOk H1 x0 := (hi x0 (by simp)).stay fun b xs z => e1 _ _ z
        have i1 : ItemOk H1 x1 := (hi x1 (by simp)).stay fun b xs z => e1 _ _ z
        have i2 : ItemOk H1 x2 := (hi x2 (by simp)).stay fun b xs z => e1 _ _ z
        have i3 : ItemOk H1 x3 := (hi x3 (by simp)).stay fun b xs z => e1 _ _ z
        have q' : ∀ b H', Ex H1 H' → b = (wholeV x0 && wholeV x1 && markV x2 && (decide (x3 = .non) || wholeV x3)) → Q (.bl b) H' := fun b H' e' hb => by
          rw [hb, ← formedL_isSome]
          exact q H' (e1.trans e')
        refine q_when (et_or (et_not (et_B (ev_cal (ea_cons (ev_it 0 (ev_var rfl) (st_of ha1) rfl) ea_nil) (v_lwhole i0)))) fun _ => et_not (et_B (ev_cal (ea_cons (ev_it 1 (ev_var rfl) (st_of ha1) rfl) ea_nil) (v_lwhole i1)))) (fun hb H2 e2 => ?_) (fun hb H2 e2 => ?_)
        · refine s_ret ev_c fun H3 e3 => q' false H3 (e2.trans e3) ?_
          revert hb
          cases wholeV x0 <;> cases wholeV x1 <;> simp
        · have hw : wholeV x0 = true ∧ wholeV x1 = true := by
            revert hb
            cases wholeV x0 <;> cases wholeV x1 <;> simp
          have ha2 := e2 _ _ ha1
          rcases item_mark (K := K) i2 with ⟨m, rfl⟩ | ⟨nb, em⟩
          · refine q_when (et_or (et_not (et_B (ev_isB (ev_it 2 (ev_var rfl) (st_of ha2) rfl) fun _ _ => isB_str k_str_str))) fun _ => et_test (ev_niL (ev_it 2 (ev_var rfl) (st_of ha2) rfl) el_marks rfl marks_flat)) (fun hb H3 e3 => ?_) (fun hb H3 e3 => ?_)
            · refine s_ret ev_c fun H4 e4 => q' false H4 ((e2.trans e3).trans e4) ?_
              have em : markV (.str m) = false := by
                show inV (.str m) marksV = false
                revert hb
                cases inV (.str m) marksV <;> simp
              rw [em]; simp
            · have em : markV (.str m) = true := by
                show inV (.str m) marksV = true
                revert hb
                cases inV (.str m) marksV <;> simp
              have i3' : ItemOk H3 x3 := i3.stay fun b xs z => (e2.trans e3) _ _ z
              have ha3 := e3 _ _ ha2
              refine s_ret (ev_orV (ev_op (ev_it 3 (ev_var rfl) (st_of ha3) rfl) ev_c rv_isN) fun _ => ev_cal (ea_cons (ev_it 3 (ev_var rfl) (st_of ha3) rfl) ea_nil) (v_lwhole i3')) fun H4 e4 => q' _ H4 ((e2.trans e3).trans e4) ?_
              rw [hw.1, hw.2, em]; simp
          · refine q_when (et_or (b := false) (et_not (et_B (ev_isB (ev_it 2 (ev_var rfl) (st_of ha2) rfl) fun H3 e3 => nb H3 (e2.trans e3)))) fun z => absurd z (by decide)) (fun hb H3 e3 => ?_) (fun z => absurd z (by decide))
            refine s_ret ev_c fun H4 e4 => q' false H4 ((e2.trans e3).trans e4) ?_
            rw [em]; simp
      · refine q_when (et_or (et_not (et_B (ev_isB (ev_var rfl) fun H1 e1 => isB_tup (e1 _ _ ha) k_tup_tuple))) fun _ => et_test (ev_neI (ev_lenU (ev_var rfl) (st_of ha)) ev_c)) (fun hb H1 e1 => ?_) (fun hb => ?_)
        · refine s_ret ev_c fun H2 e2 => ?_
          have q1 := q H2 (e1.trans e2)
          rw [formedL_len hl] at q1
          exact q1
        · exfalso
          have e : decide ((xs.length : Int) = 4) = false := decide_eq_false (by omega)
          rw [e] at hb
          exact absurd hb (by decide)
    · refine q_when (et_or (b := false) (et_not (et_B (ev_isB (ev_var rfl) (nontup_isB hn)))) fun z => absurd z (by decide)) (fun hb H1 e1 => ?_) (fun z => absurd z (by decide))
      exact s_ret ev_c fun H2 e2 => q H2 (e1.trans e2)
/-! ### _law_rank -/
theorem step_at {m mi : Str} {i : Nat} (hm : isMark m = true) (h : marksV[i]? = some (.str mi)) : mi = m ↔ step m = (i : Int) + 1 := by
  have c := isMark_cases hm
  match i, h with
  | 0, h =>
    have e : mi = mA := (V.str.inj (Option.some.inj h)).symm
    subst e
    rcases c with rfl | rfl | rfl | rfl
    · rw [step_A]; simp
    · rw [step_S]; exact ⟨fun z => absurd z.symm mS_ne_mA, fun z => by omega⟩
    · rw [step_D]; exact ⟨fun z => absurd z.symm mD_ne_mA, fun z => by omega⟩
    · rw [step_L]; exact ⟨fun z => absurd z.symm mL_ne_mA, fun z => by omega⟩
  | 1, h =>
    have e : mi = mS := (V.str.inj (Option.some.inj h)).symm
    subst e
    rcases c with rfl | rfl | rfl | rfl
    · rw [step_A]; exact ⟨fun z => absurd z mS_ne_mA, fun z => by omega⟩
    · rw [step_S]; simp
    · rw [step_D]; exact ⟨fun z => absurd z.symm mD_ne_mS, fun z => by omega⟩
    · rw [step_L]; exact ⟨fun z => absurd z.symm mL_ne_mS, fun z => by omega⟩
  | 2, h =>
    have e : mi = mD := (V.str.inj (Option.some.inj h)).symm
    subst e
    rcases c with rfl | rfl | rfl | rfl
    · rw [step_A]; exact ⟨fun z => absurd z mD_ne_mA, fun z => by omega⟩
    · rw [step_S]; exact ⟨fun z => absurd z mD_ne_mS, fun z => by omega⟩
    · rw [step_D]; simp
    · rw [step_L]; exact ⟨fun z => absurd z.symm mL_ne_mD, fun z => by omega⟩
  | 3, h =>
    have e : mi = mL := (V.str.inj (Option.some.inj h)).symm
    subst e
    rcases c with rfl | rfl | rfl | rfl
    · rw [step_A]; exact ⟨fun z => absurd z mL_ne_mA, fun z => by omega⟩
    · rw [step_S]; exact ⟨fun z => absurd z mL_ne_mS, fun z => by omega⟩
    · rw [step_D]; exact ⟨fun z => absurd z mL_ne_mD, fun z => by omega⟩
    · rw [step_L]; simp
  | n + 4, h => simp [marksV] at h
theorem step_le (m : Str) : step m ≤ 4 := by
  unfold step
  split
  · omega
  · split
    · omega
    · split <;> omega
theorem marks_at {i : Nat} (h : i < 4) : ∃ mi, marksV[i]? = some (.str mi) := by
  match i, h with
  | 0, _ => exact ⟨_, rfl⟩
  | 1, _ => exact ⟨_, rfl⟩
  | 2, _ => exact ⟨_, rfl⟩
  | 3, _ => exact ⟨_, rfl⟩
theorem sc_law_rank : FnScope ["_law_entry_here", "_law_marks", "_law_k"] ["_law_entry_here"] (defScope (top 25)) := ⟨rfl, rfl, rfl, by decide +kernel, rfl, by decide +kernel, by decide +kernel⟩
theorem ok_law_rank (F : FnP K "_law_rank" (top 25) f fd) (T : Tx K w mg aM aS aO aB) : FnOk P w K mg base CX0 1 f fd ["_law_entry_here"] spRank := by
  refine F.ok sc_law_rank (fun vs H Q E h => ?_) (fun cdv A outer s H vs Q E hr h => ?_)
  · obtain ⟨a, xs, l, m, rfl, _⟩ := h
    rfl
  · obtain ⟨a, xs, l, m, rfl, ha, h1, h2, hm, q⟩ := h
    refine ⟨_, PSs.nox (pss_cons (ps_set (i := 1) sc_law_rank.nd rfl (Or.inl rfl) (pe_lst (pa_cons pe_str (pa_cons pe_str (pa_cons pe_str (pa_cons pe_str pa_nil))))))
      (pss_cons (ps_for PassesOwn.never rfl (pi_range1 rfl T.range (pa_cons pe_int pa_nil)) (pg_name (i := 2) sc_law_rank.nd rfl (Or.inl rfl))
        (pss_one (ps_if (pt_cmpR op_eq (pe_ix ix_list (pv 1) (pv 2) (fun _ _ => rfl)) (pe_ix ix_tup (pv 0) pe_int (fun _ _ => rfl)) (nomark _))
          (pss_one (ps_ret (pe_op op_add (pe_op op_add (pe_op op_mul pe_int (pe_ix ix_tup (pv 0) pe_int (fun _ _ => rfl))) (pv 2)) pe_int)))
          pss_nil)))
      (pss_one (ps_ret pe_int)))), ?_⟩
    refine q_asgL el_marks fun ml H1 nml e1 hml => ?_
    refine q_forR1 (n := 4) (ea_cons ev_c ea_nil) ⟨by decide, by decide⟩ (fun i σ' H' => (∃ x2, σ' = [some (.ref a), some (.ref ml), x2]) ∧ Ex H H' ∧ H' ml = some (.lst marksV) ∧ (i : Int) < step m)
      (fun H2 e2 => ⟨⟨_, rfl⟩, e1.trans e2, e2 _ _ hml, step_pos m⟩) ?_ ?_
    · rintro i σ' H' hi ⟨⟨x2, rfl⟩, eH, hml, hs⟩
      obtain ⟨mi, hmi⟩ := marks_at (i := i) (by omega)
      have ha' := eH _ _ ha
      have sa := step_at hm hmi
      refine s_when (et_test (ev_eqS (ev_op (ev_var rfl) (ev_var rfl) (rv_ixL' (sq_of hml) hmi)) (ev_it 2 (ev_var rfl) (st_of ha') h2))) (fun hb H2 e2 => ?_) (fun hb H2 e2 => ?_)
      · have hst := sa.mp (of_decide_eq_true hb)
        refine s_ret (ev_op (ev_op (ev_op ev_c (ev_it 1 (ev_var rfl) (st_of (e2 _ _ ha')) h1) (rv_I (.inl ⟨by decide, by decide⟩))) (ev_var rfl) rv_I0) ev_c rv_I0) fun H3 e3 => ?_
        have := q H3 ((eH.trans e2).trans e3)
        rw [hst] at this
        rw [show 4 * l + (i : Int) + 1 = 4 * l + ((i : Int) + 1) by omega]
        exact this
      · have hst : ¬ step m = (i : Int) + 1 := fun z => (of_decide_eq_false hb) (sa.mpr z)
        exact ⟨⟨_, rfl⟩, eH.trans e2, e2 _ _ hml, by omega⟩
    · rintro σ' H' ⟨⟨x2, rfl⟩, eH, hml, hs⟩
      have := step_le m
      have h4 : (((4 : Int).toNat : Nat) : Int) = 4 := rfl
      rw [h4] at hs
      omega
theorem v_rank {H : Hp} {a : Addr} {xs : List V} {l : Int} {m : Str} (h : H a = some (.tup xs)) (h1 : xs[1]? = some (.int l)) (h2 : xs[2]? = some (.str m)) (hm : isMark m = true) : SpV spRank [.ref a] H (.int (4 * l + step m)) :=
  fun H1 e1 Q k E => ⟨a, xs, l, m, rfl, e1 _ _ h, h1, h2, hm, k⟩
end
end Lr
set_option Elab.async false
set_option linter.all false
set_option maxRecDepth 100000
set_option maxHeartbeats 4000000
namespace Lr
open PySem L2 Evl
/-! ### == of small data -/
theorem strOk_mark {m : Str} (h : isMark m = true) : PySem.PyData.strOk m = true := by
  rcases isMark_cases h with rfl | rfl | rfl | rfl <;> decide +kernel
def d3 (e : En) : PyData := .tuple [.int e.seat, .int e.life, .str e.mark]
theorem d3_shaped {e : En} (h : isMark e.mark = true) : SeqAt.shaped (d3 e) = true := by
  have := strOk_mark h
  simp [SeqAt.shaped, d3, PyData.canLay0, PyData.canLayAll0, this, PyData.depth, PyData.depthAll]
theorem beq_dec {α : Type} [DecidableEq α] [BEq α] [LawfulBEq α] (a b : α) : (a == b) = decide (a = b) := by
  by_cases h : a = b
  · subst h; simp
  · rw [decide_eq_false h]; exact beq_eq_false_iff_ne.mpr h
theorem d3_eqv (f e : En) : PyData.eqv (d3 f) (d3 e) = same3 f e := by
  unfold d3 same3
  simp only [PyData.eqv, PyData.eqvAll, Bool.and_true]
  rw [beq_dec f.seat e.seat, beq_dec f.life e.life, beq_dec f.mark e.mark]
section
variable {K : PySem.W.Frag} {σ : L2.St} {H : Hp} {te : TE}
theorem eu_sl3 {a : Addr} {e : En} (h : Ev te σ H (.ref a)) (ha : H a = some (.tup e.items)) : EvU (tSl (rSlA K) te tNoPart (tPart (tC (.int 3)))) σ H [.int e.seat, .int e.life, .str e.mark] := by
  intro H1 e1 Q k
  refine h H1 e1 _ fun H2 e2 => ?_
  refine ⟨3, rfl, a, e.items, rfl, st_of (e2 _ _ (e1 _ _ ha)), fun z => ?_, fun _ p hp => ?_⟩
  · exact absurd z.2 (show ¬ (3 : Nat) = 4 by decide)
  · exact k p _ (fresh_back e2 hp) (e2.trans (Ex.new hp)) upd_same
theorem d3_dp {p : Addr} {e : En} (h : H p = some (.tup [.int e.seat, .int e.life, .str e.mark])) : Dp K H (.ref p) (d3 e) :=
  .tup (st_of h) (.cons (.int _) (.cons (.int _) (.cons (.str _) .nil)))
end
/-! ### values told by a property -/
def EvP (te : TE) (σ : L2.St) (H : Hp) (P : V → Hp → Prop) : Prop := ∀ H1, Ex H H1 → ∀ Q : VK, (∀ v H2, Ex H1 H2 → P v H2 → Q v H2) → te σ H1 Q
section
variable {P : Program} {w : World} {K : PySem.W.Frag} {mg : Str → Option Value} {base : Heap} {aM aS aO aB aE : Addr} {f : Addr} {fd : FuncData}
/-! ### _law_said -/
def spSaid : Sp := fun vs H Q _ => ∃ v a rs e, vs = [v, .ref a] ∧ RunsAt H v rs ∧ H a = some (.tup (En.items e)) ∧ isMark e.mark = true ∧ ∀ H', Ex H H' → Q (.bl (saidE (rs.map Run.eo) e)) H'
theorem sc_law_said : FnScope ["_law_journal", "_law_entry_here", "_law_run", "_law_other"] ["_law_journal", "_law_entry_here"] (defScope (top 26)) := ⟨rfl, rfl, rfl, by decide +kernel, rfl, by decide +kernel, by decide +kernel⟩
theorem ok_law_said {ff : Addr} {fdf : FuncData} (F : FnP K "_law_said" (top 26) f fd) (T : Tx K w mg aM aS aO aB) (c_law_formed : Cal P w K mg base "_law_formed" 2 ["_law_entry_here"] spFormed ff fdf) :
    FnOk P w K mg base CX0 3 f fd ["_law_journal", "_law_entry_here"] spSaid := by
  refine F.ok sc_law_said (fun vs H Q E h => ?_) (fun cdv A outer s H vs Q E hr h => ?_)
  · obtain ⟨v, a, rs, e, rfl, _⟩ := h
    rfl
  · obtain ⟨v, a, rs, e, rfl, hv, ha, hm, q⟩ := h
    obtain ⟨la, xs, rfl, hla, hrs⟩ := hv
    rw [saidE_eo] at q
    refine ⟨_, PSs.nox (pss_cons (ps_for PassesOwn.never rfl (pi_list (pv 0)) (pg_name (i := 2) sc_law_said.nd rfl (Or.inl rfl))
        (pss_one (ps_for PassesOwn.never rfl (pi_list (pv 2)) (pg_name (i := 3) sc_law_said.nd rfl (Or.inl rfl))
          (pss_one (ps_if (PW.pt (pw_and (pt_val (pe_cal c_law_formed (hr.mono (by decide)) (by rfl) (pa_cons (pv 3) pa_nil))) (pw_and1 (pt_cmpR (op_eqD hr.units) (pe_slice sl_tupA (pv 3) po_none (po_some pe_int)) (pe_slice sl_tupA (pv 1) po_none (po_some pe_int)) (nomark _)))))
            (pss_one (ps_ret pe_bl))
            pss_nil)))))
      (pss_one (ps_ret pe_bl))), ?_⟩
    have hlen := hrs.length
    refine q_forLn (xs := xs) (ev_var rfl) (sq_of hla) (fun t σ' H' => (∃ x2 x3, σ' = [some (.ref la), some (.ref a), x2, x3]) ∧ Ex H H' ∧ ((rs.take t).any fun r => saidRun r e) = false)
      (fun H1 e1 => ⟨⟨_, _, rfl⟩, e1, rfl⟩) (fun t σ' H' _ h => sq_of (h.2.1 _ _ hla)) ?_ ?_
    · rintro t x σ' H' hx ⟨⟨x2, x3, rfl⟩, eH, hno⟩
      obtain ⟨r, hr1, a2, rfl, hl2, hent⟩ := paired_at hrs hx
      refine s_forLn (xs := r.map (·.1)) (ev_var rfl) (sq_of (eH _ _ hl2)) (fun k σ' H' => (∃ x3, σ' = [some (.ref la), some (.ref a), some (.ref a2), x3]) ∧ Ex H H' ∧ saidRun (r.take k) e = false)
        (fun H1 e1 => ⟨⟨_, rfl⟩, eH.trans e1, rfl⟩) (fun k σ' H' _ h => sq_of (h.2.1 _ _ hl2)) ?_ ?_
      · rintro k y σ' H' hy ⟨⟨x3, rfl⟩, eH, hno2⟩
        obtain ⟨o, hro, heo⟩ := run_at hy
        have hey : EntAt H' y o := (hent _ (List.mem_of_getElem? hro)).ex eH
        have S1 : saidRun (r.take (k + 1)) e = (saidRun (r.take k) e || hitE e o) := any_take (fun p : Ent => hitE e p.2) hro
        refine s_when (b := hitE e o) ?_ (fun hb H1 e1 => ?_) (fun hb H1 e1 => ?_)
        · cases o with
          | none => exact et_and (a := false) (b := false) (et_B (ev_cal (ea_cons (ev_var rfl) ea_nil) (v_formed hey))) fun z => absurd z (by decide)
          | some f =>
            rcases hey with ⟨a3, xs3, rfl, ha3, _, hfo⟩ | ⟨h, _⟩
            · have hey : EntAt H' (.ref a3) (some f) := .inl ⟨a3, xs3, rfl, ha3, by assumption, hfo⟩
              obtain ⟨rfl, _, _, hmf, _⟩ := formedL_items hfo.symm
              refine et_is (et_and (a := true) (et_B (ev_cal (ea_cons (ev_var rfl) ea_nil) (v_formed hey))) fun _ => et_test (ev_opUU (eu_sl3 (ev_var rfl) ha3) (eu_sl3 (ev_var rfl) (eH _ _ ha)) fun p q H2 hp hq e2 H3 e3 Q' k' => ?_)) (Bool.true_and _)
              refine ⟨d3 f, d3 e, d3_dp (e3 _ _ hp), d3_dp (e3 _ _ hq), d3_shaped hmf, d3_shaped hm, ?_⟩
              rw [d3_eqv]
              exact k' H3 (Ex.refl _)
            · cases h
        · refine s_ret ev_c fun H2 e2 => ?_
          have h2 := q H2 ((eH.trans e1).trans e2)
          have h3 : (rs.any fun r => saidRun r e) = true := by
            rw [List.any_eq_true]
            refine ⟨r, List.mem_of_getElem? hr1, ?_⟩
            unfold saidRun
            rw [List.any_eq_true]
            exact ⟨_, List.mem_of_getElem? hro, hb⟩
          rw [h3] at h2
          exact h2
        · exact ⟨⟨_, rfl⟩, eH.trans e1, by rw [S1, hno2, hb]; rfl⟩
      · rintro σ' H' ⟨⟨x3, rfl⟩, eH, hno2⟩
        rw [List.length_map, List.take_length] at hno2
        exact ⟨⟨_, _, rfl⟩, eH, by rw [any_take _ hr1, hno, hno2]; rfl⟩
    · rintro σ' H' ⟨⟨x2, x3, rfl⟩, eH, hno⟩
      rw [hlen, List.take_length] at hno
      refine s_ret ev_c fun H2 e2 => ?_
      have h2 := q H2 (eH.trans e2)
      rw [hno] at h2
      exact h2
/-! ### _law_last -/
def spLast : Sp := fun vs H Q _ => ∃ v r k s, vs = [v, .int (k : Nat), .int s] ∧ RunAt H v r ∧ k ≤ r.length ∧ r.length ≤ 1000 ∧ ∀ v' H', Ex H H' → BefAt H' v' (lastE s ((Run.eo r).take k)) → Q v' H'
theorem sc_law_last : FnScope ["_law_run", "_law_at", "_law_seat", "_law_last_here", "_law_k"] ["_law_run", "_law_at", "_law_seat"] (defScope (top 27)) := ⟨rfl, rfl, rfl, by decide +kernel, rfl, by decide +kernel, by decide +kernel⟩
theorem ok_law_last {ff : Addr} {fdf : FuncData} (F : FnP K "_law_last" (top 27) f fd) (T : Tx K w mg aM aS aO aB) (c_law_formed : Cal P w K mg base "_law_formed" 2 ["_law_entry_here"] spFormed ff fdf) :
    FnOk P w K mg base CX0 3 f fd ["_law_run", "_law_at", "_law_seat"] spLast := by
  refine F.ok sc_law_last (fun vs H Q E h => ?_) (fun cdv A outer s H vs Q E hr h => ?_)
  · obtain ⟨v, r, k, s, rfl, _⟩ := h
    rfl
  · obtain ⟨v, r, n, sn, rfl, hv, hn, hn2, q⟩ := h
    obtain ⟨ra, rfl, hra, hent⟩ := hv
    refine ⟨_, PSs.nox (pss_cons (ps_set (i := 3) sc_law_last.nd rfl (Or.inl rfl) pe_non)
      (pss_cons (ps_for PassesOwn.never rfl (pi_range1 rfl T.range (pa_cons (pv 1) pa_nil)) (pg_name (i := 4) sc_law_last.nd rfl (Or.inl rfl))
        (pss_one (ps_if (PW.pt (pw_and (pt_val (pe_cal c_law_formed (hr.mono (by decide)) (by rfl) (pa_cons (pe_ix ix_list (pv 0) (pv 4) (fun _ _ => rfl)) pa_nil))) (pw_and1 (pt_cmpR op_eq (pe_ix ix_tup (pe_ix ix_list (pv 0) (pv 4) (fun _ _ => rfl)) pe_int (fun _ _ => rfl)) (pv 2) (nomark _)))))
          (pss_one (ps_set (i := 3) sc_law_last.nd rfl (Or.inl rfl) (pe_ix ix_list (pv 0) (pv 4) (fun _ _ => rfl))))
          pss_nil)))
      (pss_one (ps_ret (pv 3))))), ?_⟩
    refine q_asg ev_c fun H1 e1 => ?_
    refine q_forR1 (n := (n : Nat)) (ea_cons (ev_var rfl) ea_nil) ⟨by omega, by omega⟩ (fun i σ' H' => ∃ v3 x4, σ' = [some (.ref ra), some (.int (n : Nat)), some (.int sn), some v3, x4] ∧ Ex H H' ∧ BefAt H' v3 (lastE sn ((Run.eo r).take i)))
      (fun H2 e2 => ⟨_, _, rfl, e1.trans e2, .inl ⟨rfl, rfl⟩⟩) ?_ ?_
    · rintro i σ' H' hi ⟨v3, x4, rfl, eH, hb⟩
      have hi2 : i < r.length := by omega
      have hx : (r.map (·.1))[i]? = some r[i].1 := by rw [List.getElem?_map, List.getElem?_eq_getElem hi2]; rfl
      obtain ⟨o, hro, heo⟩ := run_at hx
      have hey : EntAt H' r[i].1 o := (hent _ (List.mem_of_getElem? hro)).ex eH
      have tk : (Run.eo r).take (i + 1) = (Run.eo r).take i ++ [o] := take_snoc heo
      have hra' := eH _ _ hra
      cases o with
      | none =>
        refine s_when (b := false) (et_and (a := false) (b := false) (et_B (ev_cal (ea_cons (ev_op (ev_var rfl) (ev_var rfl) (rv_ixL' (sq_of hra') hx)) ea_nil) (v_formed hey))) fun z => absurd z (by decide)) (fun z => absurd z (by decide)) (fun _ H2 e2 => ?_)
        exact ⟨_, _, rfl, eH.trans e2, by rw [tk, lastE_snoc]; exact hb.ex e2⟩
      | some f =>
        have hey2 := hey
        rcases hey with ⟨a3, xs3, ea, ha3, _, hfo⟩ | ⟨h, _⟩
        · obtain ⟨rfl, _, _, hmf, _⟩ := formedL_items hfo.symm
          refine s_when (et_and (a := true) (et_B (ev_cal (ea_cons (ev_op (ev_var rfl) (ev_var rfl) (rv_ixL' (sq_of hra') hx)) ea_nil) (v_formed hey2))) fun _ => et_test (ev_eqI (ev_it (xs := f.items) 0 (ev_is (ev_op (ev_var rfl) (ev_var rfl) (rv_ixL' (sq_of hra') hx)) ea) (st_of ha3) rfl) (ev_var rfl))) (fun hb2 H2 e2 => ?_) (fun hb2 H2 e2 => ?_)
          · have hse : f.seat = sn := by rw [Bool.true_and] at hb2; exact of_decide_eq_true hb2
            refine s_asg (ev_op (ev_var rfl) (ev_var rfl) (rv_ixL' (sq_of (e2 _ _ hra')) hx)) fun H3 e3 => ?_
            refine ⟨_, _, rfl, (eH.trans e2).trans e3, ?_⟩
            rw [tk, lastE_snoc]
            dsimp only
            rw [if_pos hse]
            exact .inr ⟨a3, f, rfl, ea, (e2.trans e3) _ _ ha3, hmf⟩
          · have hse : ¬ f.seat = sn := by rw [Bool.true_and] at hb2; exact of_decide_eq_false hb2
            refine ⟨_, _, rfl, eH.trans e2, ?_⟩
            rw [tk, lastE_snoc]
            dsimp only
            rw [if_neg hse]
            exact hb.ex e2
        · cases h
    · rintro σ' H' ⟨v3, x4, rfl, eH, hb⟩
      refine s_ret (ev_var rfl) fun H2 e2 => q v3 H2 (eH.trans e2) ?_
      rw [Int.toNat_natCast] at hb
      exact hb.ex e2
/-! ### _law_sourced -/
def spSourced : Sp := fun vs H Q _ => ∃ v r k, vs = [v, .int (k : Nat)] ∧ RunAt H v r ∧ k ≤ r.length ∧ r.length ≤ 1000 ∧ ∀ H', Ex H H' → Q (.bl (sourcedE ((Run.eo r).take k))) H'
theorem sc_law_sourced : FnScope ["_law_run", "_law_at", "_law_k"] ["_law_run", "_law_at"] (defScope (top 28)) := ⟨rfl, rfl, rfl, by decide +kernel, rfl, by decide +kernel, by decide +kernel⟩
theorem ok_law_sourced {ff : Addr} {fdf : FuncData} (F : FnP K "_law_sourced" (top 28) f fd) (T : Tx K w mg aM aS aO aB) (c_law_formed : Cal P w K mg base "_law_formed" 2 ["_law_entry_here"] spFormed ff fdf) :
    FnOk P w K mg base CX0 3 f fd ["_law_run", "_law_at"] spSourced := by
  refine F.ok sc_law_sourced (fun vs H Q E h => ?_) (fun cdv A outer s H vs Q E hr h => ?_)
  · obtain ⟨v, r, k, rfl, _⟩ := h
    rfl
  · obtain ⟨v, r, n, rfl, hv, hn, hn2, q⟩ := h
    obtain ⟨ra, rfl, hra, hent⟩ := hv
    refine ⟨_, PSs.nox (pss_cons (ps_for PassesOwn.never rfl (pi_range1 rfl T.range (pa_cons (pv 1) pa_nil)) (pg_name (i := 2) sc_law_sourced.nd rfl (Or.inl rfl))
        (pss_one (ps_if (PW.pt (pw_and (pt_val (pe_cal c_law_formed (hr.mono (by decide)) (by rfl) (pa_cons (pe_ix ix_list (pv 0) (pv 2) (fun _ _ => rfl)) pa_nil))) (pw_and1 (pt_cmpR op_notN1 (pe_ix ix_tup (pe_ix ix_list (pv 0) (pv 2) (fun _ _ => rfl)) pe_int (fun _ _ => rfl)) pe_non (nomark _)))))
          (pss_one (ps_ret pe_bl))
          pss_nil)))
      (pss_one (ps_ret pe_bl))), ?_⟩
    refine q_forR1 (n := (n : Nat)) (ea_cons (ev_var rfl) ea_nil) ⟨by omega, by omega⟩ (fun i σ' H' => ∃ x2, σ' = [some (.ref ra), some (.int (n : Nat)), x2] ∧ Ex H H' ∧ sourcedE ((Run.eo r).take i) = false)
      (fun H2 e2 => ⟨_, rfl, e2, rfl⟩) ?_ ?_
    · rintro i σ' H' hi ⟨x2, rfl, eH, hno⟩
      have hi2 : i < r.length := by omega
      have hx : (r.map (·.1))[i]? = some r[i].1 := by rw [List.getElem?_map, List.getElem?_eq_getElem hi2]; rfl
      obtain ⟨o, hro, heo⟩ := run_at hx
      have hey : EntAt H' r[i].1 o := (hent _ (List.mem_of_getElem? hro)).ex eH
      have tk : (Run.eo r).take (i + 1) = (Run.eo r).take i ++ [o] := take_snoc heo
      have hra' := eH _ _ hra
      cases o with
      | none =>
        refine s_when (b := false) (et_and (a := false) (b := false) (et_B (ev_cal (ea_cons (ev_op (ev_var rfl) (ev_var rfl) (rv_ixL' (sq_of hra') hx)) ea_nil) (v_formed hey))) fun z => absurd z (by decide)) (fun z => absurd z (by decide)) (fun _ H2 e2 => ?_)
        exact ⟨_, rfl, eH.trans e2, by rw [tk, sourced_snoc0]; exact hno⟩
      | some f =>
        have hey2 := hey
        rcases hey with ⟨a3, xs3, ea, ha3, _, hfo⟩ | ⟨h, _⟩
        · obtain ⟨rfl, _, _, hmf, _⟩ := formedL_items hfo.symm
          have hsrc : (!decide (srcV f.src = V.non)) = f.src.isSome := by
            rw [srcV_non]
            cases f.src <;> rfl
          refine s_when (b := f.src.isSome) (et_is (et_and (a := true) (et_B (ev_cal (ea_cons (ev_op (ev_var rfl) (ev_var rfl) (rv_ixL' (sq_of hra') hx)) ea_nil) (v_formed hey2))) fun _ => et_test (ev_op (ev_it (xs := f.items) 3 (ev_is (ev_op (ev_var rfl) (ev_var rfl) (rv_ixL' (sq_of hra') hx)) ea) (st_of ha3) rfl) ev_c rv_notN)) (by rw [Bool.true_and]; exact hsrc)) (fun hb2 H2 e2 => ?_) (fun hb2 H2 e2 => ?_)
          · refine s_ret ev_c fun H3 e3 => ?_
            have h2 := q H3 ((eH.trans e2).trans e3)
            have h3 : sourcedE ((Run.eo r).take n) = true := by
              unfold sourcedE
              rw [List.any_eq_true]
              refine ⟨some f, ?_, hb2⟩
              refine List.mem_of_getElem? (i := i) ?_
              rw [List.getElem?_take, if_pos (by omega)]
              exact heo
            rw [h3] at h2
            exact h2
          · exact ⟨_, rfl, eH.trans e2, by rw [tk, sourced_snoc, hno, hb2]; rfl⟩
        · cases h
    · rintro σ' H' ⟨x2, rfl, eH, hno⟩
      refine s_ret ev_c fun H2 e2 => ?_
      have h2 := q H2 (eH.trans e2)
      rw [Int.toNat_natCast] at hno
      rw [hno] at h2
      exact h2
/-! ### _law_doubtful -/
theorem sc_law_doubtful : FnScope ["_law_entry_here", "_law_last_here", "_law_lenient"] ["_law_entry_here", "_law_last_here", "_law_lenient"] (defScope (top 29)) := ⟨rfl, rfl, rfl, by decide +kernel, rfl, by decide +kernel, by decide +kernel⟩
theorem ok_law_doubtful (F : FnP K "_law_doubtful" (top 29) f fd) (T : Tx K w mg aM aS aO aB) : FnOk P w K mg base CX0 1 f fd ["_law_entry_here", "_law_last_here", "_law_lenient"] spDoubt := by
  refine F.ok sc_law_doubtful (fun vs H Q E h => ?_) (fun cdv A outer s H vs Q E hr h => ?_)
  · obtain ⟨a, e, b, last, lk, rfl, _⟩ := h
    rfl
  · obtain ⟨a, e, b, last, lk, rfl, ha, hm, hb, q⟩ := h
    refine ⟨_, PSs.nox (pss_cons (ps_if (PW.pt (pw_or (pt_cmpR op_eq (pe_ix ix_tup (pv 0) pe_int (fun _ _ => rfl)) pe_str (nomark _)) (pw_or1 (pt_cmpR op_eq (pe_ix ix_tup (pv 0) pe_int (fun _ _ => rfl)) pe_str (nomark _)))))
        (pss_one (ps_ret (pe_or (pe_cmpR op_eq (pe_ix ix_tup (pv 0) pe_int (fun _ _ => rfl)) pe_str (nomark _)) (pe_one (pe_cmpR op_gt (pe_ix ix_tup (pv 0) pe_int (fun _ _ => rfl)) pe_int (nomark _))))))
        pss_nil)
      (pss_cons (ps_if (pt_val (pv 2))
        (pss_one (ps_ret pe_bl))
        pss_nil)
      (pss_cons (ps_if (PW.pt (pw_or (pt_cmpR op_isN1 (pv 1) pe_non (nomark _)) (pw_or1 (pt_cmpR op_ne (pe_ix ix_tup (pv 1) pe_int (fun _ _ => rfl)) (pe_ix ix_tup (pv 0) pe_int (fun _ _ => rfl)) (nomark _)))))
        (pss_one (ps_ret pe_bl))
        pss_nil)
      (pss_cons (ps_if (pt_cmpR op_eq (pe_ix ix_tup (pv 0) pe_int (fun _ _ => rfl)) pe_str (nomark _))
        (pss_one (ps_ret (pe_cmpR op_ne (pe_ix ix_tup (pv 1) pe_int (fun _ _ => rfl)) pe_str (nomark _))))
        pss_nil)
      (pss_one (ps_ret (pe_cmpR op_ne (pe_ix ix_tup (pv 1) pe_int (fun _ _ => rfl)) pe_str (nomark _)))))))), ?_⟩
    refine q_when (et_or (et_test (ev_eqS (ev_it 2 (ev_var rfl) (st_of ha) rfl) ev_c)) fun _ => et_test (ev_eqS (ev_it 2 (ev_var rfl) (st_of ha) rfl) ev_c)) (fun hx H1 e1 => ?_) (fun hx H1 e1 => ?_)
    · have ha1 := e1 _ _ ha
      refine s_ret (ev_orV (ev_eqS (ev_it 2 (ev_var rfl) (st_of ha1) rfl) ev_c) fun _ => ev_op (ev_it 1 (ev_var rfl) (st_of ha1) rfl) ev_c rv_I0) fun H2 e2 => ?_
      have q1 := q H2 (e1.trans e2)
      by_cases hL : e.mark = mL
      · rw [doubtE_L hL] at q1
        rw [decide_eq_true hL, Bool.true_or]
        exact q1
      · have hA : e.mark = mA := by
          rw [decide_eq_false hL, Bool.false_or] at hx
          exact of_decide_eq_true hx
        rw [doubtE_A hL hA] at q1
        rw [decide_eq_false hL, Bool.false_or]
        exact q1
    · rw [Bool.or_eq_false_iff] at hx
      have hL := of_decide_eq_false hx.1
      have hA := of_decide_eq_false hx.2
      cases lk with
      | true =>
        refine q_when (et_B (ev_var rfl)) (fun _ H2 e2 => ?_) (fun z => absurd z (by decide))
        refine s_ret ev_c fun H3 e3 => ?_
        have q1 := q H3 ((e1.trans e2).trans e3)
        rw [doubtE_lk hL hA] at q1
        exact q1
      | false =>
        refine q_when (et_B (ev_var rfl)) (fun z => absurd z (by decide)) (fun _ H2 e2 => ?_)
        have e12 := e1.trans e2
        rcases hb with ⟨rfl, rfl⟩ | ⟨c, l, rfl, rfl, hc, hml⟩
        · refine q_when (et_or (b := false) (et_is (et_test (ev_op (ev_var rfl) ev_c rv_isN)) (decide_eq_true rfl)) fun z => absurd z (by decide)) (fun _ H3 e3 => ?_) (fun z => absurd z (by decide))
          refine s_ret ev_c fun H4 e4 => ?_
          have q1 := q H4 ((e12.trans e3).trans e4)
          rw [doubtE_none hL hA] at q1
          exact q1
        · have hc2 := e12 _ _ hc
          have ha2 := e12 _ _ ha
          refine q_when (et_or (a := false) (et_is (et_test (ev_op (ev_var rfl) ev_c rv_isN)) (decide_eq_false (fun z => nomatch z))) fun _ => et_test (ev_neI (ev_it 1 (ev_var rfl) (st_of hc2) rfl) (ev_it 1 (ev_var rfl) (st_of ha2) rfl))) (fun hx H3 e3 => ?_) (fun hx H3 e3 => ?_)
          · refine s_ret ev_c fun H4 e4 => ?_
            have q1 := q H4 ((e12.trans e3).trans e4)
            rw [Bool.false_or] at hx
            rw [doubtE_some hL hA, hx, Bool.true_or] at q1
            exact q1
          · rw [Bool.false_or] at hx
            have e13 := e12.trans e3
            have hc3 := e13 _ _ hc
            have ha3 := e13 _ _ ha
            by_cases hS : e.mark = mS
            · refine q_when (et_is (et_test (ev_eqS (ev_it 2 (ev_var rfl) (st_of ha3) rfl) ev_c)) (decide_eq_true hS)) (fun _ H4 e4 => ?_) (fun z => absurd z (by decide))
              refine s_ret (ev_neS (ev_it 2 (ev_var rfl) (st_of (e4 _ _ hc3)) rfl) ev_c) fun H5 e5 => ?_
              have q1 := q H5 ((e13.trans e4).trans e5)
              rw [doubtE_some hL hA, hx, Bool.false_or, if_pos hS] at q1
              exact q1
            · refine q_when (et_is (et_test (ev_eqS (ev_it 2 (ev_var rfl) (st_of ha3) rfl) ev_c)) (decide_eq_false hS)) (fun z => absurd z (by decide)) (fun _ H4 e4 => ?_)
              refine s_ret (ev_neS (ev_it 2 (ev_var rfl) (st_of (e4 _ _ hc3)) rfl) ev_c) fun H5 e5 => ?_
              have q1 := q H5 ((e13.trans e4).trans e5)
              rw [doubtE_some hL hA, hx, Bool.false_or, if_neg hS] at q1
              exact q1
end
end Lr
set_option Elab.async false
set_option linter.all false
set_option maxRecDepth 100000
set_option maxHeartbeats 4000000
namespace Lr
open PySem L2 Evl
def rstr : Option Str → Str
  | none => ""
  | some z => z
section
variable {look : Int → List (List Eo)} {lack : List Int} {o c : Int} {pre : List Eo} {e : En}
theorem reason_kept (h : e.src = none ∧ sourcedE pre = true) : reasonE look lack o pre (some e) = some ("kept" : Str) := by
  unfold reasonE reason1; dsimp only; rw [if_pos h]
theorem reason_rise (n1 : ¬ (e.src = none ∧ sourcedE pre = true)) (h : riseE e (lastE e.seat pre) = true) : reasonE look lack o pre (some e) = some ("rise" : Str) := by
  unfold reasonE reason1; dsimp only; rw [if_neg n1, if_pos h]
theorem reason_none (n1 : ¬ (e.src = none ∧ sourcedE pre = true)) (n2 : ¬ riseE e (lastE e.seat pre) = true) (h : e.src = none) : reasonE look lack o pre (some e) = none := by
  have h1 : reason1 lack o pre e = none := by unfold reason1; rw [if_neg n1, if_neg n2, if_neg (by rw [h]; exact fun z => nomatch z)]
  have h2 : unsaidE look lack o e = false := by unfold unsaidE; rw [h]
  unfold reasonE; dsimp only; rw [h1, h2]; rfl
theorem reason_own (n1 : ¬ (e.src = none ∧ sourcedE pre = true)) (n2 : ¬ riseE e (lastE e.seat pre) = true) (h : e.src = some o) (h2 : e.seat = o) (h3 : ¬ (e.mark = mA ∨ e.mark = mL)) : reasonE look lack o pre (some e) = some ("own" : Str) := by
  unfold reasonE reason1; dsimp only; rw [if_neg n1, if_neg n2, if_pos h, if_pos h2, if_neg h3]
theorem unsaid_self (h : e.src = some c) (hc : c = o ∨ c ∈ lack) : unsaidE look lack o e = false := by
  unfold unsaidE; rw [h]; exact if_pos hc
theorem unsaid_src (h : e.src = some c) (hc : ¬ (c = o ∨ c ∈ lack)) : unsaidE look lack o e = !saidE (look c) e := by
  unfold unsaidE; rw [h]; exact if_neg hc
theorem reasonE_0 {b : Bool} (h1 : reason1 lack o pre e = none) (hu : unsaidE look lack o e = b) : reasonE look lack o pre (some e) = if b = true then some ("source" : Str) else none := by
  unfold reasonE; dsimp only; rw [h1, hu]
theorem reason_ok (n1 : ¬ (e.src = none ∧ sourcedE pre = true)) (n2 : ¬ riseE e (lastE e.seat pre) = true) (h : e.src = some o) (h2 : e.seat = o) (h3 : e.mark = mA ∨ e.mark = mL) : reasonE look lack o pre (some e) = none := by
  rw [reasonE_0 (b := false) (by unfold reason1; rw [if_neg n1, if_neg n2, if_pos h, if_pos h2, if_pos h3]) (unsaid_self h (.inl rfl))]; rfl
theorem reason_doubt (n1 : ¬ (e.src = none ∧ sourcedE pre = true)) (n2 : ¬ riseE e (lastE e.seat pre) = true) (h : e.src = some o) (h2 : ¬ e.seat = o) (h3 : doubtE e (lastE e.seat pre) (decide (o ∈ lack)) = true) : reasonE look lack o pre (some e) = some ("doubt" : Str) := by
  unfold reasonE reason1; dsimp only; rw [if_neg n1, if_neg n2, if_pos h, if_neg h2, if_pos h3]
theorem reason_nodoubt (n1 : ¬ (e.src = none ∧ sourcedE pre = true)) (n2 : ¬ riseE e (lastE e.seat pre) = true) (h : e.src = some o) (h2 : ¬ e.seat = o) (h3 : ¬ doubtE e (lastE e.seat pre) (decide (o ∈ lack)) = true) : reasonE look lack o pre (some e) = none := by
  rw [reasonE_0 (b := false) (by unfold reason1; rw [if_neg n1, if_neg n2, if_pos h, if_neg h2, if_neg h3]) (unsaid_self h (.inl rfl))]; rfl
theorem reason_lack (n1 : ¬ (e.src = none ∧ sourcedE pre = true)) (n2 : ¬ riseE e (lastE e.seat pre) = true) (h : e.src = some c) (h2 : ¬ c = o) (h3 : c ∈ lack) : reasonE look lack o pre (some e) = none := by
  rw [reasonE_0 (b := false) (by unfold reason1; rw [if_neg n1, if_neg n2, if_neg (by rw [h]; exact fun z => h2 (Option.some.inj z))]) (unsaid_self h (.inr h3))]; rfl
theorem reason_src (n1 : ¬ (e.src = none ∧ sourcedE pre = true)) (n2 : ¬ riseE e (lastE e.seat pre) = true) (h : e.src = some c) (h2 : ¬ c = o) (h3 : ¬ c ∈ lack) : reasonE look lack o pre (some e) = if saidE (look c) e = true then none else some ("source" : Str) := by
  rw [reasonE_0 (by unfold reason1; rw [if_neg n1, if_neg n2, if_neg (by rw [h]; exact fun z => h2 (Option.some.inj z))]) (unsaid_src h (fun z => z.elim h2 h3))]
  cases saidE (look c) e <;> rfl
end
theorem reasonE_ne {look : Int → List (List Eo)} {lack : List Int} {o : Int} {pre : List Eo} {eo : Eo} {z : Str} (h : reasonE look lack o pre eo = some z) : (z = "form" ∨ z = "kept" ∨ z = "rise") ∨ (z = "own" ∨ z = "doubt" ∨ z = "source") := by
  unfold reasonE at h
  cases eo with
  | none => exact .inl (.inl (Option.some.inj h).symm)
  | some e =>
    dsimp only at h
    split at h
    · rename_i r h1
      have : r = z := Option.some.inj h
      subst this
      unfold reason1 at h1
      split at h1
      · exact .inl (.inr (.inl (Option.some.inj h1).symm))
      · split at h1
        · exact .inl (.inr (.inr (Option.some.inj h1).symm))
        · split at h1
          · split at h1
            · split at h1
              · cases h1
              · exact .inr (.inl (Option.some.inj h1).symm)
            · split at h1
              · exact .inr (.inr (.inl (Option.some.inj h1).symm))
              · cases h1
          · cases h1
    · split at h
      · exact .inr (.inr (.inr (Option.some.inj h).symm))
      · cases h
section
variable {P : Program} {w : World} {K : PySem.W.Frag} {mg : Str → Option Value} {base : Heap} {aM aS aO aB aE : Addr} {f : Addr} {fd : FuncData}
theorem v_sourced {H : Hp} {v : V} {r : Run} {k : Nat} (h : RunAt H v r) (hk : k ≤ r.length) (hr : r.length ≤ 1000) : SpV spSourced [v, .int (k : Nat)] H (.bl (sourcedE ((Run.eo r).take k))) := fun H1 e1 Q q E => ⟨v, r, k, rfl, h.ex e1, hk, hr, q⟩
theorem v_doubt2 {H : Hp} {a : Addr} {e : En} {b : V} {last : Option En} {lk : Bool} (h : H a = some (.tup e.items)) (hm : isMark e.mark = true) (hb : BefAt H b last) : SpV spDoubt [.ref a, b, .bl lk] H (.bl (doubtE e last lk)) := v_doubt h hm hb
/-- not _law_said(journals.get(source, []), entry) -/
theorem et_said {σ : L2.St} {H : Hp} {td ty te : TE} {d a : Addr} {c : Int} {J : Jrn} {e : En} (hd : Ev td σ H (.ref d)) (hy : Ev ty σ H (.int c)) (he : Ev te σ H (.ref a)) (hJ : JrnS H d J) (ha : H a = some (.tup e.items)) (hm : isMark e.mark = true) :
    EvT (tB (tCall spSaid [] E0 (tCons (tDGet2 td ty (tLst tNil)) (tCons te tNil)))) σ H (saidE (eoJ J c) e) := by
  intro H1 e1 Q k
  refine hd H1 e1 _ fun H2 e2 => ⟨d, rfl, ?_, ?_⟩
  · obtain ⟨kvs, h1, _⟩ := (hJ.ex e1).ex e2
    exact .inl ⟨kvs, .inl h1⟩
  refine hy H2 (e1.trans e2) _ fun H3 e3 => ?_
  refine ⟨Nat.zero_le _, fun p hp => ?_⟩
  have e13 := (e1.trans e2).trans e3
  have e4 : Ex H3 (upd H3 p (.lst [])) := Ex.new hp
  obtain ⟨kvs, h1, h2⟩ := hJ.ex (e13.trans e4)
  refine ⟨_, DGet.k (k := Sum.inl c) h1, ?_⟩
  refine he _ (e13.trans e4) _ fun H5 e5 => ?_
  have e35 := e4.trans e5
  have hr : RunsAt H5 ((valV kvs (Sum.inl c)).getD (.ref p)) (lookJ J c) := by
    rcases kvs_val h2 c with ⟨z1, _, z2⟩ | ⟨v, z1, z2, _⟩
    · rw [z1, z2]
      exact ⟨p, [], rfl, e5 _ _ upd_same, .nil⟩
    · rw [z1]
      exact z2.ex e5
  refine ⟨_, a, lookJ J c, e, rfl, hr, e35 _ _ (e13 _ _ ha), hm, fun H6 e6 => ⟨_, rfl, k H6 ((((e2.trans e3).trans e4).trans e5).trans e6)⟩⟩
/-! ### _law_reason -/
def spLReason (K : PySem.W.Frag) : Sp := fun vs H Q _ => ∃ d lv o rv k J lack r, vs = [.ref d, lv, .int o, rv, .int (k : Nat)] ∧ JrnS H d J ∧ PartAt K H lv lack ∧ RunAt H rv r ∧ k < r.length ∧ r.length ≤ 1000 ∧
  ∀ H', Ex H H' → Q (.str (rstr (reasonE (eoJ J) lack o ((Run.eo r).take k) ((Run.eo r).getD k none)))) H'
theorem sc_law_reason : FnScope ["_law_journals", "_law_lacking", "_law_owner", "_law_run", "_law_at", "_law_entry_here", "_law_last_here"] ["_law_journals", "_law_lacking", "_law_owner", "_law_run", "_law_at"] (defScope (top 30)) := ⟨rfl, rfl, rfl, by decide +kernel, rfl, by decide +kernel, by decide +kernel⟩
theorem ok_law_reason {ff fr fs fl fi fq : Addr} {fdf fdr fds fdl fdi fdq : FuncData} (F : FnP K "_law_reason" (top 30) f fd) (T : Tx K w mg aM aS aO aB) (c_law_formed : Cal P w K mg base "_law_formed" 2 ["_law_entry_here"] spFormed ff fdf)
    (c_law_rank : Cal P w K mg base "_law_rank" 1 ["_law_entry_here"] spRank fr fdr) (c_law_said : Cal P w K mg base "_law_said" 3 ["_law_journal", "_law_entry_here"] spSaid fs fds) (c_law_last : Cal P w K mg base "_law_last" 3 ["_law_run", "_law_at", "_law_seat"] spLast fl fdl)
    (c_law_sourced : Cal P w K mg base "_law_sourced" 3 ["_law_run", "_law_at"] spSourced fi fdi) (c_law_doubtful : Cal P w K mg base "_law_doubtful" 1 ["_law_entry_here", "_law_last_here", "_law_lenient"] spDoubt fq fdq) :
    FnOk P w K mg base CX0 4 f fd ["_law_journals", "_law_lacking", "_law_owner", "_law_run", "_law_at"] (spLReason K) := by
  refine F.ok sc_law_reason (fun vs H Q E h => ?_) (fun cdv A outer s H vs Q E hr h => ?_)
  · obtain ⟨d, lv, o, rv, k, J, lack, r, rfl, _⟩ := h
    rfl
  · obtain ⟨d, lv, o, rv, k, J, lack, r, rfl, hJ, hp, hrun, hk, hn2, q⟩ := h
    have hu := hu_of hr
    obtain ⟨ra, rfl, hra, hent⟩ := id hrun
    refine ⟨_, PSs.nox (pss_cons (ps_set (i := 5) sc_law_reason.nd rfl (Or.inl rfl) (pe_ix ix_list (pv 3) (pv 4) (fun _ _ => rfl)))
      (pss_cons (ps_if (pt_not (pt_val (pe_cal c_law_formed (hr.mono (by decide)) (by rfl) (pa_cons (pv 5) pa_nil))))
        (pss_one (ps_ret pe_str))
        pss_nil)
      (pss_cons (ps_if (PW.pt (pw_and (pt_cmpR op_isN1 (pe_ix ix_tup (pv 5) pe_int (fun _ _ => rfl)) pe_non (nomark _)) (pw_and1 (pt_val (pe_cal c_law_sourced (hr.mono (by decide)) (by rfl) (pa_cons (pv 3) (pa_cons (pv 4) pa_nil)))))))
        (pss_one (ps_ret pe_str))
        pss_nil)
      (pss_cons (ps_set (i := 6) sc_law_reason.nd rfl (Or.inl rfl) (pe_cal c_law_last (hr.mono (by decide)) (by rfl) (pa_cons (pv 3) (pa_cons (pv 4) (pa_cons (pe_ix ix_tup (pv 5) pe_int (fun _ _ => rfl)) pa_nil)))))
      (pss_cons (ps_if (PW.pt (pw_and (pt_cmpR op_notN1 (pv 6) pe_non (nomark _)) (pw_and1 (pt_cmpR op_le (pe_cal c_law_rank (hr.mono (by decide)) (by rfl) (pa_cons (pv 5) pa_nil)) (pe_cal c_law_rank (hr.mono (by decide)) (by rfl) (pa_cons (pv 6) pa_nil)) (nomark _)))))
        (pss_one (ps_ret pe_str))
        pss_nil)
      (pss_cons (ps_if (pt_cmpR op_isN1 (pe_ix ix_tup (pv 5) pe_int (fun _ _ => rfl)) pe_non (nomark _))
        (pss_one (ps_ret pe_str))
        pss_nil)
      (pss_cons (ps_if (PW.pt (pw_and (pt_cmpR op_eq (pe_ix ix_tup (pv 5) pe_int (fun _ _ => rfl)) (pv 2) (nomark _)) (pw_and (pt_cmpR op_eq (pe_ix ix_tup (pv 5) pe_int (fun _ _ => rfl)) (pv 2) (nomark _)) (pw_and (pt_cmpR op_ne (pe_ix ix_tup (pv 5) pe_int (fun _ _ => rfl)) pe_str (nomark _)) (pw_and1 (pt_cmpR op_ne (pe_ix ix_tup (pv 5) pe_int (fun _ _ => rfl)) pe_str (nomark _)))))))
        (pss_one (ps_ret pe_str))
        pss_nil)
      (pss_cons (ps_if (PW.pt (pw_and (pt_cmpR op_eq (pe_ix ix_tup (pv 5) pe_int (fun _ _ => rfl)) (pv 2) (nomark _)) (pw_and (pt_cmpR op_ne (pe_ix ix_tup (pv 5) pe_int (fun _ _ => rfl)) (pv 2) (nomark _)) (pw_and1 (pt_val (pe_cal c_law_doubtful (hr.mono (by decide)) (by rfl) (pa_cons (pv 5) (pa_cons (pv 6) (pa_cons (pe_cmpR op_in_seq (pv 2) (pv 1) rfl) pa_nil)))))))))
        (pss_one (ps_ret pe_str))
        pss_nil)
      (pss_cons (ps_if (PW.pt (pw_or (pt_cmpR op_eq (pe_ix ix_tup (pv 5) pe_int (fun _ _ => rfl)) (pv 2) (nomark _)) (pw_or1 (pt_cmpR op_in_seq (pe_ix ix_tup (pv 5) pe_int (fun _ _ => rfl)) (pv 1) rfl))))
        (pss_one (ps_ret pe_str))
        pss_nil)
      (pss_cons (ps_if (pt_not (pt_val (pe_cal c_law_said (hr.mono (by decide)) (by rfl) (pa_cons (pe_dget2 hu (pv 0) (pe_ix ix_tup (pv 5) pe_int (fun _ _ => rfl)) (pe_lst pa_nil) ⟨rfl, rfl, rfl, rfl⟩) (pa_cons (pv 5) pa_nil)))))
        (pss_one (ps_ret pe_str))
        pss_nil)
      (pss_one (ps_ret pe_str)))))))))))), ?_⟩
    have hx : (r.map (·.1))[k]? = some r[k].1 := by rw [List.getElem?_map, List.getElem?_eq_getElem hk]; rfl
    obtain ⟨eo, hro, heo⟩ := run_at hx
    have hgd : (Run.eo r).getD k none = eo := by rw [List.getD_eq_getElem?_getD, heo]; rfl
    rw [hgd] at q
    have hey : EntAt H r[k].1 eo := hent _ (List.mem_of_getElem? hro)
    revert hey q hx
    generalize r[k].1 = x
    intro hx q hey
    refine q_asg (ev_op (ev_var rfl) (ev_var rfl) (rv_ixL' (sq_of hra) hx)) fun H1 e1 => ?_
    refine q_when (et_not (et_B (ev_cal (ea_cons (ev_var rfl) ea_nil) (v_formed (hey.ex e1))))) (fun hb H2 e2 => ?_) (fun hb H2 e2 => ?_)
    · cases eo with
      | some _ => cases hb
      | none => exact s_ret ev_c fun H3 e3 => q H3 ((e1.trans e2).trans e3)
    · cases eo with
      | none => cases hb
      | some e =>
        rcases hey with ⟨a, xs, rfl, ha, _, hfo⟩ | ⟨h, _⟩
        · obtain ⟨rfl, _, _, hm, _⟩ := formedL_items hfo.symm
          have e12 := e1.trans e2
          have ha2 := e12 _ _ ha
          have hrun2 := hrun.ex e12
          refine q_when (b := decide (e.src = none ∧ sourcedE ((Run.eo r).take k) = true)) (et_is (et_and (et_test (ev_op (ev_it 3 (ev_var rfl) (st_of ha2) rfl) ev_c rv_isN)) fun _ => et_B (ev_cal (ea_cons (ev_var rfl) (ea_cons (ev_var rfl) ea_nil)) (v_sourced hrun2 (Nat.le_of_lt hk) hn2))) (by rw [srcV_non, Bool.decide_and, Bool.decide_eq_true])) (fun h1 H3 e3 => ?_) (fun h1 H3 e3 => ?_)
          · refine s_ret ev_c fun H4 e4 => ?_
            have q1 := q H4 ((e12.trans e3).trans e4)
            rw [reason_kept (of_decide_eq_true h1)] at q1
            exact q1
          have n1 := of_decide_eq_false h1
          have e13 := e12.trans e3
          refine q_call (ea_cons (ev_var rfl) (ea_cons (ev_var rfl) (ea_cons (ev_it 0 (ev_var rfl) (st_of (e13 _ _ ha)) rfl) ea_nil))) fun H4 e4 => ?_
          have e14 := e13.trans e4
          refine ⟨_, r, k, e.seat, rfl, hrun.ex e14, Nat.le_of_lt hk, hn2, fun lv5 H5 e5 hb5 => ?_⟩
          have e15 := e14.trans e5
          have ha5 := e15 _ _ ha
          refine q_when (b := riseE e (lastE e.seat ((Run.eo r).take k))) ?_ (fun h2 H6 e6 => ?_) (fun h2 H6 e6 => ?_)
          · generalize hL : lastE e.seat ((Run.eo r).take k) = L at hb5
            rcases hb5 with ⟨rfl, rfl⟩ | ⟨cc, l, rfl, rfl, hc, hml⟩
            · exact et_and (a := false) (b := false) (et_is (et_test (ev_op (ev_var rfl) ev_c rv_notN)) rfl) fun z => absurd z (by decide)
            · refine et_is (et_and (et_test (ev_op (ev_var rfl) ev_c rv_notN)) fun _ => et_test (ev_op (ev_cal (ea_cons (ev_var rfl) ea_nil) (v_rank ha5 rfl rfl hm)) (ev_cal (ea_cons (ev_var rfl) ea_nil) (v_rank hc rfl rfl hml)) rv_I0)) ?_
              rw [decide_eq_false (fun z => nomatch z : ¬ V.ref cc = .non)]
              rfl
          · refine s_ret ev_c fun H7 e7 => ?_
            have q1 := q H7 ((e15.trans e6).trans e7)
            rw [reason_rise n1 h2] at q1
            exact q1
          have n2 : ¬ riseE e (lastE e.seat ((Run.eo r).take k)) = true := by rw [h2]; decide
          have e16 := e15.trans e6
          have ha6 := e16 _ _ ha
          cases hs : e.src with
          | none =>
            refine q_when (b := true) (et_is (et_test (ev_op (ev_it 3 (ev_var rfl) (st_of ha6) rfl) ev_c rv_isN)) (by rw [srcV_non, hs]; first | done | rfl)) (fun _ H7 e7 => ?_) (fun z => absurd z (by decide))
            refine s_ret ev_c fun H8 e8 => ?_
            have q1 := q H8 ((e16.trans e7).trans e8)
            rw [reason_none n1 n2 hs] at q1
            exact q1
          | some c =>
            have hv : srcV e.src = .int c := by rw [hs]; rfl
            refine q_when (b := false) (et_is (et_test (ev_op (ev_it 3 (ev_var rfl) (st_of ha6) rfl) ev_c rv_isN)) (by rw [srcV_non, hs]; first | done | rfl)) (fun z => absurd z (by decide)) (fun _ H7 e7 => ?_)
            have e17 := e16.trans e7
            have ha7 := e17 _ _ ha
            have src : ∀ {Hx : Hp}, Hx a = some (.tup e.items) → ∀ {σ : L2.St}, σ[5]? = some (some (.ref a)) → Ev (tOp (rIxT K) (tVar 5) (tC (.int 3))) σ Hx (.int c) := fun {Hx} hx {σ} hσ => ev_is (ev_it 3 (ev_var hσ) (st_of hx) rfl) hv
            refine q_when (b := decide (c = o) && (decide (e.seat = o) && (!decide (e.mark = mA) && !decide (e.mark = mL)))) (et_and (et_test (ev_eqI (src ha7 rfl) (ev_var rfl))) fun _ => et_and (et_test (ev_eqI (ev_it 0 (ev_var rfl) (st_of ha7) rfl) (ev_var rfl))) fun _ => et_and (et_test (ev_neS (ev_it 2 (ev_var rfl) (st_of ha7) rfl) ev_c)) fun _ => et_test (ev_neS (ev_it 2 (ev_var rfl) (st_of ha7) rfl) ev_c)) (fun h3 H8 e8 => ?_) (fun h3 H8 e8 => ?_)
            · refine s_ret ev_c fun H9 e9 => ?_
              have q1 := q H9 ((e17.trans e8).trans e9)
              obtain ⟨g1, h3⟩ := Bool.and_eq_true_iff.mp h3
              obtain ⟨g2, h3⟩ := Bool.and_eq_true_iff.mp h3
              obtain ⟨g3, g4⟩ := Bool.and_eq_true_iff.mp h3
              have g1 := of_decide_eq_true g1
              subst g1
              rw [reason_own n1 n2 hs (of_decide_eq_true g2) (fun z => z.elim (fun y => by rw [decide_eq_true y] at g3; cases g3) (fun y => by rw [decide_eq_true y] at g4; cases g4))] at q1
              exact q1
            have e18 := e17.trans e8
            have ha8 := e18 _ _ ha
            refine q_when (b := decide (c = o) && (!decide (e.seat = o) && doubtE e (lastE e.seat ((Run.eo r).take k)) (decide (o ∈ lack)))) (et_and (et_test (ev_eqI (src ha8 rfl) (ev_var rfl))) fun _ => et_and (et_test (ev_neI (ev_it 0 (ev_var rfl) (st_of ha8) rfl) (ev_var rfl))) fun _ => et_B (ev_cal (ea_cons (ev_var rfl) (ea_cons (ev_var rfl) (ea_cons (ev_op (ev_var rfl) (ev_var rfl) (rv_part (hp.ex e18))) ea_nil))) (v_doubt ha8 hm (((hb5.ex e6).ex e7).ex e8)))) (fun h4 H9 e9 => ?_) (fun h4 H9 e9 => ?_)
            · refine s_ret ev_c fun H10 e10 => ?_
              have q1 := q H10 ((e18.trans e9).trans e10)
              obtain ⟨g1, h4⟩ := Bool.and_eq_true_iff.mp h4
              obtain ⟨g2, g3⟩ := Bool.and_eq_true_iff.mp h4
              have g1 := of_decide_eq_true g1
              subst g1
              rw [reason_doubt n1 n2 hs (fun y => by rw [decide_eq_true y] at g2; cases g2) g3] at q1
              exact q1
            have e19 := e18.trans e9
            have ha9 := e19 _ _ ha
            refine q_when (b := decide (c = o) || decide (c ∈ lack)) (et_or (et_test (ev_eqI (src ha9 rfl) (ev_var rfl))) fun _ => et_test (ev_op (src ha9 rfl) (ev_var rfl) (rv_part (hp.ex e19)))) (fun h5 H10 e10 => ?_) (fun h5 H10 e10 => ?_)
            · refine s_ret ev_c fun H11 e11 => ?_
              have q1 := q H11 ((e19.trans e10).trans e11)
              have hz : reasonE (eoJ J) lack o ((Run.eo r).take k) (some e) = none := by
                by_cases g1 : c = o
                · subst g1
                  rw [decide_eq_true rfl, Bool.true_and] at h3 h4
                  by_cases g2 : e.seat = c
                  · rw [decide_eq_true g2, Bool.true_and] at h3
                    refine reason_ok n1 n2 hs g2 ?_
                    by_cases g3 : e.mark = mA
                    · exact .inl g3
                    · rw [decide_eq_false g3] at h3
                      by_cases g4 : e.mark = mL
                      · exact .inr g4
                      · rw [decide_eq_false g4] at h3; cases h3
                  · rw [decide_eq_false g2] at h4
                    refine reason_nodoubt n1 n2 hs g2 ?_
                    rw [show doubtE e (lastE e.seat ((Run.eo r).take k)) (decide (c ∈ lack)) = false from h4]
                    decide
                · rw [decide_eq_false g1, Bool.false_or] at h5
                  exact reason_lack n1 n2 hs g1 (of_decide_eq_true h5)
              rw [hz] at q1
              exact q1
            rw [Bool.or_eq_false_iff] at h5
            have g1 := of_decide_eq_false h5.1
            have g2 := of_decide_eq_false h5.2
            have e1A := e19.trans e10
            have haA := e1A _ _ ha
            refine q_when (et_not (et_said (ev_var rfl) (src haA rfl) (ev_var rfl) (hJ.ex e1A) haA hm)) (fun h6 H11 e11 => ?_) (fun h6 H11 e11 => ?_)
            · refine s_ret ev_c fun H12 e12 => ?_
              have q1 := q H12 ((e1A.trans e11).trans e12)
              rw [reason_src n1 n2 hs g1 g2, if_neg (by intro z; rw [z] at h6; cases h6)] at q1
              exact q1
            · refine s_ret ev_c fun H12 e12 => ?_
              have q1 := q H12 ((e1A.trans e11).trans e12)
              rw [reason_src n1 n2 hs g1 g2, if_pos (by cases z : saidE (eoJ J c) e with | true => rfl | false => rw [z] at h6; cases h6)] at q1
              exact q1
        · cases h
end
end Lr
set_option Elab.async false
set_option linter.all false
set_option maxRecDepth 100000
set_option maxHeartbeats 4000000
namespace Lr
open PySem L2 Evl
theorem rstr_ne {look : Int → List (List Eo)} {lack : List Int} {o : Int} {pre : List Eo} {eo : Eo} {z : Str} (h : reasonE look lack o pre eo = some z) : decide (z = ("" : Str)) = false := by
  rcases reasonE_ne h with (rfl | rfl | rfl) | (rfl | rfl | rfl) <;> decide +kernel
section
variable {P : Program} {w : World} {K : PySem.W.Frag} {mg : Str → Option Value} {base : Heap} {aM aS aO aB aE : Addr} {f : Addr} {fd : FuncData}
theorem v_lreason {H : Hp} {d : Addr} {lv : V} {o : Int} {rv : V} {k : Nat} {J : Jrn} {lack : List Int} {r : Run} (hJ : JrnS H d J) (hp : PartAt K H lv lack) (hr : RunAt H rv r) (hk : k < r.length) (hn : r.length ≤ 1000) :
    SpV (spLReason K) [.ref d, lv, .int o, rv, .int (k : Nat)] H (.str (rstr (reasonE (eoJ J) lack o ((Run.eo r).take k) ((Run.eo r).getD k none)))) := fun H1 e1 Q q E => ⟨d, lv, o, rv, k, J, lack, r, rfl, hJ.ex e1, hp.ex e1, hr.ex e1, hk, hn, q⟩
theorem sc_law_due : FnScope ["_law_journals", "_law_lacking", "_law_due_here", "_law_owner", "_law_runs", "_law_turn", "_law_k", "_law_reason_here"] ["_law_journals", "_law_lacking"] (defScope (top 31)) := ⟨rfl, rfl, rfl, by decide +kernel, rfl, by decide +kernel, by decide +kernel⟩
theorem ok_law_due {fr : Addr} {fdr : FuncData} (F : FnP K "_law_due" (top 31) f fd) (T : Tx K w mg aM aS aO aB) (c_law_reason : Cal P w K mg base "_law_reason" 4 ["_law_journals", "_law_lacking", "_law_owner", "_law_run", "_law_at"] (spLReason K) fr fdr) :
    FnOk P w K mg base CX0 5 f fd ["_law_journals", "_law_lacking"] (spWrong K) := by
  refine F.ok sc_law_due (fun vs H Q E h => ?_) (fun cdv A outer s H vs Q E hr h => ?_)
  · obtain ⟨d, p, J, lack, rfl, _⟩ := h
    rfl
  · obtain ⟨d, p, J, lack, rfl, hJ, hB, hp, q⟩ := h
    have hu := hu_of hr
    refine ⟨_, PSs.nox (pss_cons (ps_set (i := 2) sc_law_due.nd rfl (Or.inl rfl) (pe_lst pa_nil))
      (pss_cons (ps_for PassesOwn.never rfl (pi_list (pe_callB (call_sortedDI rfl) (by rfl) T.sorted (by decide +kernel) (pa_cons (pv 0) pa_nil))) (pg_name (i := 3) sc_law_due.nd rfl (Or.inl rfl))
        (pss_cons (ps_set (i := 4) sc_law_due.nd rfl (Or.inl rfl) (pe_dget hu (pv 0) (pv 3) (fun _ _ => rfl)))
        (pss_one (ps_for PassesOwn.never rfl (pi_range1 rfl T.range (pa_cons (pe_callB call_len_seq (by rfl) T.len PySem.boot_len (pa_cons (pv 4) pa_nil)) pa_nil)) (pg_name (i := 5) sc_law_due.nd rfl (Or.inl rfl))
          (pss_one (ps_for PassesOwn.never rfl (pi_range1 rfl T.range (pa_cons (pe_callB call_len_seq (by rfl) T.len PySem.boot_len (pa_cons (pe_ix ix_list (pv 4) (pv 5) (fun _ _ => rfl)) pa_nil)) pa_nil)) (pg_name (i := 6) sc_law_due.nd rfl (Or.inl rfl))
            (pss_cons (ps_set (i := 7) sc_law_due.nd rfl (Or.inl rfl) (pe_cal c_law_reason (hr.mono (by decide)) (by rfl) (pa_cons (pv 0) (pa_cons (pv 1) (pa_cons (pv 3) (pa_cons (pe_ix ix_list (pv 4) (pv 5) (fun _ _ => rfl)) (pa_cons (pv 6) pa_nil)))))))
            (pss_one (ps_if (pt_cmpR op_ne (pv 7) pe_str (nomark _))
              (pss_one (ps_expr (pe_bm PySem.F.plainAttrs_list PySem.F.slot_list_append PySem.F.type_list_append mt_append (pv 2) (pa_cons (pe_tup (pa_cons (pv 3) (pa_cons (pv 5) (pa_cons (pv 6) (pa_cons (pv 7) pa_nil))))) pa_nil))))
              pss_nil)))))))))
      (pss_one (ps_ret (pv 2))))), ?_⟩
    refine q_asgL (el_lst ea_nil (by decide)) fun fl H3 nfl e13 hfl => ?_
    have hkl : J.length < 64 := by have := hB.n; omega
    obtain ⟨kvs, hd, hk⟩ := id hJ
    refine q_forNLn (xs := (srt (keysJ J)).map V.int) (el_sortedD (ev_var rfl) (hJ.ex e13) hkl)
      (fun u i σ' H' => (∃ x3 x4 x5 x6 x7, σ' = [some (.ref d), some p, some (.ref fl), x3, x4, x5, x6, x7]) ∧ Ex H H' ∧ (H' u = some (.lst ((srt (keysJ J)).map V.int)) ∧ u ≠ fl) ∧ RowsAt H' fl (gath i fun i => rowsOf (eoJ J) lack ((srt (keysJ J)).getD i 0)))
      (fun u H4 nu e4 hu4 => ⟨⟨_, _, _, _, _, rfl⟩, e13.trans e4, ⟨hu4, (ne_of_none hfl nu).symm⟩, [], e4 _ _ hfl, .nil⟩) (fun u i σ' H' _ h => sq_of h.2.2.1.1) ?_ ?_
    · rintro u i x σ' H' hx ⟨⟨x3, x4, x5, x6, x7, rfl⟩, eH, hu4, hrows⟩
      obtain ⟨o, ho, rfl⟩ : ∃ o, (srt (keysJ J))[i]? = some o ∧ V.int o = x := by
        rw [List.getElem?_map] at hx
        cases e : (srt (keysJ J))[i]? with
        | none => rw [e] at hx; cases hx
        | some o => rw [e] at hx; exact ⟨o, rfl, Option.some.inj hx⟩
      have hi8 : i < 8 := by
        have h1 := (List.getElem?_eq_some_iff.mp ho).1
        rw [srt_len, List.length_map] at h1
        have := hB.n
        omega
      have hmo : o ∈ keysJ J := (srt_perm _).mem_iff.mp (List.mem_of_getElem? ho)
      have hgo : (srt (keysJ J)).getD i 0 = o := by rw [List.getD_eq_getElem?_getD, ho]; rfl
      rcases kvs_val hk o with ⟨_, hno, _⟩ | ⟨rv, hval, hruns, _⟩
      · obtain ⟨j, hj, e⟩ := List.mem_map.mp hmo
        exact absurd e (hno j hj)
      obtain ⟨ra, rvs, rfl, hra, hrp⟩ := hruns
      have hlb := look_bnd hB o
      have hrl' : rvs.length = (lookJ J o).length := hrp.length
      have hbase : (gath i fun i => rowsOf (eoJ J) lack ((srt (keysJ J)).getD i 0)).length ≤ 6400 := by
        have := gath_len (f := fun i => rowsOf (eoJ J) lack ((srt (keysJ J)).getD i 0)) (fun i => rowsOf_len hB lack _) i
        omega
      refine q_asg (ev_dget (ev_var rfl) (ev_var rfl) fun H4 e4 => (by rw [← hval]; exact DGet.k (k := Sum.inl o) (e4 _ _ (eH _ _ hd)))) fun H4 e4 => ?_
      have e04 := eH.trans e4
      refine s_forR1 (n := (rvs.length : Nat)) (ea_cons (ev_len (ev_var rfl) (sq_of (e04 _ _ hra))) ea_nil) ⟨by omega, by have := hlb.1; omega⟩
        (fun t σ' H' => (∃ x5 x6 x7, σ' = [some (.ref d), some p, some (.ref fl), some (.int o), some (.ref ra), x5, x6, x7]) ∧ Ex H H' ∧ (H' u = some (.lst ((srt (keysJ J)).map V.int)) ∧ u ≠ fl) ∧
          RowsAt H' fl ((gath i fun i => rowsOf (eoJ J) lack ((srt (keysJ J)).getD i 0)) ++ gath t fun t => rowsRun (eoJ J) lack o t ((eoJ J o).getD t [])))
        (fun H5 e5 => ⟨⟨_, _, _, rfl⟩, e04.trans e5, ⟨e5 _ _ (e4 _ _ hu4.1), hu4.2⟩, by rw [gath_zero, List.append_nil]; exact (hrows.ex e4).ex e5⟩) ?_ ?_
      · rintro t σ' H5 ht ⟨⟨x5, x6, x7, rfl⟩, e05, hu4, hrows⟩
        have ht2 : t < rvs.length := by omega
        have hrx : rvs[t]? = some rvs[t] := List.getElem?_eq_getElem ht2
        revert hrx
        generalize rvs[t] = rx
        intro hrx
        obtain ⟨r, hr1, hrun⟩ := paired_at hrp hrx
        have ht8 : t < 8 := by
          have := (List.getElem?_eq_some_iff.mp hr1).1
          have := hlb.1
          omega
        have hr100 := hlb.2 r (List.mem_of_getElem? hr1)
        have heo : (eoJ J o).getD t [] = Run.eo r := by
          unfold eoJ
          rw [List.getD_eq_getElem?_getD, List.getElem?_map, hr1]
          rfl
        have hbase2 : (gath t fun t => rowsRun (eoJ J) lack o t ((eoJ J o).getD t [])).length ≤ 800 := by
          have := gath_len (f := fun t => rowsRun (eoJ J) lack o t ((eoJ J o).getD t [])) (fun t => rowsRun_len hB lack o t) t
          omega
        obtain ⟨a2, ea2, hl2, _⟩ := id hrun
        obtain ⟨ys, hl2, hyl⟩ : ∃ ys : List V, H a2 = some (.lst ys) ∧ ys.length = r.length := ⟨_, hl2, List.length_map _⟩
        refine s_forR1 (n := (ys.length : Nat)) (ea_cons (ev_len (p := a2) (xs := ys) (ev_is (ev_op (ev_var rfl) (ev_var rfl) (rv_ixL' (sq_of (e05 _ _ hra)) hrx)) ea2) (sq_of (e05 _ _ hl2))) ea_nil) ⟨by omega, by omega⟩
          (fun k σ' H' => (∃ x6 x7, σ' = [some (.ref d), some p, some (.ref fl), some (.int o), some (.ref ra), some (.int (t : Nat)), x6, x7]) ∧ Ex H H' ∧ (H' u = some (.lst ((srt (keysJ J)).map V.int)) ∧ u ≠ fl) ∧
            RowsAt H' fl (((gath i fun i => rowsOf (eoJ J) lack ((srt (keysJ J)).getD i 0)) ++ gath t fun t => rowsRun (eoJ J) lack o t ((eoJ J o).getD t [])) ++ gath k (rowAt (eoJ J) lack o t (Run.eo r))))
          (fun H6 e6 => ⟨⟨_, _, rfl⟩, e05.trans e6, ⟨e6 _ _ hu4.1, hu4.2⟩, by rw [gath_zero, List.append_nil]; exact hrows.ex e6⟩) ?_ ?_
        · rintro k σ' H6 hk0 ⟨⟨x6, x7, rfl⟩, eH, hu4, hrows⟩
          rw [hyl] at hk0
          have hk1 : k < r.length := by omega
          have hk2 : (Run.eo r)[k]? = some r[k].2 := by
            show (r.map (·.2))[k]? = _
            rw [List.getElem?_map, List.getElem?_eq_getElem hk1]
            rfl
          have hgk : (Run.eo r).getD k none = r[k].2 := by rw [List.getD_eq_getElem?_getD, hk2]; rfl
          have hrw : rowAt (eoJ J) lack o t (Run.eo r) k = match reasonE (eoJ J) lack o ((Run.eo r).take k) r[k].2 with
            | some z => [(o, t, k, z)]
            | none => [] := by
            unfold rowAt
            rw [hk2]
            all_goals rfl
          refine q_asg (ev_cal (ea_cons (ev_var rfl) (ea_cons (ev_var rfl) (ea_cons (ev_var rfl) (ea_cons (ev_op (ev_var rfl) (ev_var rfl) (rv_ixL' (sq_of (eH _ _ hra)) hrx)) (ea_cons (ev_var rfl) ea_nil))))) (v_lreason (hJ.ex eH) (hp.ex eH) (hrun.ex eH) hk1 (by omega))) fun H7 e7 => ?_
          rw [hgk]
          cases hre : reasonE (eoJ J) lack o ((Run.eo r).take k) r[k].2 with
          | none =>
            rw [hre] at hrw
            refine s_when (b := false) (et_is (et_test (ev_neS (ev_var rfl) ev_c)) rfl) (fun z => absurd z (by decide)) (fun _ H8 e8 => ?_)
            have e78 := e7.trans e8
            refine ⟨⟨_, _, rfl⟩, eH.trans e78, ⟨e78 _ _ hu4.1, hu4.2⟩, ?_⟩
            rw [gath_succ, hrw, List.append_nil]
            exact hrows.ex e78
          | some z =>
            have hne := rstr_ne hre
            rw [hre] at hrw
            refine s_when (b := true) (et_is (et_test (ev_neS (ev_var rfl) ev_c)) (by rw [show rstr (some z) = z from rfl, hne]; rfl)) (fun _ H8 e8 => ?_) (fun z => absurd z (by decide))
            have e78 := e7.trans e8
            obtain ⟨vs, hvs, hpr⟩ := hrows.ex e78
            have hvl : vs.length < 100000 := by
              have h1 := hpr.length
              have h2 := gath_row (eoJ J) lack o t (Run.eo r) k
              rw [List.length_append, List.length_append] at h1
              omega
            refine s_appU (l := fl) (xs := vs) hvs (ev_var rfl) (eu_tup (ea_cons (ev_var rfl) (ea_cons (ev_var rfl) (ea_cons (ev_var rfl) (ea_cons (ev_var rfl) ea_nil)))) (by show 4 ≤ 100000; decide)) hvl fun tp H9 ntp e9 htp => ?_
            have e79 := e78.trans e9
            refine ⟨⟨_, _, rfl⟩, (eH.trans e79).mut nfl, ⟨by rw [upd_ne hu4.2]; exact e79 _ _ hu4.1, hu4.2⟩, ?_⟩
            rw [gath_succ, hrw, ← List.append_assoc]
            exact RowsAt.snoc (r := (o, t, k, z)) (e9 _ _ hvs) (Paired.mono hpr fun _ _ z => z.ex e9) htp
        · rintro σ' H6 ⟨⟨x6, x7, rfl⟩, eH, hu4, hrows⟩
          refine ⟨⟨_, _, _, rfl⟩, eH, hu4, ?_⟩
          rw [Int.toNat_natCast, hyl] at hrows
          rw [gath_succ, heo, ← List.append_assoc]
          unfold rowsRun
          rw [show (Run.eo r).length = r.length from List.length_map _]
          exact hrows
      · rintro σ' H4 ⟨⟨x5, x6, x7, rfl⟩, eH, hu4, hrows⟩
        refine ⟨⟨_, _, _, _, _, rfl⟩, eH, hu4, ?_⟩
        rw [Int.toNat_natCast] at hrows
        rw [gath_succ, hgo]
        unfold rowsOf
        rw [show (eoJ J o).length = rvs.length by unfold eoJ; rw [List.length_map, hrl']]
        exact hrows
    · rintro u σ' H' ⟨⟨x3, x4, x5, x6, x7, rfl⟩, eH, hu4, hrows⟩
      refine ⟨_, rfl, q fl H' nfl eH ?_⟩
      rw [List.length_map] at hrows
      exact hrows
end
end Lr
set_option Elab.async false
set_option linter.all false
set_option maxRecDepth 100000
set_option maxHeartbeats 4000000
namespace Lr
open PySem L2 Evl
def RowOk (r : Row) : Prop := PySem.PyData.strOk r.2.2.2 = true
theorem gath_mem {n : Nat} {f : Nat → List Row} {r : Row} (h : r ∈ gath n f) : ∃ i, r ∈ f i := by
  unfold gath at h
  obtain ⟨i, _, hi⟩ := List.mem_flatMap.mp h
  exact ⟨i, hi⟩
theorem rows_ok {look : Int → List (List Eo)} {lack os : List Int} {r : Row} (h : r ∈ rows look lack os) : RowOk r := by
  obtain ⟨i, h⟩ := gath_mem h
  obtain ⟨t, h⟩ := gath_mem h
  obtain ⟨k, h⟩ := gath_mem h
  unfold rowAt at h
  split at h
  · cases h
  · split at h
    · rename_i z hz
      have e : r = _ := List.mem_singleton.mp h
      subst e
      show PySem.PyData.strOk z = true
      rcases reasonE_ne hz with (rfl | rfl | rfl) | (rfl | rfl | rfl) <;> decide +kernel
    · cases h
theorem rows_len {J : Jrn} (h : Bnd J) (lack : List Int) : (rows (eoJ J) lack (srt (keysJ J))).length ≤ 6400 := by
  have := gath_len (f := fun i => rowsOf (eoJ J) lack ((srt (keysJ J)).getD i 0)) (fun i => rowsOf_len h lack _) (srt (keysJ J)).length
  have h2 : (srt (keysJ J)).length = J.length := by rw [srt_len, List.length_map]
  have := h.n
  unfold rows
  omega
def dRow (r : Row) : PyData := .tuple [.int r.1, .int (r.2.1 : Nat), .int (r.2.2.1 : Nat), .str r.2.2.2]
theorem dRow_shaped {r : Row} (h : RowOk r) : SeqAt.shaped (dRow r) = true := by
  have : PySem.PyData.strOk r.2.2.2 = true := h
  simp [SeqAt.shaped, dRow, PyData.canLay0, PyData.canLayAll0, this, PyData.depth, PyData.depthAll]
theorem dRow_eqv (r : Row) : PyData.eqv (dRow r) (dRow r) = true := by
  unfold dRow
  simp [PyData.eqv, PyData.eqvAll]
section
variable {P : Program} {w : World} {K : PySem.W.Frag} {mg : Str → Option Value} {base : Heap} {aM aS aO aB aE : Addr} {f : Addr} {fd : FuncData}
/-! ### _law_same_word -/
def spWord : Sp := fun vs H Q _ => ∃ v v' r, vs = [v, v'] ∧ RowAt H v r ∧ RowAt H v' r ∧ RowOk r ∧ ∀ H', Ex H H' → Q (.bl true) H'
theorem v_word {H : Hp} {v v' : V} {r : Row} (h : RowAt H v r) (h' : RowAt H v' r) (ok : RowOk r) : SpV spWord [v, v'] H (.bl true) := fun H1 e1 Q k E => ⟨v, v', r, rfl, h.ex e1, h'.ex e1, ok, k⟩
theorem sc_law_same_word : FnScope ["_law_row", "_law_due_here", "_law_k"] ["_law_row", "_law_due_here"] (defScope (top 40)) := ⟨rfl, rfl, rfl, by decide +kernel, rfl, by decide +kernel, by decide +kernel⟩
theorem ok_law_same_word (F : FnP K "_law_same_word" (top 40) f fd) (T : Tx K w mg aM aS aO aB) : FnOk P w K mg base CX0 1 f fd ["_law_row", "_law_due_here"] spWord := by
  refine F.ok sc_law_same_word (fun vs H Q E h => ?_) (fun cdv A outer s H vs Q E hr h => ?_)
  · obtain ⟨v, v', r, rfl, _⟩ := h
    rfl
  · obtain ⟨v, v', r, rfl, ⟨a, rfl, ha⟩, ⟨b, rfl, hb⟩, ok, q⟩ := h
    refine ⟨_, PSs.nox (pss_cons (ps_if (PW.pt (pw_or (pt_not (pt_val (pe_isi (n := "tuple") (by rfl) T.isinstance (by rfl) T.tuple (by decide +kernel) (pv 0)))) (pw_or1 (pt_cmpR op_ne (pe_callB call_len_seq (by rfl) T.len PySem.boot_len (pa_cons (pv 0) pa_nil)) pe_int (nomark _)))))
        (pss_one (ps_ret pe_bl))
        pss_nil)
      (pss_cons (ps_for PassesOwn.never rfl (pi_range1 rfl T.range (pa_cons pe_int pa_nil)) (pg_name (i := 2) sc_law_same_word.nd rfl (Or.inl rfl))
        (pss_one (ps_if (PW.pt (pw_or (pt_not (pt_val (pe_isi (n := "int") (by rfl) T.isinstance (by rfl) T.int (by decide +kernel) (pe_ix ix_tup (pv 0) (pv 2) (fun _ _ => rfl))))) (pw_or1 (pt_val (pe_isi (n := "bool") (by rfl) T.isinstance (by rfl) T.bool (by decide +kernel) (pe_ix ix_tup (pv 0) (pv 2) (fun _ _ => rfl)))))))
          (pss_one (ps_ret pe_bl))
          pss_nil)))
      (pss_one (ps_ret (pe_and (pe_isi (n := "str") (by rfl) T.isinstance (by rfl) T.str (by decide +kernel) (pe_ix ix_tup (pv 0) pe_int (fun _ _ => rfl))) (pe_one (pe_cmpR (op_eqD hr.units) (pv 0) (pv 1) (nomark _)))))))), ?_⟩
    refine q_when (b := false) (et_is (et_or (et_not (et_B (ev_isB (ev_var rfl) fun H1 e1 => isB_tup (e1 _ _ ha) k_tup_tuple))) fun _ => et_test (ev_neI (ev_lenU (ev_var rfl) (st_of ha)) ev_c)) (by simp)) (fun z => absurd z (by decide)) (fun _ H1 e1 => ?_)
    refine q_forR1 (n := 3) (ea_cons ev_c ea_nil) ⟨by decide, by decide⟩ (fun i σ' H' => (∃ x2, σ' = [some (.ref a), some (.ref b), x2]) ∧ Ex H H') (fun H2 e2 => ⟨⟨_, rfl⟩, e1.trans e2⟩) ?_ ?_
    · rintro i σ' H' hi ⟨⟨x2, rfl⟩, eH⟩
      have ha' := eH _ _ ha
      obtain ⟨z, hz⟩ : ∃ z, ([V.int r.1, .int (r.2.1 : Nat), .int (r.2.2.1 : Nat), .str r.2.2.2] : List V)[i]? = some (.int z) := by
        match i, hi with
        | 0, _ => exact ⟨_, rfl⟩
        | 1, _ => exact ⟨_, rfl⟩
        | 2, _ => exact ⟨_, rfl⟩
        | n + 3, h => exact absurd h (by omega)
      refine s_when (b := false) (et_or (et_not (et_B (ev_isB (ev_op (ev_var rfl) (ev_var rfl) (rv_ixT' (st_of ha') hz)) fun _ _ => isB_int k_int_int))) fun _ => et_B (ev_isB (ev_op (ev_var rfl) (ev_var rfl) (rv_ixT' (st_of ha') hz)) fun _ _ => isB_int k_int_bool)) (fun z => absurd z (by decide)) (fun _ H2 e2 => ?_)
      exact ⟨⟨_, rfl⟩, eH.trans e2⟩
    · rintro σ' H' ⟨⟨x2, rfl⟩, eH⟩
      have ha' := eH _ _ ha
      have hb' := eH _ _ hb
      refine s_ret (ev_andV (b := true) (ev_isB (ev_it 3 (ev_var rfl) (st_of ha') rfl) fun _ _ => isB_str k_str_str) fun _ => ev_op (ev_var rfl) (ev_var rfl) fun H2 e2 Q' k => ?_) fun H2 e2 => q H2 (eH.trans e2)
      refine ⟨dRow r, dRow r, .tup (st_of (e2 _ _ ha')) (.cons (.int _) (.cons (.int _) (.cons (.int _) (.cons (.str _) .nil)))), .tup (st_of (e2 _ _ hb')) (.cons (.int _) (.cons (.int _) (.cons (.int _) (.cons (.str _) .nil)))), dRow_shaped ok, dRow_shaped ok, ?_⟩
      rw [dRow_eqv]
      exact k H2 (Ex.refl _)
/-! ### _law_same_list -/
def spSame : Sp := fun vs H Q _ => ∃ a b rs, vs = [.ref a, .ref b] ∧ RowsAt H a rs ∧ RowsAt H b rs ∧ (∀ r ∈ rs, RowOk r) ∧ rs.length ≤ 10000 ∧ ∀ H', Ex H H' → Q (.bl true) H'
theorem v_same {H : Hp} {a b : Addr} {rs : List Row} (h : RowsAt H a rs) (h' : RowsAt H b rs) (ok : ∀ r ∈ rs, RowOk r) (hl : rs.length ≤ 10000) : SpV spSame [.ref a, .ref b] H (.bl true) := fun H1 e1 Q k E => ⟨a, b, rs, rfl, h.ex e1, h'.ex e1, ok, hl, k⟩
theorem sc_law_same_list : FnScope ["_law_rows", "_law_due_here", "_law_k"] ["_law_rows", "_law_due_here"] (defScope (top 41)) := ⟨rfl, rfl, rfl, by decide +kernel, rfl, by decide +kernel, by decide +kernel⟩
theorem ok_law_same_list {fw : Addr} {fdw : FuncData} (F : FnP K "_law_same_list" (top 41) f fd) (T : Tx K w mg aM aS aO aB) (c_law_same_word : Cal P w K mg base "_law_same_word" 1 ["_law_row", "_law_due_here"] spWord fw fdw) :
    FnOk P w K mg base CX0 2 f fd ["_law_rows", "_law_due_here"] spSame := by
  refine F.ok sc_law_same_list (fun vs H Q E h => ?_) (fun cdv A outer s H vs Q E hr h => ?_)
  · obtain ⟨a, b, rs, rfl, _⟩ := h
    rfl
  · obtain ⟨a, b, rs, rfl, ⟨vs, ha, hpa⟩, ⟨ws, hb, hpb⟩, ok, hl, q⟩ := h
    refine ⟨_, PSs.nox (pss_cons (ps_if (PW.pt (pw_or (pt_not (pt_val (pe_isi (n := "list") (by rfl) T.isinstance (by rfl) T.list (by decide +kernel) (pv 0)))) (pw_or1 (pt_cmpR op_ne (pe_callB call_len_seq (by rfl) T.len PySem.boot_len (pa_cons (pv 0) pa_nil)) (pe_callB call_len_seq (by rfl) T.len PySem.boot_len (pa_cons (pv 1) pa_nil)) (nomark _)))))
        (pss_one (ps_ret pe_bl))
        pss_nil)
      (pss_cons (ps_for PassesOwn.never rfl (pi_range1 rfl T.range (pa_cons (pe_callB call_len_seq (by rfl) T.len PySem.boot_len (pa_cons (pv 1) pa_nil)) pa_nil)) (pg_name (i := 2) sc_law_same_list.nd rfl (Or.inl rfl))
        (pss_one (ps_if (pt_not (pt_val (pe_cal c_law_same_word (hr.mono (by decide)) (by rfl) (pa_cons (pe_ix ix_list (pv 0) (pv 2) (fun _ _ => rfl)) (pa_cons (pe_ix ix_list (pv 1) (pv 2) (fun _ _ => rfl)) pa_nil)))))
          (pss_one (ps_ret pe_bl))
          pss_nil)))
      (pss_one (ps_ret pe_bl)))), ?_⟩
    have hla := hpa.length
    have hlb := hpb.length
    refine q_when (b := false) (et_is (et_or (et_not (et_B (ev_isB (ev_var rfl) fun H1 e1 => isB_lst (e1 _ _ ha) k_lst_list))) fun _ => et_test (ev_neI (ev_len (ev_var rfl) (sq_of ha)) (ev_len (ev_var rfl) (sq_of hb)))) (by rw [hla, hlb]; simp)) (fun z => absurd z (by decide)) (fun _ H1 e1 => ?_)
    refine q_forR1 (n := (ws.length : Nat)) (ea_cons (ev_len (ev_var rfl) (sq_of (e1 _ _ hb))) ea_nil) ⟨by omega, by omega⟩ (fun i σ' H' => (∃ x2, σ' = [some (.ref a), some (.ref b), x2]) ∧ Ex H H') (fun H2 e2 => ⟨⟨_, rfl⟩, e1.trans e2⟩) ?_ ?_
    · rintro i σ' H' hi ⟨⟨x2, rfl⟩, eH⟩
      have h1 : i < vs.length := by omega
      have h2 : i < ws.length := by omega
      have g1 : vs[i]? = some vs[i] := List.getElem?_eq_getElem h1
      have g2 : ws[i]? = some ws[i] := List.getElem?_eq_getElem h2
      obtain ⟨r1, hr1, k1⟩ := paired_at hpa g1
      obtain ⟨r2, hr2, k2⟩ := paired_at hpb g2
      rw [hr1] at hr2
      cases hr2
      refine s_when (b := false) (et_is (et_not (et_B (ev_cal (ea_cons (ev_op (ev_var rfl) (ev_var rfl) (rv_ixL' (sq_of (eH _ _ ha)) g1)) (ea_cons (ev_op (ev_var rfl) (ev_var rfl) (rv_ixL' (sq_of (eH _ _ hb)) g2)) ea_nil)) (v_word (k1.ex eH) (k2.ex eH) (ok _ (List.mem_of_getElem? hr1)))))) rfl) (fun z => absurd z (by decide)) (fun _ H2 e2 => ?_)
      exact ⟨⟨_, rfl⟩, eH.trans e2⟩
    · rintro σ' H' ⟨⟨x2, rfl⟩, eH⟩
      exact s_ret ev_c fun H2 e2 => q H2 (eH.trans e2)
end
/-! ### _law_copied -/
theorem RunsAt.upd_d {H : Hp} {v : V} {rs : List Run} {d : Addr} {kvs kvs' : List (L2.Key × V)} (h : RunsAt H v rs) (hd : H d = some (.dK kvs)) : RunsAt (upd H d (.dK kvs')) v rs :=
  h.stay ⟨fun b xs z => by rw [upd_ne (ne_of z hd fun q => nomatch q)]; exact z, fun b xs z => by rw [upd_ne (ne_of z hd fun q => nomatch q)]; exact z⟩
/-- [list(run) for run in journals[owner]] -/
theorem evp_copy {K : PySem.W.Frag} {σ : L2.St} {H : Hp} {tl : TE} {v0 : V} {rs : List Run} {j : Nat} (h : Ev tl σ H v0) (hv : RunsAt H v0 rs) (hn : rs.length ≤ 1000) (hj : j < σ.length) :
    EvP (tLc (iList K tl) (gName j) tYes (tCB (rListS K) (tCons (tVar j) tNil)) [j]) σ H fun v H' => RunsAt H' v rs := by
  intro H1 e1 Q k
  obtain ⟨a, xs, rfl, ha, hp⟩ := hv
  refine h H1 e1 _ fun H2 e2 => ?_
  have e02 := e1.trans e2
  have ha2 := e02 _ _ ha
  refine ⟨a, rfl, ⟨xs, sq_of ha2⟩, fun D hD => ?_⟩
  have hlen := hp.length
  refine lc_list (K := K) (a := a) (xs := xs) (fun i H' => Ex H2 H' ∧ ∃ ys, H' D = some (.lst ys) ∧ Paired (fun v r => RunAt H' v r ∧ v ≠ .ref D) ys (rs.take i)) ⟨Ex.new hD, [], upd_same, .nil⟩ (fun i H' _ h => sq_of (h.1 _ _ ha2)) ?_ ?_
  · rintro i x H' hx ⟨eH, ys, hys, hpp⟩
    obtain ⟨r, hr, hrun⟩ := paired_at hp hx
    have hrun' := (hrun.ex e02).ex eH
    obtain ⟨b, rfl, hb, hent⟩ := hrun'
    have hi : i < 1000 := by
      have := (List.getElem?_eq_some_iff.mp hr).1
      omega
    refine ⟨?_, ?_⟩
    · show ((σ.set j none).set j (some (.ref b))).set j none = σ.set j none
      rw [List.set_set, List.set_set]
    show (tCB (rListS K) (tCons (tVar j) tNil)) _ H' _
    refine ⟨.ref b, ?_, ?_⟩
    · show ((σ.set j none).set j (some (.ref b)))[j]? = _
      rw [List.set_set, List.getElem?_set_self hj]
    refine ⟨b, _, rfl, .inl (sq_of hb), fun l hl => ?_⟩
    have e3 : Ex H' (upd H' l (.lst (r.map (·.1)))) := Ex.new hl
    have nDl : D ≠ l := ne_of_none hys hl
    have hyl : ys.length ≤ 1000 := by
      have := hpp.length
      rw [List.length_take] at this
      omega
    refine ⟨ys, e3 _ _ hys, sz_lt (by omega), (eH.trans e3).mut hD, _, upd_same, ?_⟩
    rw [take_snoc hr]
    have up : ∀ {v : V} {q : Run}, RunAt (upd H' l (.lst (r.map (·.1)))) v q → v ≠ .ref D → RunAt (upd (upd H' l (.lst (r.map (·.1)))) D (.lst (ys ++ [.ref l]))) v q := fun {v q} hv hn => by
      obtain ⟨c, rfl, hc, he⟩ := hv
      have ncD : c ≠ D := fun z => hn (by rw [z])
      refine ⟨c, rfl, by rw [upd_ne ncD]; exact hc, fun p hp => (he p hp).stay (fun b xs z => by rw [upd_ne (ne_of z (e3 _ _ hys) fun q => nomatch q)]; exact z) fun b xs _ z => ?_⟩
      by_cases hbD : b = D
      · exact ⟨_, by rw [hbD]; exact upd_same⟩
      · exact ⟨xs, by rw [upd_ne hbD]; exact z⟩
    refine Paired.snoc (Paired.mono hpp fun v q z => ⟨up (z.1.ex e3) z.2, z.2⟩) ⟨up ⟨l, rfl, upd_same, fun p hp => (hent p hp).ex e3⟩ (fun z => nDl (V.ref.inj z).symm), fun z => nDl (V.ref.inj z).symm⟩
  · rintro H' ⟨eH, ys, hys, hpp⟩
    rw [hlen, List.take_length] at hpp
    exact k _ H' (e2.trans eH) ⟨D, ys, rfl, hys, Paired.mono hpp fun _ _ z => z.1⟩
/-- d[k] = a value told by a property -/
theorem s_dputP {td ty tv : TE} {D : Ends} {σ : L2.St} {H : Hp} {a : Addr} {y : V} {P : V → Hp → Prop} (hv : EvP tv σ H P) (hd : Ev td σ H (.ref a)) (hy : Ev ty σ H y) (hP : ∀ v H1 H2, P v H1 → Ex H1 H2 → P v H2)
    (k : ∀ v H1, Ex H H1 → P v H1 → ∃ H4, DPut H1 a y v H4 ∧ D.nx σ H4) : sDPut td ty tv D σ H := by
  refine hv H (Ex.refl _) _ fun v H1 e1 p1 => hd H1 e1 _ fun H2 e2 => ?_
  refine hy H2 (e1.trans e2) _ fun H3 e3 => ?_
  obtain ⟨H4, h4, q⟩ := k v H3 ((e1.trans e2).trans e3) (hP _ _ _ (hP _ _ _ p1 e2) e3)
  exact ⟨a, H4, rfl, h4, q⟩
theorem keysJ_map (os : List Int) (g : Int → List Run) : keysJ (os.map fun o => (o, g o)) = os := by
  rw [keysJ, List.map_map]
  exact List.map_id _
theorem look_map {os : List Int} {g : Int → List Run} {o : Int} (h : o ∈ os) : lookJ (os.map fun o => (o, g o)) o = g o := by
  induction os with
  | nil => cases h
  | cons p os ih =>
    rw [List.map_cons]
    by_cases e : p = o
    · subst e
      unfold lookJ
      rw [List.find?_cons, decide_eq_true rfl]
    · have : lookJ ((p, g p) :: os.map fun o => (o, g o)) o = lookJ (os.map fun o => (o, g o)) o := by
        unfold lookJ
        rw [List.find?_cons, decide_eq_false e]
      rw [this]
      exact ih ((List.mem_cons.mp h).elim (fun z => absurd z.symm e) id)
section
variable {P : Program} {w : World} {K : PySem.W.Frag} {mg : Str → Option Value} {base : Heap} {aM aS aO aB aE : Addr} {f : Addr} {fd : FuncData}
def spCopied : Sp := fun vs H Q _ => ∃ (d ol : Addr) (J : Jrn) (os : List Int), vs = [.ref d, .ref ol] ∧ JrnS H d J ∧ H ol = some (.lst (os.map V.int)) ∧ os.Nodup ∧ (∀ o ∈ os, o ∈ keysJ J) ∧ os.length ≤ 8 ∧ Bnd J ∧
  ∀ d2 H', H d2 = none → Ex H H' → JrnS H' d2 (os.map fun o => (o, lookJ J o)) → Q (.ref d2) H'
theorem sc_law_copied : FnScope ["_law_journals", "_law_owners", "_law_copied_here", "_law_owner", "_law_run"] ["_law_journals", "_law_owners"] (defScope (top 38)) := ⟨rfl, rfl, rfl, by decide +kernel, rfl, by decide +kernel, by decide +kernel⟩
theorem ok_law_copied (F : FnP K "_law_copied" (top 38) f fd) (T : Tx K w mg aM aS aO aB) : FnOk P w K mg base CX0 1 f fd ["_law_journals", "_law_owners"] spCopied := by
  refine F.ok sc_law_copied (fun vs H Q E h => ?_) (fun cdv A outer s H vs Q E hr h => ?_)
  · obtain ⟨d, ol, J, os, rfl, _⟩ := h
    rfl
  · obtain ⟨d, ol, J, os, rfl, hJ, hol, hnd, hin, h8, hB, q⟩ := h
    have hu := hu_of hr
    refine ⟨_, PSs.nox (pss_cons (ps_set (i := 2) sc_law_copied.nd rfl (Or.inl rfl) pe_dnewK)
      (pss_cons (ps_for PassesOwn.never rfl (pi_list (pv 1)) (pg_name (i := 3) sc_law_copied.nd rfl (Or.inl rfl))
        (pss_one (ps_dput hu (pv 2) (pv 3) (pe_lc (own := [("_law_run", 4)]) (g := gName 4) (te := tCB (rListS K) (tCons (tVar 4) tNil)) rfl sc_law_copied.nd (pi_list (pe_dget hu (pv 0) (pv 3) (fun _ _ => rfl))) (blkOk_by (own := [("_law_run", 4)]) (N := ["_law_journals", "_law_owners", "_law_copied_here", "_law_owner", "_law_run"]) (sc := defScope (top 38)) (by decide +kernel)) (fun _ _ _ _ _ => pg_name (i := 4) sc_law_copied.nd rfl (Or.inl rfl)) (fun _ _ _ _ _ => pts_nil) (fun _ _ _ _ _ => (pe_callTy (T := "list") (r := rListS K) call_list_of (by rfl) T.list (by decide +kernel) (pa_cons (pv 4) pa_nil)))) rfl)))
      (pss_one (ps_ret (pv 2))))), ?_⟩
    obtain ⟨kvs, hd, hk⟩ := id hJ
    refine q_newK fun d2 H1 nd2 e1 hd2 => ?_
    refine q_forLn (xs := os.map V.int) (ev_var rfl) (sq_of (e1 _ _ hol)) (fun i σ' H' => (∃ x3 x4, σ' = [some (.ref d), some (.ref ol), some (.ref d2), x3, x4]) ∧ Ex H H' ∧ JrnS H' d2 ((os.take i).map fun o => (o, lookJ J o)))
      (fun H2 e2 => ⟨⟨_, _, rfl⟩, e1.trans e2, [], e2 _ _ hd2, .nil⟩) (fun i σ' H' _ h => sq_of (h.2.1 _ _ hol)) ?_ ?_
    · rintro i x σ' H' hx ⟨⟨x3, x4, rfl⟩, eH, hJ2⟩
      obtain ⟨o, ho, rfl⟩ : ∃ o, os[i]? = some o ∧ V.int o = x := by
        rw [List.getElem?_map] at hx
        cases e : os[i]? with
        | none => rw [e] at hx; cases hx
        | some o => rw [e] at hx; exact ⟨o, rfl, Option.some.inj hx⟩
      have hi8 : i < 8 := by
        have := (List.getElem?_eq_some_iff.mp ho).1
        omega
      rcases kvs_val hk o with ⟨_, hno, _⟩ | ⟨rv, hval, hruns, _⟩
      · obtain ⟨j, hj, e⟩ := List.mem_map.mp (hin o (List.mem_of_getElem? ho))
        exact absurd e (hno j hj)
      have hlb := look_bnd hB o
      refine s_dputP (a := d2) (evp_copy (ev_dget (ev_var rfl) (ev_var rfl) fun H4 e4 => (by rw [← hval]; exact DGet.k (k := Sum.inl o) (e4 _ _ (eH _ _ hd)))) (hruns.ex eH) (by have := hlb.1; omega) (by show 4 < 5; decide)) (ev_var rfl) (ev_var rfl) (fun v H1 H2 p e => p.ex e) fun v H4 e4 hv => ?_
      obtain ⟨kv2, hk2, hp2⟩ := hJ2.ex e4
      have hkl : kv2.length = i := by
        rw [hp2.length, List.length_map, List.length_take]
        have := (List.getElem?_eq_some_iff.mp ho).1
        omega
      have hnew : valV kv2 (Sum.inl o) = none := by
        rcases kvs_val hp2 o with ⟨z, _, _⟩ | ⟨_, _, _, j, hj, e, _⟩
        · exact z
        · exfalso
          obtain ⟨o', ho', rfl⟩ := List.mem_map.mp hj
          have e : o' = o := e
          subst e
          obtain ⟨j', hj', e'⟩ := List.getElem_of_mem ho'
          rw [List.getElem_take] at e'
          have hlt : j' < i := by
            rw [List.length_take] at hj'
            omega
          have h1 : os[j']? = some o' := by rw [List.getElem?_eq_getElem (by have := (List.getElem?_eq_some_iff.mp ho).1; omega), e']
          have := nd_ix hnd h1 ho
          omega
      refine ⟨_, DPut.k (k := Sum.inl o) hk2 (sz_lt (by omega)), ⟨_, _, rfl⟩, (eH.trans e4).mut nd2, ?_⟩
      rw [putK_new _ hnew, take_snoc ho, List.map_append]
      refine ⟨_, upd_same, Paired.snoc (Paired.mono hp2 fun _ _ z => ⟨z.1, z.2.upd_d hk2⟩) ⟨rfl, hv.upd_d hk2⟩⟩
    · rintro σ' H' ⟨⟨x3, x4, rfl⟩, eH, hJ2⟩
      rw [List.length_map, List.take_length] at hJ2
      exact s_ret (ev_var rfl) fun H2 e2 => q d2 H2 nd2 (eH.trans e2) (hJ2.ex e2)
end
end Lr
set_option Elab.async false
set_option linter.all false
set_option maxRecDepth 100000
set_option maxHeartbeats 4000000
namespace Lr
open PySem L2 Evl
/-! ### the pack -/
def pk (c : Addr) (a r s t : Int) : List (L2.Key × V) := [(Sum.inr "cells", .ref c), (Sum.inr "at", .int a), (Sum.inr "rest", .int r), (Sum.inr "seed", .int s), (Sum.inr "turn", .int t)]
section
variable {c : Addr} {a r s t x : Int}
theorem kca : ¬ (Sum.inr ("cells" : Str) : L2.Key) = Sum.inr ("at" : Str) := by decide +kernel
theorem kcr : ¬ (Sum.inr ("cells" : Str) : L2.Key) = Sum.inr ("rest" : Str) := by decide +kernel
theorem kcs : ¬ (Sum.inr ("cells" : Str) : L2.Key) = Sum.inr ("seed" : Str) := by decide +kernel
theorem kct : ¬ (Sum.inr ("cells" : Str) : L2.Key) = Sum.inr ("turn" : Str) := by decide +kernel
theorem kar : ¬ (Sum.inr ("at" : Str) : L2.Key) = Sum.inr ("rest" : Str) := by decide +kernel
theorem kas : ¬ (Sum.inr ("at" : Str) : L2.Key) = Sum.inr ("seed" : Str) := by decide +kernel
theorem kat : ¬ (Sum.inr ("at" : Str) : L2.Key) = Sum.inr ("turn" : Str) := by decide +kernel
theorem krs : ¬ (Sum.inr ("rest" : Str) : L2.Key) = Sum.inr ("seed" : Str) := by decide +kernel
theorem krt : ¬ (Sum.inr ("rest" : Str) : L2.Key) = Sum.inr ("turn" : Str) := by decide +kernel
theorem kst : ¬ (Sum.inr ("seed" : Str) : L2.Key) = Sum.inr ("turn" : Str) := by decide +kernel
theorem pk_c : valV (pk c a r s t) (Sum.inr "cells") = some (.ref c) := valV_pos rfl
theorem pk_a : valV (pk c a r s t) (Sum.inr "at") = some (.int a) := by unfold pk; rw [valV_neg kca]; exact valV_pos rfl
theorem pk_r : valV (pk c a r s t) (Sum.inr "rest") = some (.int r) := by unfold pk; rw [valV_neg kcr, valV_neg kar]; exact valV_pos rfl
theorem pk_s : valV (pk c a r s t) (Sum.inr "seed") = some (.int s) := by unfold pk; rw [valV_neg kcs, valV_neg kas, valV_neg krs]; exact valV_pos rfl
theorem pk_t : valV (pk c a r s t) (Sum.inr "turn") = some (.int t) := by unfold pk; rw [valV_neg kct, valV_neg kat, valV_neg krt, valV_neg kst]; exact valV_pos rfl
theorem put_a : putK (pk c a r s t) (Sum.inr "at") (.int x) = pk c x r s t := by rfl
theorem put_r : putK (pk c a r s t) (Sum.inr "rest") (.int x) = pk c a x s t := by rfl
theorem put_s : putK (pk c a r s t) (Sum.inr "seed") (.int x) = pk c a r x t := by rfl
theorem put_t : putK (pk c a r s t) (Sum.inr "turn") (.int x) = pk c a r s x := by rfl
end
/-- the pack at p, its cells at c -/
def PkAt (p c : Addr) (H : Hp) : Prop := ∃ (ns : List Int) (at_ rest seed turn : Int), H p = some (.dK (pk c at_ rest seed turn)) ∧ H c = some (.lst (ns.map V.int)) ∧ 0 ≤ at_ ∧ at_ ≤ ns.length ∧ ns.length ≤ 1000 ∧ 0 ≤ rest ∧ 0 ≤ seed ∧ seed < 2147483647
theorem PkAt.ex {p c : Addr} {H H' : Hp} (h : PkAt p c H) (e : Ex H H') : PkAt p c H' := by
  obtain ⟨ns, a, r, s, t, h1, h2, h3⟩ := h
  exact ⟨ns, a, r, s, t, e _ _ h1, e _ _ h2, h3⟩
theorem PkAt.dK {p c : Addr} {H : Hp} (h : PkAt p c H) : ∃ kvs, H p = some (.dK kvs) := by
  obtain ⟨ns, a, r, s, t, h1, _⟩ := h
  exact ⟨_, h1⟩
/-- a write elsewhere leaves the pack -/
theorem PkAt.upd {p c a : Addr} {H : Hp} {o : HO} (h : PkAt p c H) (hp : a ≠ p) (hc : a ≠ c) : PkAt p c (upd H a o) := by
  obtain ⟨ns, a, r, s, t, h1, h2, h3⟩ := h
  exact ⟨ns, a, r, s, t, by rw [upd_ne hp.symm]; exact h1, by rw [upd_ne hc.symm]; exact h2, h3⟩
theorem ev_pk {σ : L2.St} {H : Hp} {td ty : TE} {p : Addr} {kvs : List (L2.Key × V)} {v : V} (k : L2.Key) (he : Ev td σ H (.ref p)) (hk : Ev ty σ H (kV k)) (hd : H p = some (.dK kvs)) (hv : valV kvs k = some v) : Ev (tDGet td ty) σ H v :=
  ev_dget he hk fun H1 e1 => by rw [← hv]; exact DGet.k (e1 _ _ hd)
theorem rc_int1 {σ : L2.St} {H : Hp} {te : TE} {i : Int} (h : Ev te σ H (.int i)) : Ev (tCB (fun xs H Q => (∃ i, xs = [.int i] ∧ Q (.int i) H) ∨ ∃ k, xs = [.bl k] ∧ Q (.int (if k then 1 else 0)) H) (tCons te tNil)) σ H (.int i) :=
  ev_cb (ea_cons h ea_nil) fun H1 e1 Q k => .inl ⟨i, rfl, k H1 (Ex.refl _)⟩
section
variable {P : Program} {w : World} {K : PySem.W.Frag} {mg : Str → Option Value} {base : Heap} {aM aS aO aB aE : Addr} {f : Addr} {fd : FuncData}
def spPack (K : PySem.W.Frag) : Sp := fun vs H Q _ => ∃ (a : Addr) (ns : List Int), vs = [.ref a] ∧ SqL K H a (ns.map V.int) ∧ ns.length ≤ 1000 ∧ ∀ p c H', H p = none → H c = none → Ex H H' → PkAt p c H' → Q (.ref p) H'
theorem sc_law_pack : FnScope ["_law_script"] ["_law_script"] (defScope (top 19)) := ⟨rfl, rfl, rfl, by decide +kernel, rfl, by decide +kernel, by decide +kernel⟩
theorem ok_law_pack (F : FnP K "_law_pack" (top 19) f fd) (T : Tx K w mg aM aS aO aB) : FnOk P w K mg base CX0 1 f fd ["_law_script"] (spPack K) := by
  refine F.ok sc_law_pack (fun vs H Q E h => ?_) (fun cdv A outer s H vs Q E hr h => ?_)
  · obtain ⟨a, ns, rfl, _⟩ := h
    rfl
  · obtain ⟨a, ns, rfl, ha, hn, q⟩ := h
    refine ⟨_, PSs.nox (pss_one (ps_ret (pe_disp (pps_cons pe_str (pe_callTy call_list_of (by rfl) T.list (by decide +kernel) (pa_cons (pv 0) pa_nil)) (pps_cons pe_str pe_int (pps_cons pe_str pe_int (pps_cons pe_str pe_int (pps_cons pe_str pe_int pps_nil))))) (by rfl) (by rfl) (fun z => by cases z) (by decide)))), ?_⟩
    intro p hp
    have e1 : Ex H (upd H p (.dK [])) := Ex.new hp
    refine ⟨.ref a, rfl, a, ns.map V.int, rfl, .inl (ex_l e1 ha), fun l hl => ?_⟩
    have e2 : Ex (upd H p (.dK [])) (upd (upd H p (.dK [])) l (.lst (ns.map V.int))) := Ex.new hl
    have npl : p ≠ l := ne_of_none upd_same hl
    refine ⟨e2 _ _ upd_same, pk l 0 0 3 0, rfl, (show 5 ≤ 15 by decide), ?_⟩
    refine q p l _ hp (fresh_back e1 hl) ((e1.trans e2).mut hp) ⟨ns, 0, 0, 3, 0, ?_, ?_, Int.le_refl _, by omega, hn, Int.le_refl _, by decide, by decide⟩
    · rw [upd_same]
      rfl
    · rw [upd_ne npl.symm]
      exact upd_same
/-! ### _law_draw -/
def spDraw : Sp := fun vs H Q _ => ∃ (p c : Addr) (m : Int), vs = [.ref p, .int m] ∧ PkAt p c H ∧ 0 < m ∧ m < 1073741824 ∧ ∀ i H', 0 ≤ i → i < m → PkAt p c H' → But p H H' → Q (.int i) H'
theorem sc_law_draw : FnScope ["_law_pack_here", "_law_many", "_law_cells", "_law_cell", "_law_digit", "_law_mixed"] ["_law_pack_here", "_law_many"] (defScope (top 20)) := ⟨rfl, rfl, rfl, by decide +kernel, rfl, by decide +kernel, by decide +kernel⟩
theorem ok_law_draw (F : FnP K "_law_draw" (top 20) f fd) (T : Tx K w mg aM aS aO aB) : FnOk P w K mg base CX0 1 f fd ["_law_pack_here", "_law_many"] spDraw := by
  refine F.ok sc_law_draw (fun vs H Q E h => ?_) (fun cdv A outer s H vs Q E hr h => ?_)
  · obtain ⟨p, c, m, rfl, _⟩ := h
    rfl
  · obtain ⟨p, c, m, rfl, hp, m0, m1, q⟩ := h
    have hu := hu_of hr
    refine ⟨_, PSs.nox (pss_cut (ps_if (PW.pt (pw_and (pt_cmpR op_eq (pe_dget hu (pv 0) pe_str (fun _ _ => rfl)) pe_int (nomark _)) (pw_and1 (pt_cmpR op_lt (pe_dget hu (pv 0) pe_str (fun _ _ => rfl)) (pe_callB call_len_seq (by rfl) T.len PySem.boot_len (pa_cons (pe_dget hu (pv 0) pe_str (fun _ _ => rfl)) pa_nil)) (nomark _)))))
        (pss_cons (ps_set (i := 2) sc_law_draw.nd rfl (Or.inl rfl) (pe_dget hu (pv 0) pe_str (fun _ _ => rfl)))
        (pss_cons (ps_set (i := 3) sc_law_draw.nd rfl (Or.inl rfl) (pe_callB call_abs (by rfl) T.abs (by decide +kernel) (pa_cons (pe_ix ix_list (pv 2) (pe_dget hu (pv 0) pe_str (fun _ _ => rfl)) (fun _ _ => rfl)) pa_nil)))
        (pss_cons (ps_dput hu (pv 0) pe_str (pe_op op_add (pe_dget hu (pv 0) pe_str (fun _ _ => rfl)) pe_int) rfl)
        (pss_one (ps_if (pt_cmpR op_ge (pv 3) (pe_op op_pow pe_int pe_int) (nomark _))
          (pss_one (ps_dput hu (pv 0) pe_str (pv 3) rfl))
          (pss_one (ps_dput hu (pv 0) pe_str (pe_op op_mod (pe_callTy call_int1 (by rfl) T.int (by decide +kernel) (pa_cons (pe_op op_add (pe_op op_add (pe_op op_mul (pe_dget hu (pv 0) pe_str (fun _ _ => rfl)) pe_int) (pv 3)) pe_int) pa_nil)) pe_int) rfl)))))))
        pss_nil)
      (pss_cons (ps_if (pt_cmpR op_gt (pe_dget hu (pv 0) pe_str (fun _ _ => rfl)) pe_int (nomark _))
        (pss_cons (ps_set (i := 4) sc_law_draw.nd rfl (Or.inl rfl) (pe_op op_mod (pe_callTy call_int1 (by rfl) T.int (by decide +kernel) (pa_cons (pe_dget hu (pv 0) pe_str (fun _ _ => rfl)) pa_nil)) (pv 1)))
        (pss_cons (ps_dput hu (pv 0) pe_str (pe_op op_fdiv (pe_dget hu (pv 0) pe_str (fun _ _ => rfl)) (pv 1)) rfl)
        (pss_one (ps_ret (pv 4)))))
        pss_nil)
      (pss_cons (ps_dput hu (pv 0) pe_str (pe_op op_add (pe_dget hu (pv 0) pe_str (fun _ _ => rfl)) pe_int) rfl)
      (pss_cons (ps_dput hu (pv 0) pe_str (pe_op op_mod (pe_callTy call_int1 (by rfl) T.int (by decide +kernel) (pa_cons (pe_op op_add (pe_op op_mul (pe_dget hu (pv 0) pe_str (fun _ _ => rfl)) pe_int) (pe_op op_mul (pe_dget hu (pv 0) pe_str (fun _ _ => rfl)) pe_int)) pa_nil)) pe_int) rfl)
      (pss_cons (ps_set (i := 5) sc_law_draw.nd rfl (Or.inl rfl) (pe_op op_mod (pe_callTy call_int1 (by rfl) T.int (by decide +kernel) (pa_cons (pe_op op_add (pe_op op_mul (pe_dget hu (pv 0) pe_str (fun _ _ => rfl)) (pe_dget hu (pv 0) pe_str (fun _ _ => rfl))) (pe_op op_mul pe_int (pe_dget hu (pv 0) pe_str (fun _ _ => rfl)))) pa_nil)) pe_int))
      (pss_one (ps_ret (pe_op op_mod (pe_callTy call_int1 (by rfl) T.int (by decide +kernel) (pa_cons (pe_op op_fdiv (pv 5) pe_int) pa_nil)) (pv 1))))))))), ?_⟩
    refine q_cut (M := fun σ' H' => ∃ x2 x3 x4 x5, σ' = [some (.ref p), some (.int m), x2, x3, x4, x5] ∧ PkAt p c H' ∧ But p H H') ?_ ?_
    · obtain ⟨ns, at_, rest, seed, turn, hd, hc, a0, a1, n1, r0, s0, s1⟩ := id hp
      refine s_when (et_and (et_test (ev_eqI (ev_pk (Sum.inr "rest") (ev_var rfl) ev_c hd pk_r) ev_c)) fun _ => et_test (ev_op (ev_pk (Sum.inr "at") (ev_var rfl) ev_c hd pk_a) (ev_len (ev_pk (Sum.inr "cells") (ev_var rfl) ev_c hd pk_c) (sq_of hc)) rv_I0)) (fun hb H1 e1 => ?_) (fun hb H1 e1 => ⟨_, _, _, _, rfl, hp.ex e1, But.of_ex e1⟩)
      obtain ⟨_, hb2⟩ := (Bool.and_eq_true _ _).mp hb
      have hlt := of_decide_eq_true hb2
      rw [List.length_map] at hlt
      obtain ⟨n, rfl⟩ : ∃ n : Nat, at_ = (n : Int) := ⟨at_.toNat, by omega⟩
      have hx : (ns.map V.int)[n]? = some (.int (ns[n]'(by omega))) := by rw [List.getElem?_map, List.getElem?_eq_getElem (by omega)]; rfl
      revert hx
      generalize (ns[n]'(by omega)) = z
      intro hx
      have hd1 := e1 _ _ hd
      refine q_asg (ev_pk (Sum.inr "cells") (ev_var rfl) ev_c hd1 pk_c) fun H2 e2 => ?_
      have hd2 := e2 _ _ hd1
      have hc2 := (e1.trans e2) _ _ hc
      refine q_asg (v := .int (if z < 0 then -z else z)) (ev_cb (ea_cons (ev_op (ev_var rfl) (ev_pk (Sum.inr "at") (ev_var rfl) ev_c hd2 pk_a) (rv_ixL' (sq_of hc2) hx)) ea_nil) fun H1 e1 Q k => ⟨z, rfl, k H1 (Ex.refl _)⟩) fun H3 e3 => ?_
      have hz : 0 ≤ (if z < 0 then -z else z) := by split <;> omega
      revert hz
      generalize (if z < 0 then -z else z) = y
      intro hz
      have hd3 := e3 _ _ hd2
      refine q_dput (ev_op (ev_pk (Sum.inr "at") (ev_var rfl) ev_c hd3 pk_a) ev_c rv_I0) (ev_var rfl) ev_c fun H4 e4 => ⟨_, DPut.k (k := Sum.inr "at") (e4 _ _ hd3) (sz_lt (show 5 < 100000 by decide)), ?_⟩
      rw [put_a]
      have e04 := ((e1.trans e2).trans e3).trans e4
      have b4 : But p H (upd H4 p (.dK (pk c ((n : Int) + 1) rest seed turn))) := (But.of_ex e04).upd
      have hcp : c ≠ p := ne_of hc hd fun q => nomatch q
      refine s_if (et_test (ev_op (ev_var rfl) (ev_op ev_c ev_c (rv_I ⟨by decide, by decide, by decide⟩)) rv_I0)) (fun hb H5 e5 => ?_) (fun hb H5 e5 => ?_)
      · have hd5 := e5 _ _ upd_same
        have hc5 := (b4.trans (But.of_ex e5)) _ _ hc hcp
        refine s_dput (ev_var rfl) (ev_var rfl) ev_c fun H6 e6 => ⟨_, DPut.k (k := Sum.inr "rest") (e6 _ _ hd5) (sz_lt (show 5 < 100000 by decide)), ?_⟩
        rw [put_r]
        refine ⟨_, _, _, _, rfl, ⟨ns, (n : Int) + 1, y, seed, turn, upd_same, ?_, by omega, by omega, n1, hz, s0, s1⟩, ((b4.trans (But.of_ex e5)).trans (But.of_ex e6)).upd⟩
        rw [upd_ne hcp]
        exact e6 _ _ hc5
      · have hd5 := e5 _ _ upd_same
        have hc5 := (b4.trans (But.of_ex e5)) _ _ hc hcp
        refine s_dput (ev_op (rc_int1 (ev_op (ev_op (ev_op (ev_pk (Sum.inr "seed") (ev_var rfl) ev_c hd5 pk_s) ev_c (rv_I (.inr ⟨by decide, by decide⟩))) (ev_var rfl) rv_I0) ev_c rv_I0)) ev_c (rv_I (by decide))) (ev_var rfl) ev_c fun H6 e6 => ⟨_, DPut.k (k := Sum.inr "seed") (e6 _ _ hd5) (sz_lt (show 5 < 100000 by decide)), ?_⟩
        rw [put_s]
        refine ⟨_, _, _, _, rfl, ⟨ns, (n : Int) + 1, rest, _, turn, upd_same, ?_, by omega, by omega, n1, r0, by omega, by omega⟩, ((b4.trans (But.of_ex e5)).trans (But.of_ex e6)).upd⟩
        rw [upd_ne hcp]
        exact e6 _ _ hc5
    · rintro σ' H1 ⟨x2, x3, x4, x5, rfl, hp1, b1⟩
      obtain ⟨ns, at_, rest, seed, turn, hd, hc, a0, a1, n1, r0, s0, s1⟩ := id hp1
      have hcp : c ≠ p := ne_of hc hd fun q => nomatch q
      refine q_when (et_test (ev_op (ev_pk (Sum.inr "rest") (ev_var rfl) ev_c hd pk_r) ev_c rv_I0)) (fun hb H2 e2 => ?_) (fun hb H2 e2 => ?_)
      · have hd2 := e2 _ _ hd
        refine q_asg (ev_op (rc_int1 (ev_pk (Sum.inr "rest") (ev_var rfl) ev_c hd2 pk_r)) (ev_var rfl) (rv_I m0)) fun H3 e3 => ?_
        have hd3 := e3 _ _ hd2
        refine q_dput (ev_op (ev_pk (Sum.inr "rest") (ev_var rfl) ev_c hd3 pk_r) (ev_var rfl) (rv_I ⟨m0, m1⟩)) (ev_var rfl) ev_c fun H4 e4 => ⟨_, DPut.k (k := Sum.inr "rest") (e4 _ _ hd3) (sz_lt (show 5 < 100000 by decide)), ?_⟩
        rw [put_r]
        have e14 := (e2.trans e3).trans e4
        refine s_ret (ev_var rfl) fun H5 e5 => q _ H5 (Int.emod_nonneg _ (by omega)) (Int.emod_lt_of_pos _ m0) ?_ ((b1.trans (But.of_ex e14)).upd.trans (But.of_ex e5))
        refine PkAt.ex ⟨ns, at_, _, seed, turn, upd_same, ?_, a0, a1, n1, Int.ediv_nonneg r0 (by omega), s0, s1⟩ e5
        rw [upd_ne hcp]
        exact e14 _ _ hc
      · have hd2 := e2 _ _ hd
        refine q_dput (ev_op (ev_pk (Sum.inr "turn") (ev_var rfl) ev_c hd2 pk_t) ev_c rv_I0) (ev_var rfl) ev_c fun H3 e3 => ⟨_, DPut.k (k := Sum.inr "turn") (e3 _ _ hd2) (sz_lt (show 5 < 100000 by decide)), ?_⟩
        rw [put_t]
        have b3 : But p H1 (upd H3 p (.dK (pk c at_ rest seed (turn + 1)))) := (But.of_ex (e2.trans e3)).upd
        refine q_dput (ev_op (rc_int1 (ev_op (ev_op (ev_pk (Sum.inr "seed") (ev_var rfl) ev_c upd_same pk_s) ev_c (rv_I (.inr ⟨by decide, by decide⟩))) (ev_op (ev_pk (Sum.inr "turn") (ev_var rfl) ev_c upd_same pk_t) ev_c (rv_I (.inr ⟨by decide, by decide⟩))) rv_I0)) ev_c (rv_I (by decide))) (ev_var rfl) ev_c fun H4 e4 => ⟨_, DPut.k (k := Sum.inr "seed") (e4 _ _ upd_same) (sz_lt (show 5 < 100000 by decide)), ?_⟩
        rw [put_s]
        have hs1 : ∀ z : Int, 0 ≤ z % 2147483647 ∧ z % 2147483647 < 2147483647 := fun z => ⟨by omega, by omega⟩
        have hs2 := hs1 (seed * 48271 + (turn + 1) * 69621)
        revert hs2
        generalize (seed * 48271 + (turn + 1) * 69621) % 2147483647 = y
        rintro ⟨y0, y1⟩
        have b4 : But p H1 (upd H4 p (.dK (pk c at_ rest y (turn + 1)))) := (b3.trans (But.of_ex e4)).upd
        have hP : PkAt p c (upd H4 p (.dK (pk c at_ rest y (turn + 1)))) := ⟨ns, at_, rest, y, _, upd_same, b4 _ _ hc hcp, a0, a1, n1, r0, y0, y1⟩
        refine q_asg (ev_op (rc_int1 (ev_op (ev_op (ev_pk (Sum.inr "seed") (ev_var rfl) ev_c upd_same pk_s) (ev_pk (Sum.inr "seed") (ev_var rfl) ev_c upd_same pk_s) (rv_I (.inl ⟨by omega, by omega⟩))) (ev_op ev_c (ev_pk (Sum.inr "seed") (ev_var rfl) ev_c upd_same pk_s) (rv_I (.inl ⟨by decide, by decide⟩))) rv_I0)) ev_c (rv_I (by decide))) fun H5 e5 => ?_
        refine s_ret (ev_op (rc_int1 (ev_op (ev_var rfl) ev_c (rv_I ⟨by decide, by decide⟩))) (ev_var rfl) (rv_I m0)) fun H6 e6 => ?_
        exact q _ H6 (Int.emod_nonneg _ (by omega)) (Int.emod_lt_of_pos _ m0) ((hP.ex e5).ex e6) ((b1.trans b4).trans (But.of_ex (e5.trans e6)))
end
end Lr
set_option Elab.async false
set_option linter.all false
set_option maxRecDepth 100000
set_option maxHeartbeats 4000000
namespace Lr
open PySem L2 Evl
/-! ### values told by a property, the heap growing or the pack changing -/
abbrev TG0 : Hp → Prop := fun _ => True
class Rl (R : Hp → Hp → Prop) (G : Hp → Prop) : Prop where
  ex : ∀ {H H' : Hp}, G H → Ex H H' → R H H' ∧ G H'
  rf : ∀ H : Hp, R H H
  tr : ∀ {H H1 H2 : Hp}, R H H1 → R H1 H2 → R H H2
  st : ∀ {H H' : Hp}, G H → R H H' → Stay H H'
theorem rl_ex (R : Hp → Hp → Prop) {G : Hp → Prop} [I : Rl R G] {H H' : Hp} (g : G H) (e : Ex H H') : R H H' ∧ G H' := I.ex g e
instance rlE : Rl Ex TG0 := ⟨fun _ e => ⟨e, trivial⟩, Ex.refl, fun a b => a.trans b, fun _ e => stay_ex e⟩
instance rlP (p c : Addr) : Rl (But p) (PkAt p c) := ⟨fun g e => ⟨But.of_ex e, g.ex e⟩, But.refl p, fun a b => a.trans b, fun g b => by
  obtain ⟨kvs, h⟩ := PkAt.dK g
  exact b.stay h⟩
def Dv (R : Hp → Hp → Prop) (G : Hp → Prop) (te : TE) (σ : L2.St) (H : Hp) (P : V → Hp → Prop) : Prop := ∀ H1, R H H1 → G H1 → ∀ Q : VK, (∀ v H2, R H1 H2 → G H2 → P v H2 → Q v H2) → te σ H1 Q
def Da (R : Hp → Hp → Prop) (G : Hp → Prop) (ta : TA) (σ : L2.St) (H : Hp) (P : List V → Hp → Prop) : Prop := ∀ H1, R H H1 → G H1 → ∀ Q : List V → Hp → Prop, (∀ v H2, R H1 H2 → G H2 → P v H2 → Q v H2) → ta σ H1 Q
def isN (n : Nat) : V → Hp → Prop := fun x _ => ∃ i : Nat, x = .int i ∧ i < n
def It : V → Hp → Prop := fun v H => ItemOk H v
def EntP : V → Hp → Prop := fun v H => ∃ o, EntAt H v o
def Its (n : Nat) : List V → Hp → Prop := fun vs H => vs.length = n ∧ ∀ x ∈ vs, ItemOk H x
def Ents (n : Nat) : List V → Hp → Prop := fun vs H => vs.length = n ∧ ∀ x ∈ vs, EntP x H
theorem ItemOk.st {H H' : Hp} {v : V} (h : ItemOk H v) (s : Stay H H') : ItemOk H' v := h.stay s.tup
theorem EntAt.st {H H' : Hp} {v : V} {o : Eo} (h : EntAt H v o) (s : Stay H H') : EntAt H' v o := h.stay s.tup fun b xs _ z => ⟨xs, s.lst _ _ z⟩
theorem EntP.st {H H' : Hp} {v : V} (h : EntP v H) (s : Stay H H') : EntP v H' := by
  obtain ⟨o, h⟩ := h
  exact ⟨o, h.st s⟩
theorem ent_tup {H : Hp} {a : Addr} {xs : List V} (h : H a = some (.tup xs)) (hx : ∀ x ∈ xs, ItemOk H x) : EntAt H (.ref a) (formedL xs) := .inl ⟨a, xs, rfl, h, hx, rfl⟩
section
variable {K : PySem.W.Frag} {R : Hp → Hp → Prop} {G : Hp → Prop} [Rl R G] {σ : L2.St} {H : Hp} {te ta tb : TE} {tr : TA} {tz : TS} {D : Ends} {r : R2} {v : V} {P P' Pa Pb : V → Hp → Prop} {n : Nat} {xs : List V}
theorem dv_ev (h : ∀ H1, R H H1 → G H1 → Ev te σ H1 v) : Dv R G te σ H (fun x _ => x = v) := fun H1 r g Q q => h H1 r g H1 (Ex.refl _) Q fun H2 e => q v H2 (rl_ex R g e).1 (rl_ex R g e).2 rfl
theorem dv_el (h : ∀ H1, R H H1 → G H1 → EvL te σ H1 xs) : Dv R G te σ H (fun x H' => ∃ a, x = .ref a ∧ H' a = some (.lst xs)) := fun H1 r g Q q => h H1 r g H1 (Ex.refl _) Q fun p H2 _ e hp => q _ H2 (rl_ex R g e).1 (rl_ex R g e).2 ⟨p, rfl, hp⟩
theorem dv_imp (h : Dv R G te σ H P) (i : ∀ v H', G H' → P v H' → P' v H') : Dv R G te σ H P' := fun H1 r g Q q => h H1 r g Q fun v H2 r2 g2 p => q v H2 r2 g2 (i v H2 g2 p)
theorem dv_mono {H' : Hp} (r : R H H') (h : Dv R G te σ H P) : Dv R G te σ H' P := fun H1 r1 g Q q => h H1 (Rl.tr G r r1) g Q q
theorem dv_op (ha : Dv R G ta σ H Pa) (hb : Dv R G tb σ H Pb) (st : ∀ x H1 H2, G H1 → R H1 H2 → Pa x H1 → Pa x H2) (hr : ∀ x y H1, R H H1 → G H1 → Pa x H1 → Pb y H1 → ∃ z, RV r x y H1 z ∧ ∀ H2, Ex H1 H2 → P z H2) :
    Dv R G (tOp r ta tb) σ H P := fun H1 r1 g1 Q q => ha H1 r1 g1 _ fun x H2 r2 g2 px => hb H2 (Rl.tr G r1 r2) g2 _ fun y H3 r3 g3 py => by
  obtain ⟨z, hz, pz⟩ := hr x y H3 (Rl.tr G (Rl.tr G r1 r2) r3) g3 (st x H2 H3 g2 r3 px) py
  exact hz H3 (Ex.refl _) Q fun H4 e4 => q z H4 (Rl.tr G (Rl.tr G r2 r3) (rl_ex R g3 e4).1) (rl_ex R g3 e4).2 (pz H4 e4)
theorem dv_cb1 {rc : List V → Hp → VK → Prop} (h : Dv R G te σ H P) (hr : ∀ x H1, R H H1 → G H1 → P x H1 → ∃ z, RC rc [x] H1 z ∧ ∀ H2, Ex H1 H2 → P' z H2) : Dv R G (tCB rc (tCons te tNil)) σ H P' := fun H1 r1 g1 Q q => h H1 r1 g1 _ fun x H2 r2 g2 px => by
  obtain ⟨z, hz, pz⟩ := hr x H2 (Rl.tr G r1 r2) g2 px
  exact hz H2 (Ex.refl _) Q fun H4 e4 => q z H4 (Rl.tr G r2 (rl_ex R g2 e4).1) (rl_ex R g2 e4).2 (pz H4 e4)
theorem dv_int1 (h : Dv R G te σ H (isN n)) : Dv R G (tCB (fun xs H Q => (∃ i, xs = [.int i] ∧ Q (.int i) H) ∨ ∃ k, xs = [.bl k] ∧ Q (.int (if k then 1 else 0)) H) (tCons te tNil)) σ H (isN n) :=
  dv_cb1 h fun x H1 _ _ ⟨i, e, hi⟩ => ⟨.int i, fun H2 e2 Q k => .inl ⟨i, by rw [e], k H2 (Ex.refl _)⟩, fun H2 _ => ⟨i, rfl, hi⟩⟩
theorem dv_evN {i : Int} (h : ∀ H1, R H H1 → G H1 → Ev te σ H1 (.int i)) (hi : 0 ≤ i ∧ i < n) : Dv R G te σ H (isN n) := dv_imp (dv_ev h) fun v H' _ e => ⟨i.toNat, by rw [e]; congr 1; omega, by omega⟩
theorem dv_fdiv {j : Int} {m : Nat} (h : Dv R G te σ H (isN n)) (hj : 0 < j ∧ j < 1073741824) (hm : (n : Int) ≤ m * j) : Dv R G (tOp (rI CDiv fun i j => .int (i / j)) te (tC (.int j))) σ H (isN m) :=
  dv_op h (dv_ev (v := .int j) fun _ _ _ => ev_c) (fun _ _ _ _ _ z => z) fun x y H1 _ _ ⟨i, ex, hi⟩ ey => by
    subst ex ey
    refine ⟨.int ((i : Int) / j), rv_I ⟨hj.1, hj.2⟩, fun _ _ => ?_⟩
    have h1 : 0 ≤ (i : Int) / j := Int.ediv_nonneg (by omega) (by omega)
    have h2 : (i : Int) / j < m := (Int.ediv_lt_iff_lt_mul hj.1).mpr (by omega)
    exact ⟨((i : Int) / j).toNat, by congr 1; omega, by omega⟩
theorem it_ev (h : ∀ H1, R H H1 → G H1 → Ev te σ H1 v) (hi : ∀ H1, ItemOk H1 v) : Dv R G te σ H It := dv_imp (dv_ev h) fun x H' _ e => by rw [e]; exact hi H'
theorem e_ev (h : ∀ H1, R H H1 → G H1 → Ev te σ H1 v) (hi : ∀ H1, NonTup H1 v) : Dv R G te σ H EntP := dv_imp (dv_ev h) fun x H' _ e => by rw [e]; exact ⟨none, .inr ⟨rfl, hi H'⟩⟩
theorem da_nil : Da R G tNil σ H (Its 0) := fun H1 _ g Q q => q [] H1 (Rl.rf G H1) g ⟨rfl, fun x hx => nomatch hx⟩
theorem da_cons (h : Dv R G te σ H It) (hr : Da R G tr σ H (Its n)) : Da R G (tCons te tr) σ H (Its (n + 1)) := fun H1 r1 g1 Q q => h H1 r1 g1 _ fun x H2 r2 g2 px => hr H2 (Rl.tr G r1 r2) g2 _ fun xs H3 r3 g3 pxs =>
  q (x :: xs) H3 (Rl.tr G r2 r3) g3 ⟨by rw [List.length_cons, pxs.1], fun y hy => (List.mem_cons.mp hy).elim (fun z => by rw [z]; exact px.st (Rl.st g2 r3)) (pxs.2 y)⟩
theorem da_nilE : Da R G tNil σ H (Ents 0) := fun H1 _ g Q q => q [] H1 (Rl.rf G H1) g ⟨rfl, fun x hx => nomatch hx⟩
theorem da_consE (h : Dv R G te σ H EntP) (hr : Da R G tr σ H (Ents n)) : Da R G (tCons te tr) σ H (Ents (n + 1)) := fun H1 r1 g1 Q q => h H1 r1 g1 _ fun x H2 r2 g2 px => hr H2 (Rl.tr G r1 r2) g2 _ fun xs H3 r3 g3 pxs =>
  q (x :: xs) H3 (Rl.tr G r2 r3) g3 ⟨by rw [List.length_cons, pxs.1], fun y hy => (List.mem_cons.mp hy).elim (fun z => by rw [z]; exact px.st (Rl.st g2 r3)) (pxs.2 y)⟩
theorem dv_tup (h : Da R G tr σ H (Its n)) (hn : n ≤ 1000) : Dv R G (tTup tr) σ H fun v H' => ∃ a xs, v = .ref a ∧ H' a = some (.tup xs) ∧ xs.length = n ∧ ∀ x ∈ xs, ItemOk H' x := fun H1 r1 g1 Q q => h H1 r1 g1 _ fun xs H2 r2 g2 pxs => by
  refine ⟨sz_of (by have := pxs.1; omega), fun p hp => ?_⟩
  have e : Ex H2 (upd H2 p (.tup xs)) := Ex.new hp
  exact q _ _ (Rl.tr G r2 (rl_ex R g2 e).1) (rl_ex R g2 e).2 ⟨p, xs, rfl, upd_same, pxs.1, fun x hx => (pxs.2 x hx).st (stay_ex e)⟩
theorem dv_ent (h : Da R G tr σ H (Its n)) (hn : n ≤ 1000) : Dv R G (tTup tr) σ H EntP := dv_imp (dv_tup h hn) fun v H' _ ⟨a, xs, e, h1, _, h2⟩ => by rw [e]; exact ⟨_, ent_tup h1 h2⟩
theorem dv_tupI (h : Da R G tr σ H (Its n)) (hn : n ≤ 1000) : Dv R G (tTup tr) σ H It := dv_imp (dv_tup h hn) fun v H' _ ⟨a, xs, e, h1, _, h2⟩ => by rw [e]; exact ⟨xs, h1⟩
theorem dv_lst (h : Da R G tr σ H (Its n)) (hn : n ≤ 1000) : Dv R G (tLst tr) σ H fun v H' => ∃ a xs, v = .ref a ∧ H' a = some (.lst xs) ∧ Its n xs H' := fun H1 r1 g1 Q q => h H1 r1 g1 _ fun xs H2 r2 g2 pxs => by
  refine ⟨sz_of (by have := pxs.1; omega), fun p hp => ?_⟩
  have e : Ex H2 (upd H2 p (.lst xs)) := Ex.new hp
  exact q _ _ (Rl.tr G r2 (rl_ex R g2 e).1) (rl_ex R g2 e).2 ⟨p, xs, rfl, upd_same, pxs.1, fun x hx => (pxs.2 x hx).st (stay_ex e)⟩
theorem dv_lstE (h : Da R G tr σ H (Its n)) (hn : n ≤ 1000) : Dv R G (tLst tr) σ H EntP := dv_imp (dv_lst h hn) fun v H' _ ⟨a, xs, e, h1, _⟩ => by rw [e]; exact ⟨none, .inr ⟨rfl, xs, h1⟩⟩
theorem dv_lstEs (h : Da R G tr σ H (Ents n)) (hn : n ≤ 1000) : Dv R G (tLst tr) σ H fun v H' => ∃ a xs, v = .ref a ∧ H' a = some (.lst xs) ∧ Ents n xs H' := fun H1 r1 g1 Q q => h H1 r1 g1 _ fun xs H2 r2 g2 pxs => by
  refine ⟨sz_of (by have := pxs.1; omega), fun p hp => ?_⟩
  have e : Ex H2 (upd H2 p (.lst xs)) := Ex.new hp
  exact q _ _ (Rl.tr G r2 (rl_ex R g2 e).1) (rl_ex R g2 e).2 ⟨p, xs, rfl, upd_same, pxs.1, fun x hx => (pxs.2 x hx).st (stay_ex e)⟩
/-- [..][k], of items | of entries | of what is known -/
theorem dv_ixI (h : Da R G tr σ H (Its n)) (hn : n ≤ 1000) (hk : Dv R G te σ H (isN n)) : Dv R G (tOp (rIxL K) (tLst tr) te) σ H It :=
  dv_op (dv_lst h hn) hk (fun x H1 H2 g1 r1 ⟨a, xs, e, h1, h2, h3⟩ => ⟨a, xs, e, (Rl.st g1 r1).lst _ _ h1, h2, fun y hy => (h3 y hy).st (Rl.st g1 r1)⟩) fun x y H1 _ _ ⟨a, xs, ex, h1, h2, h3⟩ ⟨i, ey, hi⟩ => by
    subst ex ey
    have hg : xs[i]? = some (xs[i]'(by omega)) := List.getElem?_eq_getElem _
    exact ⟨_, rv_ixL' (sq_of h1) hg, fun H2 e2 => (h3 _ (List.mem_of_getElem? hg)).st (stay_ex e2)⟩
theorem dv_ixE (h : Da R G tr σ H (Ents n)) (hn : n ≤ 1000) (hk : Dv R G te σ H (isN n)) : Dv R G (tOp (rIxL K) (tLst tr) te) σ H EntP :=
  dv_op (dv_lstEs h hn) hk (fun x H1 H2 g1 r1 ⟨a, xs, e, h1, h2, h3⟩ => ⟨a, xs, e, (Rl.st g1 r1).lst _ _ h1, h2, fun y hy => (h3 y hy).st (Rl.st g1 r1)⟩) fun x y H1 _ _ ⟨a, xs, ex, h1, h2, h3⟩ ⟨i, ey, hi⟩ => by
    subst ex ey
    have hg : xs[i]? = some (xs[i]'(by omega)) := List.getElem?_eq_getElem _
    exact ⟨_, rv_ixL' (sq_of h1) hg, fun H2 e2 => (h3 _ (List.mem_of_getElem? hg)).st (stay_ex e2)⟩
theorem dv_ixM (h : ∀ H1, R H H1 → G H1 → EvL ta σ H1 xs) (hk : Dv R G te σ H (isN n)) (hn : n ≤ xs.length) : Dv R G (tOp (rIxL K) ta te) σ H (fun x _ => x ∈ xs) :=
  dv_op (dv_el h) hk (fun x H1 H2 g1 r1 ⟨a, e, h1⟩ => ⟨a, e, (Rl.st g1 r1).lst _ _ h1⟩) fun x y H1 _ _ ⟨a, ex, h1⟩ ⟨i, ey, hi⟩ => by
    subst ex ey
    have hg : xs[i]? = some (xs[i]'(by omega)) := List.getElem?_eq_getElem _
    exact ⟨_, rv_ixL' (sq_of h1) hg, fun H2 e2 => List.mem_of_getElem? hg⟩
theorem dv_ixV {a : Addr} (h : ∀ H1, R H H1 → G H1 → Ev ta σ H1 (.ref a) ∧ H1 a = some (.lst xs)) (hk : Dv R G te σ H (isN n)) (hn : n ≤ xs.length) : Dv R G (tOp (rIxL K) ta te) σ H (fun x _ => x ∈ xs) :=
  dv_op (Pa := fun x H' => x = .ref a ∧ H' a = some (.lst xs)) (fun H1 r g Q q => (h H1 r g).1 H1 (Ex.refl _) Q fun H2 e => q _ H2 (rl_ex R g e).1 (rl_ex R g e).2 ⟨rfl, e _ _ (h H1 r g).2⟩) hk (fun x H1 H2 g1 r1 ⟨e, h1⟩ => ⟨e, (Rl.st g1 r1).lst _ _ h1⟩) fun x y H1 _ _ ⟨ex, h1⟩ ⟨i, ey, hi⟩ => by
    subst ex ey
    have hg : xs[i]? = some (xs[i]'(by omega)) := List.getElem?_eq_getElem _
    exact ⟨_, rv_ixL' (sq_of h1) hg, fun H2 e2 => List.mem_of_getElem? hg⟩
theorem q_asgB {i : Nat} (h : Dv R G te σ H P) (g : G H) (k : ∀ v H1, R H H1 → G H1 → P v H1 → tz D (σ.set i (some v)) H1) : tSeq (tAsg te (gName i)) tz D σ H := h H (Rl.rf G H) g _ k
theorem s_asgB {i : Nat} (h : Dv R G te σ H P) (g : G H) (k : ∀ v H1, R H H1 → G H1 → P v H1 → D.nx (σ.set i (some v)) H1) : tAsg te (gName i) D σ H := h H (Rl.rf G H) g _ k
theorem s_retB (h : Dv R G te σ H P) (g : G H) (k : ∀ v H1, R H H1 → G H1 → P v H1 → D.rt v H1) : tRet te D σ H := h H (Rl.rf G H) g _ k
end
theorem dv_draw {p c : Addr} {σ : L2.St} {H : Hp} {tp te : TE} {m' : Int} (m : Nat) (hp : ∀ H1, But p H H1 → PkAt p c H1 → Ev tp σ H1 (.ref p)) (he : ∀ H1, But p H H1 → PkAt p c H1 → Ev te σ H1 (.int m')) (h0 : 0 < m) (h1 : m ≤ 1000000) (e : m' = (m : Int) := by rfl) :
    Dv (But p) (PkAt p c) (tCall spDraw [] E0 (tCons tp (tCons te tNil))) σ H (isN m) := fun H1 r1 g1 Q q => hp H1 r1 g1 H1 (Ex.refl _) _ fun H2 e2 => he H2 (r1.trans (But.of_ex e2)) (PkAt.ex g1 e2) H2 (Ex.refl _) _ fun H3 e3 => by
  subst e
  refine ⟨p, c, (m : Int), rfl, PkAt.ex (PkAt.ex g1 e2) e3, by omega, by omega, fun i H4 i0 i1 g4 b4 => ?_⟩
  exact q _ H4 ((But.of_ex (e2.trans e3)).trans b4) g4 ⟨i.toNat, by congr 1; omega, by omega⟩
end Lr
set_option Elab.async false
set_option linter.all false
set_option maxRecDepth 100000
set_option maxHeartbeats 4000000
namespace Lr
open PySem L2 Evl
section
variable {P : Program} {w : World} {K : PySem.W.Frag} {mg : Str → Option Value} {base : Heap} {aM aS aO aB aE : Addr} {f : Addr} {fd : FuncData}
/-! ### _law_pool -/
def spPool : Sp := fun vs H Q _ => ∃ (p c : Addr) (n m : Nat), vs = [.ref p, .int n, .int m] ∧ PkAt p c H ∧ n ≤ 8 ∧ 0 < m ∧ m ≤ 256 ∧
  ∀ (a : Addr) (xs : List Int) H', H a = none → But p H H' → PkAt p c H' → H' a = some (.lst (xs.map V.int)) → xs.length = n → (∀ x ∈ xs, 0 ≤ x ∧ x < m) → Q (.ref a) H'
theorem sc_law_pool : FnScope ["_law_pack_here", "_law_count", "_law_span", "_law_pool_here", "_law_k", "_law_seat", "_law_turn"] ["_law_pack_here", "_law_count", "_law_span"] (defScope (top 21)) := ⟨rfl, rfl, rfl, by decide +kernel, rfl, by decide +kernel, by decide +kernel⟩
theorem ok_law_pool {f1 : Addr} {fd1 : FuncData} (F : FnP K "_law_pool" (top 21) f fd) (T : Tx K w mg aM aS aO aB) (c_law_draw : Cal P w K mg base "_law_draw" 1 ["_law_pack_here", "_law_many"] spDraw f1 fd1) :
    FnOk P w K mg base CX0 2 f fd ["_law_pack_here", "_law_count", "_law_span"] spPool := by
  refine F.ok sc_law_pool (fun vs H Q E h => ?_) (fun cdv A outer s H vs Q E hr h => ?_)
  · obtain ⟨p, c, n, m, rfl, _⟩ := h
    rfl
  · obtain ⟨p, c, n, m, rfl, hp, hn, m0, m1, q⟩ := h
    refine ⟨_, PSs.nox (pss_cons (ps_set (i := 3) sc_law_pool.nd rfl (Or.inl rfl) (pe_lst pa_nil))
      (pss_cons (ps_for PassesOwn.never rfl (pi_range1 rfl T.range (pa_cons (pv 1) pa_nil)) (pg_name (i := 4) sc_law_pool.nd rfl (Or.inl rfl))
        (pss_cons (ps_set (i := 5) sc_law_pool.nd rfl (Or.inl rfl) (pe_cal c_law_draw (hr.mono (by decide)) (by rfl) (pa_cons (pv 0) (pa_cons (pv 2) pa_nil))))
        (pss_cons (ps_for PassesOwn.never rfl (pi_range1 rfl T.range (pa_cons (pv 1) pa_nil)) (pg_name (i := 6) sc_law_pool.nd rfl (Or.inl rfl))
          (pss_one (ps_if (pt_cmpR op_in_seq (pv 5) (pv 3) rfl)
            (pss_one (ps_set (i := 5) sc_law_pool.nd rfl (Or.inl rfl) (pe_op op_mod (pe_callTy call_int1 (by rfl) T.int (by decide +kernel) (pa_cons (pe_op op_add (pv 5) pe_int) pa_nil)) (pv 2))))
            pss_nil)))
        (pss_one (ps_expr (pe_bm PySem.F.plainAttrs_list PySem.F.slot_list_append PySem.F.type_list_append mt_append (pv 3) (pa_cons (pv 5) pa_nil)))))))
      (pss_one (ps_ret (pv 3))))), ?_⟩
    refine q_asgL (el_lst ea_nil (by decide)) fun a H1 na e1 ha => ?_
    have dp : ∃ kvs, H1 p = some (.dK kvs) := (hp.ex e1).dK
    have nap : a ≠ p := fun z => by
      obtain ⟨kvs, hk⟩ := dp
      rw [← z, ha] at hk
      cases hk
    have nac : a ≠ c := by
      obtain ⟨ns, _, _, _, _, _, hc, _⟩ := hp
      exact (ne_of_none hc na).symm
    refine q_forR1 (n := (n : Nat)) (ea_cons (ev_var rfl) ea_nil) ⟨by omega, by omega⟩ (fun i σ' H' => ∃ x4 x5 x6 xs, σ' = [some (.ref p), some (.int n), some (.int m), some (.ref a), x4, x5, x6] ∧ But p H H' ∧ PkAt p c H' ∧ H' a = some (.lst ((xs : List Int).map V.int)) ∧ xs.length = i ∧ ∀ x ∈ xs, 0 ≤ x ∧ x < m)
      (fun H2 e2 => ⟨_, _, _, [], rfl, But.of_ex (e1.trans e2), hp.ex (e1.trans e2), e2 _ _ ha, rfl, fun x hx => nomatch hx⟩) ?_ ?_
    · rintro i σ' H' hi ⟨x4, x5, x6, xs, rfl, b1, p1, ha1, hl, hx⟩
      refine q_asgB (dv_draw (p := p) m (fun _ _ _ => ev_var rfl) (fun _ _ _ => ev_var rfl) m0 (by omega)) p1 ?_
      rintro v H2 b2 p2 ⟨y, rfl, hy⟩
      have ha2 := b2 _ _ ha1 nap
      refine q_forR1 (n := (n : Nat)) (ea_cons (ev_var rfl) ea_nil) ⟨by omega, by omega⟩ (fun j σ' H' => ∃ x6 z, σ' = [some (.ref p), some (.int n), some (.int m), some (.ref a), some (.int (i : Nat)), some (.int z), x6] ∧ But p H H' ∧ PkAt p c H' ∧ H' a = some (.lst ((xs : List Int).map V.int)) ∧ 0 ≤ z ∧ z < m)
        (fun H3 e3 => ⟨_, _, rfl, (b1.trans b2).trans (But.of_ex e3), PkAt.ex p2 e3, e3 _ _ ha2, by omega, by omega⟩) ?_ ?_
      · rintro j σ' H3 hj ⟨x6, z, rfl, b3, p3, ha3, z0, z1⟩
        refine s_when (et_test (ev_op (ev_var rfl) (ev_var rfl) (rv_isL (sq_of ha3) rfl (ints_flat xs)))) (fun hb H4 e4 => ?_) (fun hb H4 e4 => ⟨_, _, rfl, b3.trans (But.of_ex e4), p3.ex e4, e4 _ _ ha3, z0, z1⟩)
        refine s_asg (ev_op (rc_int1 (ev_op (ev_var rfl) ev_c rv_I0)) (ev_var rfl) (rv_I (by omega))) fun H5 e5 => ?_
        exact ⟨_, _, rfl, b3.trans (But.of_ex (e4.trans e5)), p3.ex (e4.trans e5), (e4.trans e5) _ _ ha3, Int.emod_nonneg _ (by omega), Int.emod_lt_of_pos _ (by omega)⟩
      · rintro σ' H3 ⟨x6, z, rfl, b3, p3, ha3, z0, z1⟩
        refine s_app (l := a) (xs := xs.map V.int) ha3 (ev_var rfl) (ev_var rfl) (by rw [List.length_map]; omega) fun H4 e4 => ?_
        refine ⟨_, _, _, xs ++ [z], rfl, fun b o hb hbp => ?_, ?_, ?_, by rw [List.length_append, hl]; rfl, fun x hx' => ?_⟩
        · have nba : b ≠ a := ne_of_none hb na
          rw [upd_ne nba]
          exact e4 _ _ (b3 _ _ hb hbp)
        · exact (p3.ex e4).upd nap nac
        · rw [upd_same, List.map_append]; rfl
        · rcases List.mem_append.mp hx' with h | h
          · exact hx x h
          · rw [List.mem_singleton.mp h]; exact ⟨z0, z1⟩
    · rintro σ' H' ⟨x4, x5, x6, xs, rfl, b1, p1, ha1, hl, hx⟩
      rw [Int.toNat_natCast] at hl
      exact s_ret (ev_var rfl) fun H2 e2 => q a xs H2 na (b1.trans (But.of_ex e2)) (p1.ex e2) (e2 _ _ ha1) hl hx
end
end Lr
set_option Elab.async false
set_option linter.all false
set_option maxRecDepth 100000
set_option maxHeartbeats 4000000
namespace Lr
open PySem L2 Evl
theorem log2_lt {i : Int} (h0 : 0 ≤ i) (h1 : i ≤ 10 ^ 56) : i.natAbs.log2 < 1920 := by
  by_cases h : i.natAbs = 0
  · rw [h]; decide
  · rw [Nat.log2_lt h]
    have : i.natAbs ≤ 10 ^ 56 := by omega
    exact Nat.lt_of_le_of_lt this (by decide +kernel)
theorem ev_str {σ : L2.St} {H : Hp} {te : TE} {i : Int} (h : Ev te σ H (.int i)) (hl : i.natAbs.log2 < 1920) : Ev (tCB (fun xs H Q => ∃ i, xs = [.int i] ∧ i.natAbs.log2 < 1920 ∧ Q (.str (toString i)) H) (tCons te tNil)) σ H (.str (toString i)) :=
  ev_cb (ea_cons h ea_nil) fun H1 e1 Q k => ⟨i, rfl, hl, k H1 (Ex.refl _)⟩
section
variable {P : Program} {w : World} {K : PySem.W.Frag} {mg : Str → Option Value} {base : Heap} {aM aS aO aB aE : Addr} {f : Addr} {fd : FuncData}
/-! ### _law_odd -/
def spOdd : Sp := fun vs H Q _ => ∃ (k : Nat) (s a : Int) (m : Str), vs = [.int k, .int s, .int a, .str m] ∧ k < 20 ∧ 0 ≤ s ∧ s < 256 ∧ 0 ≤ a ∧ a ≤ 10 ^ 56 ∧ ∀ v H', Ex H H' → EntP v H' → Q v H'
theorem sc_law_odd : FnScope ["_law_pick", "_law_seat", "_law_age", "_law_mark"] ["_law_pick", "_law_seat", "_law_age", "_law_mark"] (defScope (top 22)) := ⟨rfl, rfl, rfl, by decide +kernel, rfl, by decide +kernel, by decide +kernel⟩
theorem ok_law_odd (F : FnP K "_law_odd" (top 22) f fd) (T : Tx K w mg aM aS aO aB) : FnOk P w K mg base CX0 1 f fd ["_law_pick", "_law_seat", "_law_age", "_law_mark"] spOdd := by
  refine F.ok sc_law_odd (fun vs H Q E h => ?_) (fun cdv A outer s H vs Q E hr h => ?_)
  · obtain ⟨k, s, a, m, rfl, _⟩ := h
    rfl
  · obtain ⟨k, s, a, m, rfl, hk, s0, s1, a0, a1, q⟩ := h
    refine ⟨_, PSs.nox (pss_cons (ps_if (pt_cmpR op_lt (pv 0) pe_int (nomark _))
        (pss_one (ps_ret (pe_ix ix_list (pe_lst (pa_cons (pe_lst (pa_cons (pv 1) (pa_cons (pv 2) (pa_cons (pv 3) (pa_cons pe_non pa_nil))))) (pa_cons (pe_tup (pa_cons (pv 1) (pa_cons (pv 2) (pa_cons (pv 3) pa_nil)))) (pa_cons (pe_tup (pa_cons (pv 1) (pa_cons (pv 2) (pa_cons (pv 3) (pa_cons pe_non (pa_cons pe_non pa_nil)))))) pa_nil)))) (pv 0) (fun _ _ => rfl))))
        pss_nil)
      (pss_cons (ps_if (pt_cmpR op_lt (pv 0) pe_int (nomark _))
        (pss_one (ps_ret (pe_tup (pa_cons (pe_ix ix_list (pe_lst (pa_cons (pe_op op_sub (pe_un un_neg pe_int) (pv 1)) (pa_cons (pe_callTy call_str_int (by rfl) T.str (by decide +kernel) (pa_cons (pv 1) pa_nil)) (pa_cons pe_non pa_nil)))) (pe_op op_sub (pv 0) pe_int) (fun _ _ => rfl)) (pa_cons (pv 2) (pa_cons (pv 3) (pa_cons pe_non pa_nil)))))))
        pss_nil)
      (pss_cons (ps_if (pt_cmpR op_lt (pv 0) pe_int (nomark _))
        (pss_one (ps_ret (pe_tup (pa_cons (pv 1) (pa_cons (pe_ix ix_list (pe_lst (pa_cons (pe_op op_sub (pe_un un_neg pe_int) (pv 2)) (pa_cons pe_non (pa_cons (pe_callTy call_str_int (by rfl) T.str (by decide +kernel) (pa_cons (pv 2) pa_nil)) pa_nil)))) (pe_op op_sub (pv 0) pe_int) (fun _ _ => rfl)) (pa_cons (pv 3) (pa_cons pe_non pa_nil)))))))
        pss_nil)
      (pss_cons (ps_if (pt_cmpR op_lt (pv 0) pe_int (nomark _))
        (pss_one (ps_ret (pe_tup (pa_cons (pv 1) (pa_cons (pv 2) (pa_cons (pe_ix ix_list (pe_lst (pa_cons pe_str (pa_cons pe_str (pa_cons pe_non (pa_cons pe_int pa_nil))))) (pe_op op_sub (pv 0) pe_int) (fun _ _ => rfl)) (pa_cons pe_non pa_nil)))))))
        pss_nil)
      (pss_cons (ps_if (pt_cmpR op_lt (pv 0) pe_int (nomark _))
        (pss_one (ps_ret (pe_tup (pa_cons (pv 1) (pa_cons (pv 2) (pa_cons (pv 3) (pa_cons (pe_ix ix_list (pe_lst (pa_cons (pe_un un_neg pe_int) (pa_cons pe_str (pa_cons (pe_tup (pa_cons pe_int pa_nil)) pa_nil)))) (pe_op op_sub (pv 0) pe_int) (fun _ _ => rfl)) pa_nil)))))))
        pss_nil)
      (pss_one (ps_ret (pe_ix ix_list (pe_lst (pa_cons pe_non (pa_cons pe_str (pa_cons pe_int (pa_cons (pe_tup pa_nil) pa_nil))))) (pe_op op_sub (pv 0) pe_int) (fun _ _ => rfl))))))))), ?_⟩
    have b1 : ∀ {H}, Dv Ex TG0 (tVar 1) [some (.int k), some (.int s), some (.int a), some (.str m)] H It := fun {H} => it_ev (fun _ _ _ => ev_var rfl) fun _ => trivial
    have b2 : ∀ {H}, Dv Ex TG0 (tVar 2) [some (.int k), some (.int s), some (.int a), some (.str m)] H It := fun {H} => it_ev (fun _ _ _ => ev_var rfl) fun _ => trivial
    have b3 : ∀ {H}, Dv Ex TG0 (tVar 3) [some (.int k), some (.int s), some (.int a), some (.str m)] H It := fun {H} => it_ev (fun _ _ _ => ev_var rfl) fun _ => trivial
    have bn : ∀ {H}, Dv Ex TG0 (tC .non) [some (.int k), some (.int s), some (.int a), some (.str m)] H It := fun {H} => it_ev (fun _ _ _ => ev_c) fun _ => trivial
    have bs : ∀ {H} {x : Str}, Dv Ex TG0 (tC (.str x)) [some (.int k), some (.int s), some (.int a), some (.str m)] H It := fun {H x} => it_ev (fun _ _ _ => ev_c) fun _ => trivial
    have bi : ∀ {H} {x : Int}, Dv Ex TG0 (tC (.int x)) [some (.int k), some (.int s), some (.int a), some (.str m)] H It := fun {H x} => it_ev (fun _ _ _ => ev_c) fun _ => trivial
    have lt : ∀ {H} (j : Int), EvT (tTest (tOp (rI0 fun i j => .bl (decide (i < j))) (tVar 0) (tC (.int j)))) [some (.int k), some (.int s), some (.int a), some (.str m)] H (decide ((k : Int) < j)) := fun {H} j => et_test (ev_op (ev_var rfl) ev_c rv_I0)
    have fin : ∀ {H1 : Hp}, Ex H H1 → ∀ v H2, Ex H1 H2 → TG0 H2 → EntP v H2 → Q v H2 := fun {H1} e1 v H2 r _ p => q v H2 (e1.trans r) p
    refine q_when (lt 3) (fun hb H1 e1 => ?_) (fun hb H1 e1 => ?_)
    · have hb := of_decide_eq_true hb
      exact s_retB (R := Ex) (G := TG0) (dv_ixE (da_consE (dv_lstE (da_cons b1 (da_cons b2 (da_cons b3 (da_cons bn da_nil)))) (by decide)) (da_consE (dv_ent (da_cons b1 (da_cons b2 (da_cons b3 da_nil))) (by decide)) (da_consE (dv_ent (da_cons b1 (da_cons b2 (da_cons b3 (da_cons bn (da_cons bn da_nil))))) (by decide)) da_nilE))) (by decide) (dv_evN (fun _ _ _ => ev_var rfl) (by omega))) trivial (fin e1)
    have hb := of_decide_eq_false hb
    refine q_when (lt 6) (fun hb H2 e2 => ?_) (fun hb H2 e2 => ?_)
    · have hb := of_decide_eq_true hb
      exact s_retB (R := Ex) (G := TG0) (dv_ent (da_cons (dv_ixI (da_cons (it_ev (v := .int (-1 - s)) (fun _ _ _ => ev_op (ev_un ev_c ru_neg) (ev_var rfl) rv_I0) fun _ => trivial) (da_cons (it_ev (fun _ _ _ => ev_str (ev_var rfl) (log2_lt s0 (by omega))) fun _ => trivial) (da_cons bn da_nil))) (by decide) (dv_evN (fun _ _ _ => ev_op (ev_var rfl) ev_c rv_I0) (by omega))) (da_cons b2 (da_cons b3 (da_cons bn da_nil)))) (by decide)) trivial (fin (e1.trans e2))
    have hb := of_decide_eq_false hb
    refine q_when (lt 9) (fun hb H3 e3 => ?_) (fun hb H3 e3 => ?_)
    · have hb := of_decide_eq_true hb
      exact s_retB (R := Ex) (G := TG0) (dv_ent (da_cons b1 (da_cons (dv_ixI (da_cons (it_ev (v := .int (-1 - a)) (fun _ _ _ => ev_op (ev_un ev_c ru_neg) (ev_var rfl) rv_I0) fun _ => trivial) (da_cons bn (da_cons (it_ev (fun _ _ _ => ev_str (ev_var rfl) (log2_lt a0 a1)) fun _ => trivial) da_nil))) (by decide) (dv_evN (fun _ _ _ => ev_op (ev_var rfl) ev_c rv_I0) (by omega))) (da_cons b3 (da_cons bn da_nil)))) (by decide)) trivial (fin ((e1.trans e2).trans e3))
    have hb := of_decide_eq_false hb
    refine q_when (lt 13) (fun hb H4 e4 => ?_) (fun hb H4 e4 => ?_)
    · have hb := of_decide_eq_true hb
      exact s_retB (R := Ex) (G := TG0) (dv_ent (da_cons b1 (da_cons b2 (da_cons (dv_ixI (da_cons bs (da_cons bs (da_cons bn (da_cons bi da_nil)))) (by decide) (dv_evN (fun _ _ _ => ev_op (ev_var rfl) ev_c rv_I0) (by omega))) (da_cons bn da_nil)))) (by decide)) trivial (fin (((e1.trans e2).trans e3).trans e4))
    have hb := of_decide_eq_false hb
    refine q_when (lt 16) (fun hb H5 e5 => ?_) (fun hb H5 e5 => ?_)
    · have hb := of_decide_eq_true hb
      exact s_retB (R := Ex) (G := TG0) (dv_ent (da_cons b1 (da_cons b2 (da_cons b3 (da_cons (dv_ixI (da_cons (it_ev (v := .int (-1)) (fun _ _ _ => ev_un ev_c ru_neg) fun _ => trivial) (da_cons bs (da_cons (dv_tupI (da_cons bi da_nil) (by decide)) da_nil))) (by decide) (dv_evN (fun _ _ _ => ev_op (ev_var rfl) ev_c rv_I0) (by omega))) da_nil)))) (by decide)) trivial (fin ((((e1.trans e2).trans e3).trans e4).trans e5))
    have hb := of_decide_eq_false hb
    exact s_retB (R := Ex) (G := TG0) (dv_ixE (da_consE (e_ev (v := .non) (fun _ _ _ => ev_c) fun _ => trivial) (da_consE (e_ev (v := .str "alive") (fun _ _ _ => ev_c) fun _ => trivial) (da_consE (e_ev (v := .int 7) (fun _ _ _ => ev_c) fun _ => trivial) (da_consE (dv_ent da_nil (by decide)) da_nilE)))) (by decide) (dv_evN (fun _ _ _ => ev_op (ev_var rfl) ev_c rv_I0) (by omega))) trivial (fin ((((e1.trans e2).trans e3).trans e4).trans e5))
/-! ### _law_next_own -/
theorem RunAt.st {H H' : Hp} {v : V} {r : Run} (h : RunAt H v r) (s : Stay H H') : RunAt H' v r := h.stay s
def spNext : Sp := fun vs H Q _ => ∃ (p c u : Addr) (o lo : Int) (r : Run), vs = [.ref p, .int o, .ref u, .int lo] ∧ PkAt p c H ∧ RunAt H (.ref u) r ∧ r.length ≤ 1000 ∧ ∀ v H', But p H H' → PkAt p c H' → EntP v H' → Q v H'
/-- len(run) -/
theorem ev_lenRun {σ : L2.St} {H : Hp} {te : TE} {u : Addr} {r : Run} (h : Ev te σ H (.ref u)) (hr : RunAt H (.ref u) r) : Ev (tCB (rLenS K) (tCons te tNil)) σ H (.int (r.length : Nat)) := by
  obtain ⟨a, e, ha, _⟩ := hr
  cases e
  exact ev_is (ev_len h (sq_of ha)) (by rw [List.length_map])
/-- x = _law_last(run, len(run), seat) -/
theorem q_last {σ : L2.St} {H : Hp} {tu ts : TE} {tz : TS} {D : Ends} {i : Nat} {u : Addr} {r : Run} {s : Int} (hu : Ev tu σ H (.ref u)) (hs : Ev ts σ H (.int s)) (hr : RunAt H (.ref u) r) (hl : r.length ≤ 1000)
    (k : ∀ v H1, Ex H H1 → BefAt H1 v (lastE s ((Run.eo r).take r.length)) → tz D (σ.set i (some v)) H1) :
    tSeq (tAsg (tCall spLast [] E0 (tCons tu (tCons (tCB (rLenS K) (tCons tu tNil)) (tCons ts tNil)))) (gName i)) tz D σ H :=
  q_call (ea_cons hu (ea_cons (ev_lenRun hu hr) (ea_cons hs ea_nil))) fun H1 e1 => ⟨.ref u, r, r.length, s, rfl, hr.ex e1, Nat.le_refl _, hl, fun v H2 e2 hb => k v H2 (e1.trans e2) hb⟩
theorem sc_law_next_own : FnScope ["_law_pack_here", "_law_owner", "_law_run", "_law_lowest", "_law_last_here"] ["_law_pack_here", "_law_owner", "_law_run", "_law_lowest"] (defScope (top 32)) := ⟨rfl, rfl, rfl, by decide +kernel, rfl, by decide +kernel, by decide +kernel⟩
theorem ok_law_next_own {f1 f2 : Addr} {fd1 fd2 : FuncData} (F : FnP K "_law_next_own" (top 32) f fd) (T : Tx K w mg aM aS aO aB) (c_law_draw : Cal P w K mg base "_law_draw" 1 ["_law_pack_here", "_law_many"] spDraw f1 fd1)
    (c_law_last : Cal P w K mg base "_law_last" 3 ["_law_run", "_law_at", "_law_seat"] spLast f2 fd2) : FnOk P w K mg base CX0 4 f fd ["_law_pack_here", "_law_owner", "_law_run", "_law_lowest"] spNext := by
  refine F.ok sc_law_next_own (fun vs H Q E h => ?_) (fun cdv A outer s H vs Q E hr h => ?_)
  · obtain ⟨p, c, u, o, lo, r, rfl, _⟩ := h
    rfl
  · obtain ⟨p, c, u, o, lo, r, rfl, hp, hrun, hl, q⟩ := h
    refine ⟨_, PSs.nox (pss_cons (ps_set (i := 4) sc_law_next_own.nd rfl (Or.inl rfl) (pe_cal c_law_last (hr.mono (by decide)) (by rfl) (pa_cons (pv 2) (pa_cons (pe_callB call_len_seq (by rfl) T.len PySem.boot_len (pa_cons (pv 2) pa_nil)) (pa_cons (pv 1) pa_nil)))))
      (pss_cons (ps_if (pt_cmpR op_isN1 (pv 4) pe_non (nomark _))
        (pss_one (ps_ret (pe_tup (pa_cons (pv 1) (pa_cons (pe_op op_add (pe_op op_add (pv 3) pe_int) (pe_cal c_law_draw (hr.mono (by decide)) (by rfl) (pa_cons (pv 0) (pa_cons pe_int pa_nil)))) (pa_cons pe_str (pa_cons (pv 1) pa_nil)))))))
        pss_nil)
      (pss_one (ps_ret (pe_tup (pa_cons (pv 1) (pa_cons (pe_op op_add (pe_ix ix_tup (pv 4) pe_int (fun _ _ => rfl)) pe_int) (pa_cons (pe_ix ix_list (pe_lst (pa_cons pe_str (pa_cons pe_str pa_nil))) (pe_op op_fdiv (pe_callTy call_int1 (by rfl) T.int (by decide +kernel) (pa_cons (pe_cal c_law_draw (hr.mono (by decide)) (by rfl) (pa_cons (pv 0) (pa_cons pe_int pa_nil))) pa_nil)) pe_int) (fun _ _ => rfl)) (pa_cons (pv 1) pa_nil))))))))), ?_⟩
    refine q_last (ev_var rfl) (ev_var rfl) hrun hl fun v H1 e1 hb => ?_
    rcases hb with ⟨_, rfl⟩ | ⟨cl, l, _, rfl, hc, hml⟩
    · refine q_when (b := true) (et_is (et_test (ev_op (ev_var rfl) ev_c rv_isN)) rfl) (fun _ H2 e2 => ?_) (fun z => absurd z (by decide))
      have e12 := e1.trans e2
      refine s_retB (dv_ent (da_cons (it_ev (fun _ _ _ => ev_var rfl) fun _ => trivial) (da_cons (dv_op (P := It) (dv_ev (v := .int (lo + 1)) fun _ _ _ => ev_op (ev_var rfl) ev_c rv_I0) (dv_draw (p := p) (c := c) 3 (fun _ _ _ => ev_var rfl) (fun _ _ _ => ev_c) (by decide) (by decide)) (fun _ _ _ _ _ z => z) fun x y H3 _ _ ex ⟨i, ey, _⟩ => ?_) (da_cons (it_ev (fun _ _ _ => ev_c) fun _ => trivial) (da_cons (it_ev (fun _ _ _ => ev_var rfl) fun _ => trivial) da_nil)))) (by decide)) (hp.ex e12) fun v H3 b3 p3 he => q v H3 ((But.of_ex e12).trans b3) p3 he
      subst ex ey
      exact ⟨_, rv_I0, fun _ _ => trivial⟩
    · refine q_when (b := false) (et_is (et_test (ev_op (ev_var rfl) ev_c rv_isN)) rfl) (fun z => absurd z (by decide)) (fun _ H2 e2 => ?_)
      have e12 := e1.trans e2
      have hp2 := hp.ex e12
      have hc2 := e2 _ _ hc
      refine s_retB (R := But p) (G := PkAt p c) (dv_ent (da_cons (it_ev (fun _ _ _ => ev_var rfl) fun _ => trivial) (da_cons (it_ev (v := .int (l.life + 1)) (fun H3 b3 p3 => ev_op (ev_it 1 (ev_var rfl) (st_of ((rlP p c).st hp2 b3 |>.tup _ _ hc2)) rfl) ev_c rv_I0) fun _ => trivial) (da_cons (dv_imp (dv_ixM (n := 2) (fun _ _ _ => el_lst (ea_cons ev_c (ea_cons ev_c ea_nil)) (by show 2 ≤ 100000; decide)) (dv_fdiv (n := 5) (dv_int1 (dv_draw (p := p) (c := c) 5 (fun _ _ _ => ev_var rfl) (fun _ _ _ => ev_c) (by decide) (by decide))) (by decide) (by decide)) (Nat.le_refl _)) fun v H' _ hm => ?_) (da_cons (it_ev (fun _ _ _ => ev_var rfl) fun _ => trivial) da_nil)))) (by decide)) hp2 fun v H3 b3 p3 he => q v H3 ((But.of_ex e12).trans b3) p3 he
      rcases List.mem_cons.mp hm with rfl | hm
      · trivial
      · rw [List.mem_singleton.mp hm]; trivial
end
end Lr
set_option Elab.async false
set_option linter.all false
set_option maxRecDepth 100000
set_option maxHeartbeats 4000000
namespace Lr
open PySem L2 Evl
/-! ### the scene -/
def scn (pl d : Addr) (lo : Int) (cm : Bool) : List (L2.Key × V) := [(Sum.inr "pool", .ref pl), (Sum.inr "journals", .ref d), (Sum.inr "lowest", .int lo), (Sum.inr "calm", .bl cm)]
theorem kpj : ¬ (Sum.inr ("pool" : Str) : L2.Key) = Sum.inr ("journals" : Str) := by decide +kernel
theorem kpl : ¬ (Sum.inr ("pool" : Str) : L2.Key) = Sum.inr ("lowest" : Str) := by decide +kernel
theorem kpc : ¬ (Sum.inr ("pool" : Str) : L2.Key) = Sum.inr ("calm" : Str) := by decide +kernel
theorem kjl : ¬ (Sum.inr ("journals" : Str) : L2.Key) = Sum.inr ("lowest" : Str) := by decide +kernel
theorem kjc : ¬ (Sum.inr ("journals" : Str) : L2.Key) = Sum.inr ("calm" : Str) := by decide +kernel
theorem klc : ¬ (Sum.inr ("lowest" : Str) : L2.Key) = Sum.inr ("calm" : Str) := by decide +kernel
section
variable {pl d : Addr} {lo : Int} {cm : Bool}
theorem scn_p : valV (scn pl d lo cm) (Sum.inr "pool") = some (.ref pl) := valV_pos rfl
theorem scn_j : valV (scn pl d lo cm) (Sum.inr "journals") = some (.ref d) := by unfold scn; rw [valV_neg kpj]; exact valV_pos rfl
theorem scn_l : valV (scn pl d lo cm) (Sum.inr "lowest") = some (.int lo) := by unfold scn; rw [valV_neg kpl, valV_neg kjl]; exact valV_pos rfl
theorem scn_c : valV (scn pl d lo cm) (Sum.inr "calm") = some (.bl cm) := by unfold scn; rw [valV_neg kpc, valV_neg kjc, valV_neg klc]; exact valV_pos rfl
end
theorem JrnS.but {H H' : Hp} {d : Addr} {J : Jrn} (h : JrnS H d J) (s : Stay H H') (hd : ∀ kvs, H d = some (.dK kvs) → H' d = some (.dK kvs)) : JrnS H' d J := by
  obtain ⟨kvs, h1, h2⟩ := h
  exact ⟨kvs, hd _ h1, Paired.mono h2 fun _ _ z => ⟨z.1, z.2.stay s⟩⟩
structure Scn (p sc pl d : Addr) (ps : List Int) (J : Jrn) (lo : Int) (cm : Bool) (H : Hp) : Prop where
  h : H sc = some (.dK (scn pl d lo cm))
  pl : H pl = some (.lst (ps.map V.int))
  jn : JrnS H d J
  B : Bnd J
  ns : sc ≠ p
  nd : d ≠ p
  p0 : ∀ x ∈ ps, 0 ≤ x ∧ x < 256
  l0 : 0 < ps.length
  l1 : ps.length ≤ 8
  lo0 : 0 ≤ lo
  lo1 : lo ≤ 10 ^ 55
section
variable {p c sc pl d : Addr} {ps : List Int} {J : Jrn} {lo : Int} {cm : Bool} {H H' : Hp}
theorem Scn.but (h : Scn p sc pl d ps J lo cm H) (g : PkAt p c H) (b : But p H H') : Scn p sc pl d ps J lo cm H' := by
  have s : Stay H H' := (rlP p c).st g b
  exact ⟨b _ _ h.h h.ns, s.lst _ _ h.pl, h.jn.but s fun kvs z => b _ _ z h.nd, h.B, h.ns, h.nd, h.p0, h.l0, h.l1, h.lo0, h.lo1⟩
theorem Scn.ex (h : Scn p sc pl d ps J lo cm H) (e : Ex H H') : Scn p sc pl d ps J lo cm H' := ⟨e _ _ h.h, e _ _ h.pl, h.jn.ex e, h.B, h.ns, h.nd, h.p0, h.l0, h.l1, h.lo0, h.lo1⟩
end
/-- what a def that makes an entry is given -/
structure Giv (p c sc pl d u : Addr) (ps : List Int) (J : Jrn) (lo : Int) (cm : Bool) (r : Run) (H : Hp) : Prop where
  pk : PkAt p c H
  s : Scn p sc pl d ps J lo cm H
  rn : RunAt H (.ref u) r
  l : r.length ≤ 1000
theorem Giv.ex {p c sc pl d u : Addr} {ps : List Int} {J : Jrn} {lo : Int} {cm : Bool} {r : Run} {H H' : Hp} (h : Giv p c sc pl d u ps J lo cm r H) (e : Ex H H') : Giv p c sc pl d u ps J lo cm r H' := ⟨h.pk.ex e, h.s.ex e, h.rn.ex e, h.l⟩
theorem Giv.but {p c sc pl d u : Addr} {ps : List Int} {J : Jrn} {lo : Int} {cm : Bool} {r : Run} {H H' : Hp} (h : Giv p c sc pl d u ps J lo cm r H) (b : But p H H') (g : PkAt p c H') : Giv p c sc pl d u ps J lo cm r H' :=
  ⟨g, h.s.but h.pk b, h.rn.st ((rlP p c).st h.pk b), h.l⟩
def lastO (r : Run) : Eo := match r[r.length - 1]? with
  | some x => x.2
  | none => none
def spEnt (more : Run → Prop) : Sp := fun vs H Q _ => ∃ (p c sc pl d u : Addr) (o : Int) (ps : List Int) (J : Jrn) (lo : Int) (cm : Bool) (r : Run), vs = [.ref p, .ref sc, .int o, .ref u] ∧ Giv p c sc pl d u ps J lo cm r H ∧ more r ∧
  ∀ v H', But p H H' → PkAt p c H' → EntP v H' → Q v H'
/-! ### lists of new entries -/
def Opn (H : Hp) (a : Addr) (vs : List V) : Prop := H a = some (.lst vs) ∧ ∀ v ∈ vs, ∃ b s l m o, v = .ref b ∧ H b = some (.tup [.int s, .int l, .str m, .int o]) ∧ isMark m = true
section
variable {K : PySem.W.Frag} {H H' : Hp} {a b : Addr} {vs : List V}
theorem Opn.ex (h : Opn H a vs) (e : Ex H H') : Opn H' a vs := ⟨e _ _ h.1, fun v hv => by
  obtain ⟨b, s, l, m, o, e1, e2, e3⟩ := h.2 v hv
  exact ⟨b, s, l, m, o, e1, e _ _ e2, e3⟩⟩
theorem Opn.app {tp : Addr} {s l o : Int} {m : Str} (h : Opn H a vs) (ht : H tp = some (.tup [.int s, .int l, .str m, .int o])) (hm : isMark m = true) : Opn (upd H a (.lst (vs ++ [.ref tp]))) a (vs ++ [.ref tp]) := by
  refine ⟨upd_same, fun v hv => ?_⟩
  have up : ∀ {b xs}, H b = some (.tup xs) → (upd H a (.lst (vs ++ [.ref tp]))) b = some (.tup xs) := fun {b xs} z => by
    rw [upd_ne (ne_of z h.1 fun q => nomatch q)]; exact z
  rcases List.mem_append.mp hv with hv | hv
  · obtain ⟨b, s, l, m, o, e1, e2, e3⟩ := h.2 v hv
    exact ⟨b, s, l, m, o, e1, up e2, e3⟩
  · rw [List.mem_singleton.mp hv]
    exact ⟨tp, s, l, m, o, rfl, up ht, hm⟩
theorem Opn.far {xs ys : List V} (h : Opn H a vs) (n : a ≠ b) (hb : H b = some (.lst xs)) : Opn (upd H b (.lst ys)) a vs := by
  refine ⟨by rw [upd_ne n]; exact h.1, fun v hv => ?_⟩
  obtain ⟨c, s, l, m, o, e1, e2, e3⟩ := h.2 v hv
  exact ⟨c, s, l, m, o, e1, by rw [upd_ne (ne_of e2 hb fun q => nomatch q)]; exact e2, e3⟩
theorem Opn.ent (h : Opn H a vs) : ∀ v ∈ vs, EntP v H := fun v hv => by
  obtain ⟨b, s, l, m, o, e1, e2, _⟩ := h.2 v hv
  subst e1
  refine ⟨_, ent_tup e2 fun x hx => ?_⟩
  rcases List.mem_cons.mp hx with rfl | hx
  · trivial
  rcases List.mem_cons.mp hx with rfl | hx
  · trivial
  rcases List.mem_cons.mp hx with rfl | hx
  · trivial
  rw [List.mem_singleton.mp hx]
  trivial
theorem Opn.dps : ∀ {vs : List V}, (∀ v ∈ vs, ∃ b s l m o, v = .ref b ∧ H b = some (.tup [.int s, .int l, .str m, .int o]) ∧ isMark m = true) → ∃ ds, DpAll K H vs ds ∧ PyData.canLayAll0 ds = true ∧ PyData.depthAll ds ≤ 1 ∧ PyData.eqvAll ds [] = vs.isEmpty
  | [], _ => ⟨[], .nil, rfl, by simp [PyData.depthAll], rfl⟩
  | v :: vs, h => by
    obtain ⟨ds, h1, h2, h3, _⟩ := Opn.dps (vs := vs) fun v hv => h v (List.mem_cons_of_mem _ hv)
    obtain ⟨b, s, l, m, o, rfl, e2, e3⟩ := h v List.mem_cons_self
    have hm := strOk_mark e3
    refine ⟨.tuple [.int s, .int l, .str m, .int o] :: ds, .cons (.tup (st_of e2) (.cons (.int _) (.cons (.int _) (.cons (.str _) (.cons (.int _) .nil))))) h1, ?_, ?_, rfl⟩
    · simp [PyData.canLayAll0, PyData.canLay0, hm, h2]
    · simp [PyData.depthAll, PyData.depth]; omega
/-- l == [] | l != [] -/
theorem Opn.nil (h : Opn H a vs) (hb : H b = some (.lst [])) : ∃ d e, Dp K H (.ref a) d ∧ Dp K H (.ref b) e ∧ SeqAt.shaped d = true ∧ SeqAt.shaped e = true ∧ PyData.eqv d e = vs.isEmpty := by
  obtain ⟨ds, h1, h2, h3, h4⟩ := Opn.dps (K := K) h.2
  refine ⟨.list ds, .list [], .lst (sq_of h.1) h1, .lst (sq_of hb) .nil, ?_, rfl, by simpa [PyData.eqv] using h4⟩
  simp [SeqAt.shaped, PyData.canLay0, PyData.depth, h2]
  omega
theorem ev_eqNil {σ : L2.St} {ta tb : TE} (h : Opn H a vs) (ha : Ev ta σ H (.ref a)) (hb : EvL tb σ H []) : Ev (tOp (rEqD K) ta tb) σ H (.bl vs.isEmpty) := ev_opL ha hb fun p H1 hp e1 H2 e2 Q k => by
  obtain ⟨d, e, h1, h2, h3, h4, h5⟩ := ((h.ex e1).ex e2).nil (K := K) (e2 _ _ hp)
  exact ⟨d, e, h1, h2, h3, h4, by rw [h5]; exact k H2 (Ex.refl _)⟩
theorem ev_neNil {σ : L2.St} {ta tb : TE} (h : Opn H a vs) (ha : Ev ta σ H (.ref a)) (hb : EvL tb σ H []) : Ev (tOp (rNeD K) ta tb) σ H (.bl (!vs.isEmpty)) := ev_opL ha hb fun p H1 hp e1 H2 e2 Q k => by
  obtain ⟨d, e, h1, h2, h3, h4, h5⟩ := ((h.ex e1).ex e2).nil (K := K) (e2 _ _ hp)
  exact ⟨d, e, h1, h2, h3, h4, by rw [h5]; exact k H2 (Ex.refl _)⟩
end
section
variable {K : PySem.W.Frag} {σ : L2.St} {H : Hp} {tz tu : TS} {D : Ends} {t : TT} {b : Bool}
theorem q_whenK {M : Hp → Prop} (h : EvT t σ H b) (k : ∀ H', M H' → tz D σ H') (h1 : b = true → ∀ H1, Ex H H1 → (∀ H', M H' → tz D σ H') → tu { D with nx := tz D } σ H1) (h2 : b = false → ∀ H1, Ex H H1 → M H1) : tSeq (tIfS t tu tNext) tz D σ H :=
  q_when h (fun hb H1 e1 => h1 hb H1 e1 k) (fun hb H1 e1 => k H1 (h2 hb H1 e1))
theorem s_retCall {sp : Sp} {ta : TA} {vs : List V} (h : EvA ta σ H vs) (k : ∀ H1, Ex H H1 → sp vs H1 D.rt E0) : tRet (tCall sp [] E0 ta) D σ H := h H (Ex.refl _) _ fun H1 e1 => by
  rw [List.append_nil]
  exact k H1 e1
/-- return l[draw(len(l))] -/
theorem s_retPick {p c a : Addr} {vs : List V} {tp ta : TE} (g : PkAt p c H) (h : Opn H a vs) (hn : vs.length ≤ 10000) (h0 : vs.isEmpty = false) (hp : ∀ H1, Ev tp σ H1 (.ref p)) (ha : ∀ H1, Ev ta σ H1 (.ref a)) (k : ∀ v H', But p H H' → PkAt p c H' → EntP v H' → D.rt v H') :
    tRet (tOp (rIxL K) ta (tCall spDraw [] E0 (tCons tp (tCons (tCB (rLenS K) (tCons ta tNil)) tNil)))) D σ H := by
  have hl : 0 < vs.length := by
    cases vs with
    | nil => cases h0
    | cons _ _ => exact Nat.succ_pos _
  have st : ∀ H1, But p H H1 → Stay H H1 := fun H1 b => (rlP p c).st g b
  refine s_retB (R := But p) (G := PkAt p c) (dv_ixV (a := a) (xs := vs) (n := vs.length) (fun H1 b1 g1 => ⟨ha H1, (st H1 b1).lst _ _ h.1⟩) (dv_draw (p := p) (c := c) vs.length (fun H1 _ _ => hp H1) (fun H1 b1 g1 => ev_len (ha H1) (sq_of ((st H1 b1).lst _ _ h.1))) hl (by omega)) (Nat.le_refl _)) g fun v H1 b1 g1 hv => k v H1 b1 g1 ((h.ent v hv).st (st H1 b1))
end
section
variable {P : Program} {w : World} {K : PySem.W.Frag} {mg : Str → Option Value} {base : Heap} {aM aS aO aB aE : Addr} {f : Addr} {fd : FuncData}
/-! ### _law_calmly -/
theorem sc_law_calmly : FnScope ["_law_pack_here", "_law_scene_here", "_law_owner", "_law_run", "_law_openings", "_law_unknown", "_law_seat", "_law_last_here"] ["_law_pack_here", "_law_scene_here", "_law_owner", "_law_run"] (defScope (top 34)) := ⟨rfl, rfl, rfl, by decide +kernel, rfl, by decide +kernel, by decide +kernel⟩
theorem ok_law_calmly {f1 f2 f3 : Addr} {fd1 fd2 fd3 : FuncData} (F : FnP K "_law_calmly" (top 34) f fd) (T : Tx K w mg aM aS aO aB) (c_law_draw : Cal P w K mg base "_law_draw" 1 ["_law_pack_here", "_law_many"] spDraw f1 fd1)
    (c_law_last : Cal P w K mg base "_law_last" 3 ["_law_run", "_law_at", "_law_seat"] spLast f2 fd2) (c_law_next_own : Cal P w K mg base "_law_next_own" 4 ["_law_pack_here", "_law_owner", "_law_run", "_law_lowest"] spNext f3 fd3) : FnOk P w K mg base CX0 5 f fd ["_law_pack_here", "_law_scene_here", "_law_owner", "_law_run"] (spEnt fun _ => True) := by
  refine F.ok sc_law_calmly (fun vs H Q E h => ?_) (fun cdv A outer s H vs Q E hr h => ?_)
  · obtain ⟨p, c, sc, pl, d, u, o, ps, J, lo, cm, r, rfl, _⟩ := h
    rfl
  · obtain ⟨p, c, sc, pl, d, u, o, ps, J, lo, cm, r, rfl, G, _, q⟩ := h
    have hu := hu_of hr
    refine ⟨_, PSs.nox (pss_cons (ps_set (i := 4) sc_law_calmly.nd rfl (Or.inl rfl) (pe_lst pa_nil))
      (pss_cons (ps_set (i := 5) sc_law_calmly.nd rfl (Or.inl rfl) (pe_lst pa_nil))
      (pss_cons (ps_for PassesOwn.never rfl (pi_list (pe_dget hu (pv 1) pe_str (fun _ _ => rfl))) (pg_name (i := 6) sc_law_calmly.nd rfl (Or.inl rfl))
        (pss_cons (ps_set (i := 7) sc_law_calmly.nd rfl (Or.inl rfl) (pe_cal c_law_last (hr.mono (by decide)) (by rfl) (pa_cons (pv 3) (pa_cons (pe_callB call_len_seq (by rfl) T.len PySem.boot_len (pa_cons (pv 3) pa_nil)) (pa_cons (pv 6) pa_nil)))))
        (pss_cons (ps_if (PW.pt (pw_and (pt_cmpR op_ne (pv 6) (pv 2) (nomark _)) (pw_and1 (pt_cmpR op_isN1 (pv 7) pe_non (nomark _)))))
          (pss_one (ps_expr (pe_bm PySem.F.plainAttrs_list PySem.F.slot_list_append PySem.F.type_list_append mt_append (pv 5) (pa_cons (pe_tup (pa_cons (pv 6) (pa_cons pe_int (pa_cons pe_str (pa_cons (pv 2) pa_nil))))) pa_nil))))
          pss_nil)
        (pss_cons (ps_if (PW.pt (pw_and (pt_cmpR op_ne (pv 6) (pv 2) (nomark _)) (pw_and (pt_cmpR op_notN1 (pv 7) pe_non (nomark _)) (pw_and1 (pt_cmpR op_eq (pe_ix ix_tup (pv 7) pe_int (fun _ _ => rfl)) pe_str (nomark _))))))
          (pss_one (ps_expr (pe_bm PySem.F.plainAttrs_list PySem.F.slot_list_append PySem.F.type_list_append mt_append (pv 4) (pa_cons (pe_tup (pa_cons (pv 6) (pa_cons (pe_ix ix_tup (pv 7) pe_int (fun _ _ => rfl)) (pa_cons pe_str (pa_cons (pv 2) pa_nil))))) pa_nil))))
          pss_nil)
        (pss_one (ps_if (PW.pt (pw_and (pt_cmpR op_ne (pv 6) (pv 2) (nomark _)) (pw_and (pt_cmpR op_notN1 (pv 7) pe_non (nomark _)) (pw_and1 (pt_cmpR op_eq (pe_ix ix_tup (pv 7) pe_int (fun _ _ => rfl)) pe_str (nomark _))))))
          (pss_one (ps_expr (pe_bm PySem.F.plainAttrs_list PySem.F.slot_list_append PySem.F.type_list_append mt_append (pv 4) (pa_cons (pe_tup (pa_cons (pv 6) (pa_cons (pe_ix ix_tup (pv 7) pe_int (fun _ _ => rfl)) (pa_cons pe_str (pa_cons (pv 2) pa_nil))))) pa_nil))))
          pss_nil))))))
      (pss_cons (ps_if (pt_cmpR (op_neD hr.units) (pv 4) (pe_lst pa_nil) (nomark _))
        (pss_one (ps_ret (pe_ix ix_list (pv 4) (pe_cal c_law_draw (hr.mono (by decide)) (by rfl) (pa_cons (pv 0) (pa_cons (pe_callB call_len_seq (by rfl) T.len PySem.boot_len (pa_cons (pv 4) pa_nil)) pa_nil))) (fun _ _ => rfl))))
        pss_nil)
      (pss_cons (ps_if (pt_cmpR (op_neD hr.units) (pv 5) (pe_lst pa_nil) (nomark _))
        (pss_one (ps_ret (pe_ix ix_list (pv 5) (pe_cal c_law_draw (hr.mono (by decide)) (by rfl) (pa_cons (pv 0) (pa_cons (pe_callB call_len_seq (by rfl) T.len PySem.boot_len (pa_cons (pv 5) pa_nil)) pa_nil))) (fun _ _ => rfl))))
        pss_nil)
      (pss_one (ps_ret (pe_cal c_law_next_own (hr.mono (by decide)) (by rfl) (pa_cons (pv 0) (pa_cons (pv 2) (pa_cons (pv 3) (pa_cons (pe_dget hu (pv 1) pe_str (fun _ _ => rfl)) pa_nil)))))))))))), ?_⟩
    refine q_asgL (el_lst ea_nil (by decide)) fun a1 H1 n1 e1 h1 => ?_
    refine q_asgL (el_lst ea_nil (by decide)) fun a2 H2 n2 e2 h2 => ?_
    have e02 := e1.trans e2
    have n12 : a1 ≠ a2 := ne_of_none h1 n2
    have n2' : H a2 = none := fresh_back e1 n2
    refine q_forLn (xs := ps.map V.int) (ev_pk (Sum.inr "pool") (ev_var rfl) ev_c (e02 _ _ G.s.h) scn_p) (sq_of (e02 _ _ G.s.pl))
      (fun i σ' H' => (∃ x6 x7, σ' = [some (.ref p), some (.ref sc), some (.int o), some (.ref u), some (.ref a1), some (.ref a2), x6, x7]) ∧ Ex H H' ∧ ∃ v1 v2, Opn H' a1 v1 ∧ Opn H' a2 v2 ∧ v1.length ≤ 2 * i ∧ v2.length ≤ i)
      (fun H3 e3 => ⟨⟨_, _, rfl⟩, e02.trans e3, [], [], ⟨(e2.trans e3) _ _ h1, fun v hv => nomatch hv⟩, ⟨e3 _ _ h2, fun v hv => nomatch hv⟩, Nat.le_refl _, Nat.le_refl _⟩) (fun i σ' H' _ h => sq_of (h.2.1 _ _ G.s.pl)) ?_ ?_
    · rintro i x σ' H3 hx ⟨⟨x6, x7, rfl⟩, eH, v1, v2, o1, o2, l1, l2⟩
      have hi8 : i < 8 := by
        have := (List.getElem?_eq_some_iff.mp hx).1
        rw [List.length_map] at this
        have := G.s.l1
        omega
      obtain ⟨z, _, rfl⟩ := List.mem_map.mp (List.mem_of_getElem? hx)
      refine q_last (ev_var rfl) (ev_var rfl) (G.rn.ex eH) G.l fun v H4 e4 hb => ?_
      have eH4 := eH.trans e4
      have o1 := o1.ex e4
      have o2 := o2.ex e4
      rcases hb with ⟨_, rfl⟩ | ⟨cl, l, _, rfl, hc, hml⟩
      · refine q_whenK (M := fun H' => Ex H H' ∧ ∃ v1 v2, Opn H' a1 v1 ∧ Opn H' a2 v2 ∧ v1.length ≤ 2 * i ∧ v2.length ≤ i + 1) (b := !decide (z = o)) (et_is (et_and (b := true) (et_test (ev_neI (ev_var rfl) (ev_var rfl))) fun _ => et_is (et_test (ev_op (ev_var rfl) ev_c rv_isN)) rfl) (Bool.and_true _)) ?_ ?_ ?_
        · rintro H5 ⟨e5, v1, v2, o1, o2, l1, l2⟩
          refine q_when (b := false) (et_is (et_and (b := false) (et_test (ev_neI (ev_var rfl) (ev_var rfl))) fun _ => et_and (a := false) (b := false) (et_is (et_test (ev_op (ev_var rfl) ev_c rv_notN)) rfl) fun z => absurd z (by decide)) (Bool.and_false _)) (fun z => absurd z (by decide)) fun _ H6 e6 => ?_
          refine s_when (b := false) (et_is (et_and (b := false) (et_test (ev_neI (ev_var rfl) (ev_var rfl))) fun _ => et_and (a := false) (b := false) (et_is (et_test (ev_op (ev_var rfl) ev_c rv_notN)) rfl) fun z => absurd z (by decide)) (Bool.and_false _)) (fun z => absurd z (by decide)) fun _ H7 e7 => ?_
          exact ⟨⟨_, _, rfl⟩, (e5.trans e6).trans e7, v1, v2, (o1.ex e6).ex e7, (o2.ex e6).ex e7, by omega, by omega⟩
        · intro _ H5 e5 k
          refine s_appU (l := a2) (xs := v2) (o2.ex e5).1 (ev_var rfl) (eu_tup (ea_cons (ev_var rfl) (ea_cons ev_c (ea_cons ev_c (ea_cons (ev_var rfl) ea_nil)))) (by show 4 ≤ 100000; decide)) (by omega) fun tp H6 ntp e6 htp => k _ ?_
          have e56 := e5.trans e6
          exact ⟨(eH4.trans e56).mut n2', v1, v2 ++ [.ref tp], (o1.ex e56).far n12 (o2.ex e56).1, (o2.ex e56).app htp (by decide +kernel), l1, by rw [List.length_append]; show _ + 1 ≤ _; omega⟩
        · intro _ H5 e5
          exact ⟨eH4.trans e5, v1, v2, o1.ex e5, o2.ex e5, l1, by omega⟩
      · refine q_when (b := false) (et_is (et_and (b := false) (et_test (ev_neI (ev_var rfl) (ev_var rfl))) fun _ => et_is (et_test (ev_op (ev_var rfl) ev_c rv_isN)) rfl) (Bool.and_false _)) (fun z => absurd z (by decide)) fun _ H5 e5 => ?_
        have e05 := eH4.trans e5
        have hc5 := e5 _ _ hc
        refine q_whenK (M := fun H' => Ex H H' ∧ H' cl = some (.tup l.items) ∧ ∃ v1 v2, Opn H' a1 v1 ∧ Opn H' a2 v2 ∧ v1.length ≤ 2 * i + 1 ∧ v2.length ≤ i) (et_and (et_test (ev_neI (ev_var rfl) (ev_var rfl))) fun _ => et_and (a := true) (et_is (et_test (ev_op (ev_var rfl) ev_c rv_notN)) rfl) fun _ => et_test (ev_eqS (ev_it 2 (ev_var rfl) (st_of hc5) rfl) ev_c)) ?_ ?_ ?_
        · rintro H6 ⟨e6, hc6, v1, v2, o1, o2, l1, l2⟩
          refine s_when (et_and (et_test (ev_neI (ev_var rfl) (ev_var rfl))) fun _ => et_and (a := true) (et_is (et_test (ev_op (ev_var rfl) ev_c rv_notN)) rfl) fun _ => et_test (ev_eqS (ev_it 2 (ev_var rfl) (st_of hc6) rfl) ev_c)) (fun _ H7 e7 => ?_) (fun _ H7 e7 => ?_)
          · refine s_appU (l := a1) (xs := v1) (o1.ex e7).1 (ev_var rfl) (eu_tup (ea_cons (ev_var rfl) (ea_cons (ev_it 1 (ev_var rfl) (st_of (e7 _ _ hc6)) rfl) (ea_cons ev_c (ea_cons (ev_var rfl) ea_nil)))) (by show 4 ≤ 100000; decide)) (by omega) fun tp H8 ntp e8 htp => ?_
            have e78 := e7.trans e8
            exact ⟨⟨_, _, rfl⟩, (e6.trans e78).mut n1, v1 ++ [.ref tp], v2, (o1.ex e78).app htp (by decide +kernel), (o2.ex e78).far n12.symm (o1.ex e78).1, by rw [List.length_append]; show _ + 1 ≤ _; omega, by omega⟩
          · exact ⟨⟨_, _, rfl⟩, e6.trans e7, v1, v2, o1.ex e7, o2.ex e7, by omega, by omega⟩
        · intro _ H6 e6 k
          refine s_appU (l := a1) (xs := v1) ((o1.ex e5).ex e6).1 (ev_var rfl) (eu_tup (ea_cons (ev_var rfl) (ea_cons (ev_it 1 (ev_var rfl) (st_of (e6 _ _ hc5)) rfl) (ea_cons ev_c (ea_cons (ev_var rfl) ea_nil)))) (by show 4 ≤ 100000; decide)) (by omega) fun tp H7 ntp e7 htp => k _ ?_
          have e57 := (e5.trans e6).trans e7
          exact ⟨(eH4.trans e57).mut n1, by rw [upd_ne (ne_of ((e6.trans e7) _ _ hc5) (o1.ex e57).1 fun q => nomatch q)]; exact (e6.trans e7) _ _ hc5, v1 ++ [.ref tp], v2, (o1.ex e57).app htp (by decide +kernel), (o2.ex e57).far n12.symm (o1.ex e57).1, by rw [List.length_append]; show _ + 1 ≤ _; omega, by omega⟩
        · intro _ H6 e6
          exact ⟨e05.trans e6, e6 _ _ hc5, v1, v2, (o1.ex e5).ex e6, (o2.ex e5).ex e6, by omega, by omega⟩
    · rintro σ' H3 ⟨⟨x6, x7, rfl⟩, eH, v1, v2, o1, o2, l1, l2⟩
      have hl1 := G.s.l1
      rw [List.length_map] at l1 l2
      refine q_when (et_test (ev_neNil o1 (ev_var rfl) (el_lst ea_nil (by decide)))) (fun hb H4 e4 => ?_) (fun _ H4 e4 => ?_)
      · have e04 := eH.trans e4
        exact s_retPick (G.ex e04).pk (o1.ex e4) (by omega) (by rw [← Bool.not_eq_true']; exact hb) (fun _ => ev_var rfl) (fun _ => ev_var rfl) fun v H' b g he => q v H' ((But.of_ex e04).trans b) g he
      refine q_when (et_test (ev_neNil (o2.ex e4) (ev_var rfl) (el_lst ea_nil (by decide)))) (fun hb H5 e5 => ?_) (fun _ H5 e5 => ?_)
      · have e05 := (eH.trans e4).trans e5
        exact s_retPick (G.ex e05).pk ((o2.ex e4).ex e5) (by omega) (by rw [← Bool.not_eq_true']; exact hb) (fun _ => ev_var rfl) (fun _ => ev_var rfl) fun v H' b g he => q v H' ((But.of_ex e05).trans b) g he
      have e05 := (eH.trans e4).trans e5
      have G5 := G.ex e05
      refine s_retCall (ea_cons (ev_var rfl) (ea_cons (ev_var rfl) (ea_cons (ev_var rfl) (ea_cons (ev_pk (Sum.inr "lowest") (ev_var rfl) ev_c G5.s.h scn_l) ea_nil)))) fun H6 e6 => ?_
      have G6 := G5.ex e6
      exact ⟨p, c, u, o, lo, r, rfl, G6.pk, G6.rn, G6.l, fun v H' b g he => q v H' ((But.of_ex (e05.trans e6)).trans b) g he⟩
end
end Lr
set_option Elab.async false
set_option linter.all false
set_option maxRecDepth 100000
set_option maxHeartbeats 4000000
namespace Lr
open PySem L2 Evl
/-- the last entry of a run -/
theorem last_at {r : Run} (h : 0 < r.length) : ∃ x, r[r.length - 1]? = some (x, lastO r) ∧ (r.map (·.1))[r.length - 1]? = some x := by
  have h1 : r.length - 1 < r.length := by omega
  have e : r[r.length - 1]? = some (r[r.length - 1]'h1) := List.getElem?_eq_getElem h1
  refine ⟨(r[r.length - 1]'h1).1, ?_, ?_⟩
  · unfold lastO
    rw [e]
  · rw [List.getElem?_map, e]
    rfl
/-- run[len(run) - 1] -/
theorem ev_lastX {K : PySem.W.Frag} {σ : L2.St} {H : Hp} {te : TE} {u : Addr} {r : Run} {x : V} (h : Ev te σ H (.ref u)) (hr : RunAt H (.ref u) r) (h0 : 0 < r.length) (hx : (r.map (·.1))[r.length - 1]? = some x) :
    Ev (tOp (rIxL K) te (tOp (rI0 fun i j => .int (i - j)) (tCB (rLenS K) (tCons te tNil)) (tC (.int 1)))) σ H x := by
  obtain ⟨a, e, ha, _⟩ := id hr
  cases e
  exact ev_op h (ev_is (w := .int ((r.length - 1 : Nat) : Int)) (ev_op (ev_lenRun h hr) ev_c rv_I0) (by congr 1; omega)) (rv_ixL' (sq_of ha) hx)
theorem mem2 {x a b : V} {Q : V → Prop} (h : x ∈ [a, b]) (ha : Q a) (hb : Q b) : Q x := by
  rcases List.mem_cons.mp h with rfl | h
  · exact ha
  · rw [List.mem_singleton.mp h]; exact hb
section
variable {P : Program} {w : World} {K : PySem.W.Frag} {mg : Str → Option Value} {base : Heap} {aM aS aO aB aE : Addr} {f : Addr} {fd : FuncData}
/-! ### _law_behind -/
theorem sc_law_behind : FnScope ["_law_pack_here", "_law_scene_here", "_law_owner", "_law_run", "_law_last_here", "_law_leap"] ["_law_pack_here", "_law_scene_here", "_law_owner", "_law_run"] (defScope (top 35)) := ⟨rfl, rfl, rfl, by decide +kernel, rfl, by decide +kernel, by decide +kernel⟩
theorem ok_law_behind {f1 f2 : Addr} {fd1 fd2 : FuncData} (F : FnP K "_law_behind" (top 35) f fd) (T : Tx K w mg aM aS aO aB) (c_law_draw : Cal P w K mg base "_law_draw" 1 ["_law_pack_here", "_law_many"] spDraw f1 fd1)
    (c_law_calmly : Cal P w K mg base "_law_calmly" 5 ["_law_pack_here", "_law_scene_here", "_law_owner", "_law_run"] (spEnt fun _ => True) f2 fd2) : FnOk P w K mg base CX0 6 f fd ["_law_pack_here", "_law_scene_here", "_law_owner", "_law_run"] (spEnt fun r => 0 < r.length ∧ (lastO r).isSome = true) := by
  refine F.ok sc_law_behind (fun vs H Q E h => ?_) (fun cdv A outer s H vs Q E hr h => ?_)
  · obtain ⟨p, c, sc, pl, d, u, o, ps, J, lo, cm, r, rfl, _⟩ := h
    rfl
  · obtain ⟨p, c, sc, pl, d, u, o, ps, J, lo, cm, r, rfl, G, ⟨hr0, hls⟩, q⟩ := h
    have hu := hu_of hr
    refine ⟨_, PSs.nox (pss_cons (ps_if (pt_val (pe_dget hu (pv 1) pe_str (fun _ _ => rfl)))
        (pss_one (ps_ret (pe_cal c_law_calmly (hr.mono (by decide)) (by rfl) (pa_cons (pv 0) (pa_cons (pv 1) (pa_cons (pv 2) (pa_cons (pv 3) pa_nil)))))))
        pss_nil)
      (pss_cons (ps_set (i := 4) sc_law_behind.nd rfl (Or.inl rfl) (pe_ix ix_list (pv 3) (pe_op op_sub (pe_callB call_len_seq (by rfl) T.len PySem.boot_len (pa_cons (pv 3) pa_nil)) pe_int) (fun _ _ => rfl)))
      (pss_cons (ps_set (i := 5) sc_law_behind.nd rfl (Or.inl rfl) (pe_op op_fdiv (pe_callTy call_int1 (by rfl) T.int (by decide +kernel) (pa_cons (pe_cal c_law_draw (hr.mono (by decide)) (by rfl) (pa_cons (pv 0) (pa_cons pe_int pa_nil))) pa_nil)) pe_int))
      (pss_cons (ps_if (pt_cmpR op_eq (pe_ix ix_tup (pv 4) pe_int (fun _ _ => rfl)) pe_str (nomark _))
        (pss_one (ps_ret (pe_tup (pa_cons (pe_ix ix_tup (pv 4) pe_int (fun _ _ => rfl)) (pa_cons (pe_ix ix_tup (pv 4) pe_int (fun _ _ => rfl)) (pa_cons (pe_ix ix_list (pe_lst (pa_cons pe_str (pa_cons pe_str pa_nil))) (pv 5) (fun _ _ => rfl)) (pa_cons (pv 2) pa_nil)))))))
        pss_nil)
      (pss_cons (ps_if (pt_cmpR op_eq (pe_ix ix_tup (pv 4) pe_int (fun _ _ => rfl)) pe_str (nomark _))
        (pss_one (ps_ret (pe_tup (pa_cons (pe_ix ix_tup (pv 4) pe_int (fun _ _ => rfl)) (pa_cons (pe_op op_add (pe_ix ix_tup (pv 4) pe_int (fun _ _ => rfl)) (pv 5)) (pa_cons pe_str (pa_cons (pv 2) pa_nil)))))))
        pss_nil)
      (pss_one (ps_ret (pe_tup (pa_cons (pe_ix ix_tup (pv 4) pe_int (fun _ _ => rfl)) (pa_cons (pe_op op_add (pe_ix ix_tup (pv 4) pe_int (fun _ _ => rfl)) pe_int) (pa_cons (pe_ix ix_list (pe_lst (pa_cons pe_str (pa_cons pe_str pa_nil))) (pv 5) (fun _ _ => rfl)) (pa_cons (pv 2) pa_nil)))))))))))), ?_⟩
    refine q_when (et_B (ev_pk (Sum.inr "calm") (ev_var rfl) ev_c G.s.h scn_c)) (fun _ H1 e1 => ?_) (fun _ H1 e1 => ?_)
    · refine s_retCall (ea_cons (ev_var rfl) (ea_cons (ev_var rfl) (ea_cons (ev_var rfl) (ea_cons (ev_var rfl) ea_nil)))) fun H2 e2 => ?_
      exact ⟨p, c, sc, pl, d, u, o, ps, J, lo, cm, r, rfl, (G.ex e1).ex e2, trivial, fun v H' b g he => q v H' ((But.of_ex (e1.trans e2)).trans b) g he⟩
    · have G1 := G.ex e1
      obtain ⟨x, hx1, hx⟩ := last_at hr0
      obtain ⟨_, eu, _, hent⟩ := id G1.rn
      cases eu
      have hey := hent _ (List.mem_of_getElem? hx1)
      obtain ⟨e, he⟩ := Option.isSome_iff_exists.mp hls
      rw [he] at hey
      rcases hey with ⟨a3, xs3, ea, ha3, _, hfo⟩ | ⟨z, _⟩
      · have ea : x = .ref a3 := ea
        subst ea
        obtain ⟨rfl, _, _, hmf, _⟩ := formedL_items hfo.symm
        refine q_asg (ev_lastX (ev_var rfl) G1.rn hr0 hx) fun H2 e2 => ?_
        have G2 := G1.ex e2
        have ha2 := e2 _ _ ha3
        refine q_asgB (dv_fdiv (n := 4) (m := 2) (dv_int1 (dv_draw (p := p) (c := c) 4 (fun _ _ _ => ev_var rfl) (fun _ _ _ => ev_c) (by decide) (by decide))) (by decide) (by decide)) G2.pk ?_
        rintro v H3 b3 p3 ⟨k, rfl, hk⟩
        have hE : Stay H2 H3 := (rlP p c).st G2.pk b3
        have ha := hE.tup _ _ ha2
        have b03 : But p H H3 := (But.of_ex (e1.trans e2)).trans b3
        have fin : ∀ {H1 : Hp}, Ex H3 H1 → ∀ v H2, Ex H1 H2 → TG0 H2 → EntP v H2 → Q v H2 := fun {H1} e1 v H2 r _ pe => q v H2 (b03.trans (But.of_ex (e1.trans r))) (PkAt.ex p3 (e1.trans r)) pe
        have it0 : ∀ {H1 : Hp}, Ex H3 H1 → Dv Ex TG0 (tOp (rIxT K) (tVar 4) (tC (.int 0))) [some (.ref p), some (.ref sc), some (.int o), some (.ref u), some (.ref a3), some (.int k)] H1 It := fun {H1} e => it_ev (v := .int _) (fun H4 e4 _ => ev_it 0 (ev_var rfl) (st_of ((e.trans e4) _ _ ha)) rfl) fun _ => trivial
        have it1 : ∀ {H1 : Hp}, Ex H3 H1 → Dv Ex TG0 (tOp (rIxT K) (tVar 4) (tC (.int 1))) [some (.ref p), some (.ref sc), some (.int o), some (.ref u), some (.ref a3), some (.int k)] H1 It := fun {H1} e => it_ev (v := .int _) (fun H4 e4 _ => ev_it 1 (ev_var rfl) (st_of ((e.trans e4) _ _ ha)) rfl) fun _ => trivial
        have own : ∀ {H1 : Hp}, Dv Ex TG0 (tVar 2) [some (.ref p), some (.ref sc), some (.int o), some (.ref u), some (.ref a3), some (.int k)] H1 It := fun {H1} => it_ev (fun _ _ _ => ev_var rfl) fun _ => trivial
        have pick : ∀ {H1 : Hp} {x y : Str}, Dv Ex TG0 (tOp (rIxL K) (tLst (tCons (tC (.str x)) (tCons (tC (.str y)) tNil))) (tVar 5)) [some (.ref p), some (.ref sc), some (.int o), some (.ref u), some (.ref a3), some (.int k)] H1 It := fun {H1 x y} =>
          dv_imp (dv_ixM (n := 2) (fun _ _ _ => el_lst (ea_cons ev_c (ea_cons ev_c ea_nil)) (by show 2 ≤ 100000; decide)) (dv_evN (fun _ _ _ => ev_var rfl) (by omega)) (Nat.le_refl _)) fun v H' _ hm => mem2 (Q := fun v => ItemOk H' v) hm trivial trivial
        refine q_when (et_test (ev_eqS (ev_it 2 (ev_var rfl) (st_of ha) rfl) ev_c)) (fun _ H4 e4 => ?_) (fun _ H4 e4 => ?_)
        · exact s_retB (R := Ex) (G := TG0) (dv_ent (da_cons (it0 e4) (da_cons (it1 e4) (da_cons pick (da_cons own da_nil)))) (by decide)) trivial (fin e4)
        refine q_when (et_test (ev_eqS (ev_it 2 (ev_var rfl) (st_of (e4 _ _ ha)) rfl) ev_c)) (fun _ H5 e5 => ?_) (fun _ H5 e5 => ?_)
        · exact s_retB (R := Ex) (G := TG0) (dv_ent (da_cons (it0 (e4.trans e5)) (da_cons (it_ev (v := .int _) (fun H6 e6 _ => ev_op (ev_it 1 (ev_var rfl) (st_of (((e4.trans e5).trans e6) _ _ ha)) rfl) (ev_var rfl) rv_I0) fun _ => trivial) (da_cons (it_ev (fun _ _ _ => ev_c) fun _ => trivial) (da_cons own da_nil)))) (by decide)) trivial (fin (e4.trans e5))
        · exact s_retB (R := Ex) (G := TG0) (dv_ent (da_cons (it0 (e4.trans e5)) (da_cons (it_ev (v := .int _) (fun H6 e6 _ => ev_op (ev_it 1 (ev_var rfl) (st_of (((e4.trans e5).trans e6) _ _ ha)) rfl) ev_c rv_I0) fun _ => trivial) (da_cons pick (da_cons own da_nil)))) (by decide)) trivial (fin (e4.trans e5))
      · cases z
end
/-! ### other[:3] + (None,) -/
def EvR (te : TE) (σ : L2.St) (H : Hp) (xs : List V) : Prop := ∀ H1, Ex H H1 → ∀ Q : VK, (∀ p H2, Ex H1 H2 → H2 p = some (.tup xs) → Q (.ref p) H2) → te σ H1 Q
theorem cut3 (xs : List V) : cutV xs none (some 3) = xs.take 3 := by
  have h1 : HT.sIx xs.length xs.length (some 3) = min 3 xs.length := HT.sIx_nat _ _ 3
  unfold cutV
  rw [h1]
  show (xs.drop 0).take (min 3 xs.length - 0) = _
  rw [List.drop_zero, Nat.sub_zero, List.take_eq_take_iff]
  omega
theorem er_sl3 {K : PySem.W.Frag} {σ : L2.St} {H : Hp} {te : TE} {a : Addr} {xs : List V} (h : Ev te σ H (.ref a)) (ha : H a = some (.tup xs)) : EvR (tSl (rSlA K) te tNoPart (tPart (tC (.int 3)))) σ H (xs.take 3) := by
  intro H1 e1 Q k
  refine h H1 e1 _ fun H2 e2 => ?_
  refine ⟨3, rfl, a, xs, rfl, st_of (e2 _ _ (e1 _ _ ha)), fun z => ?_, fun _ p hp => ?_⟩
  · have h1 : HT.sIx xs.length xs.length (some 3) = min 3 xs.length := HT.sIx_nat _ _ 3
    have h2 := z.2
    rw [h1] at h2
    refine k a H2 e2 ?_
    rw [List.take_of_length_le (by omega)]
    exact e2 _ _ (e1 _ _ ha)
  · refine k p _ (e2.trans (Ex.new hp)) ?_
    rw [← cut3]
    exact upd_same
theorem er_cat {K : PySem.W.Frag} {σ : L2.St} {H : Hp} {ta tb : TE} {xs ys : List V} (ha : EvR ta σ H xs) (hb : EvU tb σ H ys) (hy : ys ≠ []) (hl : xs.length + ys.length ≤ 100000) : EvR (tOp (rCatA K) ta tb) σ H (xs ++ ys) := by
  intro H1 e1 Q k
  refine ha H1 e1 _ fun a H2 e2 h2 => hb H2 (e1.trans e2) _ fun b H3 nb e3 h3 => ?_
  refine ⟨a, b, xs, ys, rfl, rfl, st_of (e3 _ _ h2), st_of h3, sz_of hl, fun z => ?_, fun _ z => absurd z hy, fun _ _ p hp => ?_⟩
  · subst z
    exact k b H3 (e2.trans e3) h3
  · exact k p _ ((e2.trans e3).trans (Ex.new hp)) upd_same
theorem formed3 {xs : List V} {e : En} (h : formedL (xs.take 3 ++ [.non]) = some e) : xs[0]? = some (.int e.seat) ∧ xs[1]? = some (.int e.life) ∧ xs[2]? = some (.str e.mark) ∧ isMark e.mark = true := by
  obtain ⟨h1, _, _, hm, _⟩ := formedL_items h
  have hl : (xs.take 3 ++ [V.non]).length = 4 := by rw [h1]; rfl
  have hl : (xs.take 3).length = 3 := by rw [List.length_append] at hl; have : [V.non].length = 1 := rfl; omega
  have g : ∀ i, i < 3 → xs[i]? = (En.items e)[i]? := fun i hi => by
    rw [← h1, List.getElem?_append_left (by omega), List.getElem?_take, if_pos hi]
  exact ⟨g 0 (by decide), g 1 (by decide), g 2 (by decide), hm⟩
section
variable {P : Program} {w : World} {K : PySem.W.Frag} {mg : Str → Option Value} {base : Heap} {aM aS aO aB aE : Addr} {f : Addr} {fd : FuncData}
theorem v_formR {σ : L2.St} {H : Hp} {te : TE} {xs : List V} (h : EvR te σ H xs) (hx : ∀ x ∈ xs, ItemOk H x) : Ev (tCall spFormed [] E0 (tCons te tNil)) σ H (.bl (formedL xs).isSome) := by
  intro H1 e1 Q k
  refine h H1 e1 _ fun p H2 e2 h2 => ?_
  exact ⟨.ref p, formedL xs, rfl, ent_tup h2 fun x hx' => (hx x hx').st (stay_ex (e1.trans e2)), fun H3 e3 => k H3 (e2.trans e3)⟩
/-! ### _law_heard -/
theorem sc_law_heard : FnScope ["_law_pack_here", "_law_scene_here", "_law_owner", "_law_run", "_law_journals", "_law_entries", "_law_seat", "_law_other", "_law_lines", "_law_last_here"] ["_law_pack_here", "_law_scene_here", "_law_owner", "_law_run"] (defScope (top 33)) := ⟨rfl, rfl, rfl, by decide +kernel, rfl, by decide +kernel, by decide +kernel⟩
theorem ok_law_heard {f1 f2 f3 f4 f5 : Addr} {fd1 fd2 fd3 fd4 fd5 : FuncData} (F : FnP K "_law_heard" (top 33) f fd) (T : Tx K w mg aM aS aO aB) (c_law_draw : Cal P w K mg base "_law_draw" 1 ["_law_pack_here", "_law_many"] spDraw f1 fd1)
    (c_law_last : Cal P w K mg base "_law_last" 3 ["_law_run", "_law_at", "_law_seat"] spLast f2 fd2) (c_law_next_own : Cal P w K mg base "_law_next_own" 4 ["_law_pack_here", "_law_owner", "_law_run", "_law_lowest"] spNext f3 fd3) (c_law_formed : Cal P w K mg base "_law_formed" 2 ["_law_entry_here"] spFormed f4 fd4)
    (c_law_rank : Cal P w K mg base "_law_rank" 1 ["_law_entry_here"] spRank f5 fd5) : FnOk P w K mg base CX0 5 f fd ["_law_pack_here", "_law_scene_here", "_law_owner", "_law_run"] (spEnt fun _ => True) := by
  refine F.ok sc_law_heard (fun vs H Q E h => ?_) (fun cdv A outer s H vs Q E hr h => ?_)
  · obtain ⟨p, c, sc, pl, d, u, o, ps, J, lo, cm, r, rfl, _⟩ := h
    rfl
  · obtain ⟨p, c, sc, pl, d, u, o, ps, J, lo, cm, r, rfl, G, _, q⟩ := h
    have hu := hu_of hr
    refine ⟨_, PSs.nox (pss_cons (ps_set (i := 4) sc_law_heard.nd rfl (Or.inl rfl) (pe_dget hu (pv 1) pe_str (fun _ _ => rfl)))
      (pss_cons (ps_set (i := 5) sc_law_heard.nd rfl (Or.inl rfl) (pe_lst pa_nil))
      (pss_cons (ps_for PassesOwn.never rfl (pi_list (pe_lc (own := [("_law_other", 7)]) (g := gName 7) rfl sc_law_heard.nd (pi_list (pe_callB (call_sortedDI rfl) (by rfl) T.sorted (by decide +kernel) (pa_cons (pv 4) pa_nil))) (blkOk_by (own := [("_law_other", 7)]) (N := ["_law_pack_here", "_law_scene_here", "_law_owner", "_law_run", "_law_journals", "_law_entries", "_law_seat", "_law_other", "_law_lines", "_law_last_here"]) (sc := defScope (top 33)) (by decide +kernel)) (fun _ _ _ _ _ => pg_name (i := 7) sc_law_heard.nd rfl (Or.inl rfl)) (fun _ _ _ _ _ => pts_one (pt_cmpR op_ne (pv 7) (pv 2) (nomark _))) (fun _ _ _ _ _ => (pv 7)))) (pg_name (i := 6) sc_law_heard.nd rfl (Or.inl rfl))
        (pss_one (ps_for PassesOwn.never rfl (pi_list (pe_dget hu (pv 4) (pv 6) (fun _ _ => rfl))) (pg_name (i := 8) sc_law_heard.nd rfl (Or.inl rfl))
          (pss_one (ps_for PassesOwn.never rfl (pi_list (pv 8)) (pg_name (i := 7) sc_law_heard.nd rfl (Or.inl rfl))
            (pss_one (ps_if (PW.pt (pw_and (pt_val (pe_isi (n := "tuple") (by rfl) T.isinstance (by rfl) T.tuple (by decide +kernel) (pv 7))) (pw_and1 (pt_val (pe_cal c_law_formed (hr.mono (by decide)) (by rfl) (pa_cons (pe_op op_catA (pe_slice sl_tupA (pv 7) po_none (po_some pe_int)) (pe_tup (pa_cons pe_non pa_nil))) pa_nil))))))
              (pss_cons (ps_set (i := 9) sc_law_heard.nd rfl (Or.inl rfl) (pe_cal c_law_last (hr.mono (by decide)) (by rfl) (pa_cons (pv 3) (pa_cons (pe_callB call_len_seq (by rfl) T.len PySem.boot_len (pa_cons (pv 3) pa_nil)) (pa_cons (pe_ix ix_tup (pv 7) pe_int (fun _ _ => rfl)) pa_nil)))))
              (pss_one (ps_if (PW.pt (pw_or (pt_not (pt_val (pe_dget hu (pv 1) pe_str (fun _ _ => rfl)))) (pw_or (pt_cmpR op_isN1 (pv 9) pe_non (nomark _)) (pw_or1 (pt_cmpR op_gt (pe_cal c_law_rank (hr.mono (by decide)) (by rfl) (pa_cons (pv 7) pa_nil)) (pe_cal c_law_rank (hr.mono (by decide)) (by rfl) (pa_cons (pv 9) pa_nil)) (nomark _))))))
                (pss_one (ps_expr (pe_bm PySem.F.plainAttrs_list PySem.F.slot_list_append PySem.F.type_list_append mt_append (pv 5) (pa_cons (pe_tup (pa_cons (pe_ix ix_tup (pv 7) pe_int (fun _ _ => rfl)) (pa_cons (pe_ix ix_tup (pv 7) pe_int (fun _ _ => rfl)) (pa_cons (pe_ix ix_tup (pv 7) pe_int (fun _ _ => rfl)) (pa_cons (pv 6) pa_nil))))) pa_nil))))
                pss_nil)))
              pss_nil)))))))
      (pss_cons (ps_if (pt_cmpR (op_eqD hr.units) (pv 5) (pe_lst pa_nil) (nomark _))
        (pss_one (ps_ret (pe_cal c_law_next_own (hr.mono (by decide)) (by rfl) (pa_cons (pv 0) (pa_cons (pv 2) (pa_cons (pv 3) (pa_cons (pe_dget hu (pv 1) pe_str (fun _ _ => rfl)) pa_nil)))))))
        pss_nil)
      (pss_one (ps_ret (pe_ix ix_list (pv 5) (pe_cal c_law_draw (hr.mono (by decide)) (by rfl) (pa_cons (pv 0) (pa_cons (pe_callB call_len_seq (by rfl) T.len PySem.boot_len (pa_cons (pv 5) pa_nil)) pa_nil))) (fun _ _ => rfl)))))))), ?_⟩
    have hB := G.s.B
    have h8 := hB.n
    refine q_asg (ev_pk (Sum.inr "journals") (ev_var rfl) ev_c G.s.h scn_j) fun H1 e1 => ?_
    refine q_asgL (el_lst ea_nil (by decide)) fun es H2 n2 e2 h2 => ?_
    have e02 := e1.trans e2
    have nes : H es = none := fresh_back e1 n2
    obtain ⟨kvs, hd, hk⟩ := id G.s.jn
    have hkl : (srt (keysJ J)).length ≤ 8 := by rw [srt_len, List.length_map]; exact h8
    have hkl2 : ((srt (keysJ J)).map V.int).length ≤ 8 := by rw [List.length_map]; exact hkl
    refine q_forNLn (xs := given ((srt (keysJ J)).map V.int).length (fun i => !decide ((srt (keysJ J)).getD i 0 = o)) (fun i => .int ((srt (keysJ J)).getD i 0))) (el_lcNL (fun i => !decide ((srt (keysJ J)).getD i 0 = o)) (fun i => .int ((srt (keysJ J)).getD i 0)) (el_sortedD (ev_var rfl) (G.s.jn.ex e02) (by omega)) (by rw [List.length_map]; omega) (fun x => rfl) (fun i x H3 e3 hx => ?_) (fun i x H3 e3 hx _ => ?_))
      (fun l i σ' H' => (∃ x6 x7 x8 x9, σ' = [some (.ref p), some (.ref sc), some (.int o), some (.ref u), some (.ref d), some (.ref es), x6, x7, x8, x9]) ∧ Ex H H' ∧ (H' l = some (.lst (given ((srt (keysJ J)).map V.int).length (fun i => !decide ((srt (keysJ J)).getD i 0 = o)) (fun i => .int ((srt (keysJ J)).getD i 0)))) ∧ l ≠ es) ∧ ∃ vs, Opn H' es vs ∧ vs.length ≤ i * 800)
      (fun l H3 n3 e3 h3 => ⟨⟨_, _, _, _, rfl⟩, e02.trans e3, ⟨h3, (ne_of_none h2 n3).symm⟩, [], ⟨e3 _ _ h2, fun v hv => nomatch hv⟩, Nat.zero_le _⟩) (fun l i σ' H' _ h => sq_of h.2.2.1.1) ?_ ?_
    · have hx0 := hx
      rw [List.getElem?_map] at hx
      obtain ⟨z, hz, rfl⟩ := Option.map_eq_some_iff.mp hx
      refine et_is (et_test (ev_neI (i := z) (j := o) (ev_var rfl) (ev_var rfl))) ?_
      rw [List.getD_eq_getElem?_getD, hz]
      rfl
    · rw [List.getElem?_map] at hx
      obtain ⟨z, hz, rfl⟩ := Option.map_eq_some_iff.mp hx
      refine ev_is (v := .int z) (ev_var rfl) ?_
      rw [List.getD_eq_getElem?_getD, hz]
      rfl
    · rintro l i x σ' H3 hx ⟨⟨x6, x7, x8, x9, rfl⟩, eH, hl, vs, ho, hlen⟩
      have hi8 : i < 8 := by
        have h1 := (List.getElem?_eq_some_iff.mp hx).1
        have h2 := given_len ((srt (keysJ J)).map V.int).length (fun i => !decide ((srt (keysJ J)).getD i 0 = o)) (fun i => .int ((srt (keysJ J)).getD i 0))
        omega
      obtain ⟨j, hj, rfl⟩ := List.mem_map.mp (List.mem_of_getElem? hx)
      have hj := List.mem_range.mp (List.mem_filter.mp hj).1
      rw [List.length_map] at hj
      have hmem : (srt (keysJ J)).getD j 0 ∈ keysJ J := by
        rw [List.getD_eq_getElem?_getD, List.getElem?_eq_getElem hj]
        exact (srt_perm _).mem_iff.mp (List.getElem_mem hj)
      revert hmem
      generalize (srt (keysJ J)).getD j 0 = z
      intro hmem
      rcases kvs_val hk z with ⟨_, hno, _⟩ | ⟨rv, hval, hruns, _⟩
      · obtain ⟨j, hj, e⟩ := List.mem_map.mp hmem
        exact absurd e (hno j hj)
      obtain ⟨ra, rvs, rfl, hra, hrp⟩ := hruns
      have hlb := look_bnd hB z
      have hrl : rvs.length = (lookJ J z).length := hrp.length
      refine s_forLn (xs := rvs) (ev_dget (ev_var rfl) (ev_var rfl) fun H4 e4 => (by rw [← hval]; exact DGet.k (k := Sum.inl z) (e4 _ _ (eH _ _ hd)))) (sq_of (eH _ _ hra))
        (fun t σ' H' => (∃ x7 x8 x9, σ' = [some (.ref p), some (.ref sc), some (.int o), some (.ref u), some (.ref d), some (.ref es), some (.int z), x7, x8, x9]) ∧ Ex H H' ∧ (H' l = some (.lst (given ((srt (keysJ J)).map V.int).length (fun i => !decide ((srt (keysJ J)).getD i 0 = o)) (fun i => .int ((srt (keysJ J)).getD i 0)))) ∧ l ≠ es) ∧ ∃ vs, Opn H' es vs ∧ vs.length ≤ i * 800 + t * 100)
        (fun H4 e4 => ⟨⟨_, _, _, rfl⟩, eH.trans e4, ⟨e4 _ _ hl.1, hl.2⟩, vs, ho.ex e4, by omega⟩) (fun t σ' H' _ h => sq_of (h.2.1 _ _ hra)) ?_ ?_
      · rintro t rx σ' H4 hrx ⟨⟨x7, x8, x9, rfl⟩, e04, hl, vs, ho, hlen⟩
        obtain ⟨r2, hr2, hrun2⟩ := paired_at hrp hrx
        have ht8 : t < 8 := by
          have := (List.getElem?_eq_some_iff.mp hr2).1
          have := hlb.1
          omega
        have hr100 := hlb.2 r2 (List.mem_of_getElem? hr2)
        obtain ⟨a2, rfl, ha2, hent2⟩ := hrun2
        obtain ⟨ys, hys, hyl⟩ : ∃ ys : List V, ys = r2.map (·.1) ∧ ys.length = r2.length := ⟨_, rfl, List.length_map _⟩
        rw [← hys] at ha2
        refine s_forLn (xs := ys) (ev_var rfl) (sq_of (e04 _ _ ha2))
          (fun k σ' H' => (∃ x7 x9, σ' = [some (.ref p), some (.ref sc), some (.int o), some (.ref u), some (.ref d), some (.ref es), some (.int z), x7, some (.ref a2), x9]) ∧ Ex H H' ∧ (H' l = some (.lst (given ((srt (keysJ J)).map V.int).length (fun i => !decide ((srt (keysJ J)).getD i 0 = o)) (fun i => .int ((srt (keysJ J)).getD i 0)))) ∧ l ≠ es) ∧ ∃ vs, Opn H' es vs ∧ vs.length ≤ i * 800 + t * 100 + k)
          (fun H5 e5 => ⟨⟨_, _, rfl⟩, e04.trans e5, ⟨e5 _ _ hl.1, hl.2⟩, vs, ho.ex e5, by omega⟩) (fun k σ' H' _ h => sq_of (h.2.1 _ _ ha2)) ?_ ?_
        · rintro k y σ' H5 hy ⟨⟨x7, x9, rfl⟩, e05, hl, vs, ho, hlen⟩
          have hk100 : k < 100 := by
            have := (List.getElem?_eq_some_iff.mp hy).1
            omega
          rw [hys] at hy
          obtain ⟨oe, hro, heo⟩ := run_at hy
          have hey := (hent2 _ (List.mem_of_getElem? hro)).ex e05
          have hey : EntAt H5 y oe := hey
          have skip : ∀ {x9 : Option V} {H6 : Hp}, Ex H5 H6 → (∃ x7 x9', [some (V.ref p), some (.ref sc), some (.int o), some (.ref u), some (.ref d), some (.ref es), some (.int z), some y, some (.ref a2), x9] = [some (.ref p), some (.ref sc), some (.int o), some (.ref u), some (.ref d), some (.ref es), some (.int z), x7, some (.ref a2), x9']) ∧ Ex H H6 ∧ (H6 l = some (.lst (given ((srt (keysJ J)).map V.int).length (fun i => !decide ((srt (keysJ J)).getD i 0 = o)) (fun i => .int ((srt (keysJ J)).getD i 0)))) ∧ l ≠ es) ∧ ∃ vs, Opn H6 es vs ∧ vs.length ≤ i * 800 + t * 100 + (k + 1) :=
            fun {x9 H6} e6 => ⟨⟨_, _, rfl⟩, e05.trans e6, ⟨e6 _ _ hl.1, hl.2⟩, vs, ho.ex e6, by omega⟩
          rcases hey with ⟨a3, xs3, rfl, ha3, hit3, _⟩ | ⟨_, hnt⟩
          · refine s_when (et_and (a := true) (et_B (ev_isB (ev_var rfl) fun H6 e6 => isB_tup (e6 _ _ ha3) k_tup_tuple)) fun _ => et_B (v_formR (er_cat (er_sl3 (ev_var rfl) ha3) (eu_tup (ea_cons ev_c ea_nil) (by show 1 ≤ 100000; decide)) (by simp) (by have := List.length_take_le 3 xs3; show _ + 1 ≤ 100000; omega)) fun x hx => ?_)) (fun hb H6 e6 => ?_) (fun _ H6 e6 => skip e6)
            · rcases List.mem_append.mp hx with hx | hx
              · exact hit3 x (List.mem_of_mem_take hx)
              · rw [List.mem_singleton.mp hx]; trivial
            · rw [Bool.true_and] at hb
              obtain ⟨e, he⟩ := Option.isSome_iff_exists.mp hb
              obtain ⟨g0, g1, g2, hme⟩ := formed3 he
              have ha6 := e6 _ _ ha3
              refine q_last (ev_var rfl) (ev_it 0 (ev_var rfl) (st_of ha6) g0) (G.rn.ex (e05.trans e6)) G.l fun v H7 e7 hbv => ?_
              have e57 := e6.trans e7
              have ha7 := e7 _ _ ha6
              obtain ⟨b, hb2⟩ : ∃ b, EvT (tOr (tNot (tB (tDGet (tVar 1) (tC (.str "calm"))))) (tOr (tTest (tOp rIsN (tVar 9) (tC .non))) (tTest (tOp (rI0 fun i j => .bl (decide (i > j))) (tCall spRank [] E0 (tCons (tVar 7) tNil)) (tCall spRank [] E0 (tCons (tVar 9) tNil)))))) [some (V.ref p), some (.ref sc), some (.int o), some (.ref u), some (.ref d), some (.ref es), some (.int z), some (.ref a3), some (.ref a2), some v] H7 b := by
                rcases hbv with ⟨_, rfl⟩ | ⟨cl, ll, _, rfl, hcl, hml⟩
                · exact ⟨_, et_or (et_not (et_B (ev_pk (Sum.inr "calm") (ev_var rfl) ev_c ((e05.trans e57) _ _ G.s.h) scn_c))) fun _ => et_or (a := true) (b := true) (et_is (et_test (ev_op (ev_var rfl) ev_c rv_isN)) rfl) fun z => absurd z (by decide)⟩
                · exact ⟨_, et_or (et_not (et_B (ev_pk (Sum.inr "calm") (ev_var rfl) ev_c ((e05.trans e57) _ _ G.s.h) scn_c))) fun _ => et_or (et_test (ev_op (ev_var rfl) ev_c rv_isN)) fun _ => et_test (ev_op (ev_cal (ea_cons (ev_var rfl) ea_nil) (v_rank ha7 g1 g2 hme)) (ev_cal (ea_cons (ev_var rfl) ea_nil) (v_rank (xs := ll.items) hcl rfl rfl hml)) rv_I0)⟩
              refine s_when hb2 (fun _ H8 e8 => ?_) (fun _ H8 e8 => skip (e57.trans e8))
              have e58 := e57.trans e8
              have ha8 := e58 _ _ ha3
              refine s_appU (l := es) (xs := vs) (ho.ex e58).1 (ev_var rfl) (eu_tup (ea_cons (ev_it 0 (ev_var rfl) (st_of ha8) g0) (ea_cons (ev_it 1 (ev_var rfl) (st_of ha8) g1) (ea_cons (ev_it 2 (ev_var rfl) (st_of ha8) g2) (ea_cons (ev_var rfl) ea_nil)))) (by show 4 ≤ 100000; decide)) (by omega) fun tp H9 ntp e9 htp => ?_
              have e59 := e58.trans e9
              exact ⟨⟨_, _, rfl⟩, (e05.trans e59).mut nes, ⟨by rw [upd_ne hl.2]; exact e59 _ _ hl.1, hl.2⟩, vs ++ [.ref tp], (ho.ex e59).app htp hme, by rw [List.length_append]; show _ + 1 ≤ _; omega⟩
          · refine s_when (b := false) (et_and (a := false) (b := false) (et_B (ev_isB (ev_var rfl) (nontup_isB hnt))) fun z => absurd z (by decide)) (fun z => absurd z (by decide)) (fun _ H6 e6 => skip e6)
        · rintro σ' H5 ⟨⟨x7, x9, rfl⟩, e05, hl, vs, ho, hlen⟩
          exact ⟨⟨_, _, _, rfl⟩, e05, hl, vs, ho, by omega⟩
      · rintro σ' H4 ⟨⟨x7, x8, x9, rfl⟩, e04, hl, vs, ho, hlen⟩
        have := hlb.1
        exact ⟨⟨_, _, _, _, rfl⟩, e04, hl, vs, ho, by omega⟩
    · rintro l σ' H3 ⟨⟨x6, x7, x8, x9, rfl⟩, eH, hl, vs, ho, hlen⟩
      have hvl : vs.length ≤ 10000 := by
        have h2 := given_len ((srt (keysJ J)).map V.int).length (fun i => !decide ((srt (keysJ J)).getD i 0 = o)) (fun i => .int ((srt (keysJ J)).getD i 0))
        omega
      refine q_when (et_test (ev_eqNil ho (ev_var rfl) (el_lst ea_nil (by decide)))) (fun _ H4 e4 => ?_) (fun hb H4 e4 => ?_)
      · have e04 := eH.trans e4
        have G4 := G.ex e04
        refine s_retCall (ea_cons (ev_var rfl) (ea_cons (ev_var rfl) (ea_cons (ev_var rfl) (ea_cons (ev_pk (Sum.inr "lowest") (ev_var rfl) ev_c G4.s.h scn_l) ea_nil)))) fun H5 e5 => ?_
        have G5 := G4.ex e5
        exact ⟨p, c, u, o, lo, r, rfl, G5.pk, G5.rn, G5.l, fun v H' b g he => q v H' ((But.of_ex (e04.trans e5)).trans b) g he⟩
      · have e04 := eH.trans e4
        exact s_retPick (G.ex e04).pk (ho.ex e4) hvl hb (fun _ => ev_var rfl) (fun _ => ev_var rfl) fun v H' b g he => q v H' ((But.of_ex e04).trans b) g he
end
end Lr
set_option Elab.async false
set_option linter.all false
set_option maxRecDepth 100000
set_option maxHeartbeats 4000000
namespace Lr
open PySem L2 Evl
/-- what is given, and that all but the pack stands since H0 -/
structure Gv (p c sc pl d u : Addr) (ps : List Int) (J : Jrn) (lo : Int) (cm : Bool) (r : Run) (H0 H : Hp) : Prop where
  g : Giv p c sc pl d u ps J lo cm r H
  b : But p H0 H
section
variable {p c sc pl d u : Addr} {ps : List Int} {J : Jrn} {lo : Int} {cm : Bool} {r : Run} {H0 H H' : Hp}
theorem Gv.ex (h : Gv p c sc pl d u ps J lo cm r H0 H) (e : Ex H H') : Gv p c sc pl d u ps J lo cm r H0 H' := ⟨h.g.ex e, h.b.trans (But.of_ex e)⟩
theorem Gv.but (h : Gv p c sc pl d u ps J lo cm r H0 H) (b : But p H H') (g : PkAt p c H') : Gv p c sc pl d u ps J lo cm r H0 H' := ⟨h.g.but b g, h.b.trans b⟩
end
section
variable {K : PySem.W.Frag} {σ : L2.St} {H : Hp} {D : Ends} {tz : TS}
/-- pool[draw(len(pool))] -/
theorem dv_poolPick {p c pl : Addr} {ps : List Int} {tp ta : TE} (g : PkAt p c H) (hl : H pl = some (.lst (ps.map V.int))) (h0 : 0 < ps.length) (h1 : ps.length ≤ 8) (hp : ∀ H1, Ev tp σ H1 (.ref p)) (ha : ∀ H1, But p H H1 → PkAt p c H1 → Ev ta σ H1 (.ref pl)) :
    Dv (But p) (PkAt p c) (tOp (rIxL K) ta (tCall spDraw [] E0 (tCons tp (tCons (tCB (rLenS K) (tCons ta tNil)) tNil)))) σ H (fun v _ => ∃ z, v = .int z ∧ z ∈ ps) := by
  have st : ∀ H1, But p H H1 → H1 pl = some (.lst (ps.map V.int)) := fun H1 b => ((rlP p c).st g b).lst _ _ hl
  refine dv_imp (dv_ixV (a := pl) (xs := ps.map V.int) (n := ps.length) (fun H1 b1 g1 => ⟨ha H1 b1 g1, st H1 b1⟩) (dv_draw (p := p) (c := c) ps.length (fun H1 _ _ => hp H1) (fun H1 b1 g1 => ev_is (ev_len (ha H1 b1 g1) (sq_of (st H1 b1))) (by rw [List.length_map])) h0 (by omega)) (by rw [List.length_map]; exact Nat.le_refl _)) fun v H' _ hv => ?_
  obtain ⟨z, hz, rfl⟩ := List.mem_map.mp hv
  exact ⟨z, rfl, hz⟩
theorem et_lastN {tu ts : TE} {u : Addr} {r : Run} {s : Int} (hu : Ev tu σ H (.ref u)) (hs : Ev ts σ H (.int s)) (hr : RunAt H (.ref u) r) (hl : r.length ≤ 1000) :
    EvT (tTest (tOp rNotN (tCall spLast [] E0 (tCons tu (tCons (tCB (rLenS K) (tCons tu tNil)) (tCons ts tNil)))) (tC .non))) σ H (lastE s ((Run.eo r).take r.length)).isSome := by
  intro H1 e1 Q k
  unfold tTest tOp tCall
  refine ea_cons hu (ea_cons (ev_lenRun hu hr) (ea_cons hs ea_nil)) H1 e1 _ fun H2 e2 => ?_
  refine ⟨.ref u, r, r.length, s, rfl, hr.ex (e1.trans e2), Nat.le_refl _, hl, fun v H3 e3 hb => ⟨rfl, _, rfl, ?_⟩⟩
  rcases hb with ⟨h, rfl⟩ | ⟨cl, l, h, rfl, _⟩
  · rw [h] at k
    exact k H3 (e2.trans e3)
  · rw [h] at k
    exact k H3 (e2.trans e3)
theorem el_cat {ta tb : TE} {a : Addr} {xs ys : List V} (ha : Ev ta σ H (.ref a)) (hl : H a = some (.lst xs)) (hb : EvL tb σ H ys) (hz : xs.length + ys.length ≤ 100000) : EvL (tOp rCat ta tb) σ H (xs ++ ys) := by
  intro H1 e1 Q k
  refine ha H1 e1 _ fun H2 e2 => hb H2 (e1.trans e2) _ fun b H3 nb e3 h3 => ?_
  exact ⟨a, b, xs, ys, rfl, rfl, (e1.trans (e2.trans e3)) _ _ hl, h3, sz_of hz, fun q hq => k q _ (fresh_back (e2.trans e3) hq) ((e2.trans e3).trans (Ex.new hq)) upd_same⟩
theorem s_callB {R : Hp → Hp → Prop} {G : Hp → Prop} [Rl R G] {sp : Sp} {te : TE} {tr : TA} {P : V → Hp → Prop} (h : Dv R G te σ H P) (g : G H) (k : ∀ v H1, R H H1 → G H1 → P v H1 → tr σ H1 fun vs H2 => sp (v :: vs ++ []) H2 D.rt E0) :
    tRet (tCall sp [] E0 (tCons te tr)) D σ H := h H (Rl.rf G H) g _ k
end
section
variable {P : Program} {w : World} {K : PySem.W.Frag} {mg : Str → Option Value} {base : Heap} {aM aS aO aB aE : Addr} {f : Addr} {fd : FuncData}
/-! ### _law_entry -/
theorem sc_law_entry : FnScope ["_law_pack_here", "_law_scene_here", "_law_owner", "_law_run", "_law_pool_here", "_law_lowest", "_law_kind", "_law_seat", "_law_mark", "_law_age", "_law_source"] ["_law_pack_here", "_law_scene_here", "_law_owner", "_law_run"] (defScope (top 36)) := ⟨rfl, rfl, rfl, by decide +kernel, rfl, by decide +kernel, by decide +kernel⟩
theorem ok_law_entry {f1 f2 f3 f4 f5 f6 f7 : Addr} {fd1 fd2 fd3 fd4 fd5 fd6 fd7 : FuncData} (F : FnP K "_law_entry" (top 36) f fd) (T : Tx K w mg aM aS aO aB) (c_law_draw : Cal P w K mg base "_law_draw" 1 ["_law_pack_here", "_law_many"] spDraw f1 fd1)
    (c_law_last : Cal P w K mg base "_law_last" 3 ["_law_run", "_law_at", "_law_seat"] spLast f2 fd2) (c_law_next_own : Cal P w K mg base "_law_next_own" 4 ["_law_pack_here", "_law_owner", "_law_run", "_law_lowest"] spNext f3 fd3) (c_law_formed : Cal P w K mg base "_law_formed" 2 ["_law_entry_here"] spFormed f4 fd4)
    (c_law_odd : Cal P w K mg base "_law_odd" 1 ["_law_pick", "_law_seat", "_law_age", "_law_mark"] spOdd f5 fd5) (c_law_behind : Cal P w K mg base "_law_behind" 6 ["_law_pack_here", "_law_scene_here", "_law_owner", "_law_run"] (spEnt fun r => 0 < r.length ∧ (lastO r).isSome = true) f6 fd6)
    (c_law_heard : Cal P w K mg base "_law_heard" 5 ["_law_pack_here", "_law_scene_here", "_law_owner", "_law_run"] (spEnt fun _ => True) f7 fd7) : FnOk P w K mg base CX0 7 f fd ["_law_pack_here", "_law_scene_here", "_law_owner", "_law_run"] (spEnt fun _ => True) := by
  refine F.ok sc_law_entry (fun vs H Q E h => ?_) (fun cdv A outer s H vs Q E hr h => ?_)
  · obtain ⟨p, c, sc, pl, d, u, o, ps, J, lo, cm, r, rfl, _⟩ := h
    rfl
  · obtain ⟨p, c, sc, pl, d, u, o, ps, J, lo, cm, r, rfl, G, _, q⟩ := h
    have hu := hu_of hr
    have l0 := G.s.l0
    have l1 := G.s.l1
    have lo0 := G.s.lo0
    have lo1 := G.s.lo1
    have pp := G.s.p0
    refine ⟨_, PSs.nox (pss_cons (ps_set (i := 4) sc_law_entry.nd rfl (Or.inl rfl) (pe_dget hu (pv 1) pe_str (fun _ _ => rfl)))
      (pss_cons (ps_set (i := 5) sc_law_entry.nd rfl (Or.inl rfl) (pe_dget hu (pv 1) pe_str (fun _ _ => rfl)))
      (pss_cons (ps_set (i := 6) sc_law_entry.nd rfl (Or.inl rfl) (pe_cal c_law_draw (hr.mono (by decide)) (by rfl) (pa_cons (pv 0) (pa_cons pe_int pa_nil))))
      (pss_cut (ps_if (pt_val (pe_dget hu (pv 1) pe_str (fun _ _ => rfl)))
        (pss_cons (ps_set (i := 6) sc_law_entry.nd rfl (Or.inl rfl) (pe_ix ix_list (pe_lst (pa_cons pe_int (pa_cons pe_int (pa_cons pe_int (pa_cons pe_int (pa_cons pe_int (pa_cons pe_int (pa_cons pe_int (pa_cons pe_int (pa_cons pe_int (pa_cons pe_int (pa_cons pe_int (pa_cons pe_int (pa_cons pe_int (pa_cons pe_int (pa_cons pe_int (pa_cons pe_int pa_nil))))))))))))))))) (pv 6) (fun _ _ => rfl)))
        (pss_one (ps_if (PW.pt (pw_and (pt_cmpR op_eq (pv 6) pe_int (nomark _)) (pw_and1 (pt_cmpR op_gt (pe_callB call_len_seq (by rfl) T.len PySem.boot_len (pa_cons (pv 3) pa_nil)) pe_int (nomark _)))))
          (pss_one (ps_set (i := 6) sc_law_entry.nd rfl (Or.inl rfl) pe_int))
          pss_nil)))
        pss_nil)
      (pss_cons (ps_set (i := 7) sc_law_entry.nd rfl (Or.inl rfl) (pe_ix ix_list (pv 4) (pe_cal c_law_draw (hr.mono (by decide)) (by rfl) (pa_cons (pv 0) (pa_cons (pe_callB call_len_seq (by rfl) T.len PySem.boot_len (pa_cons (pv 4) pa_nil)) pa_nil))) (fun _ _ => rfl)))
      (pss_cut (ps_if (PW.pt (pw_and (pt_val (pe_dget hu (pv 1) pe_str (fun _ _ => rfl))) (pw_and (pt_cmpR op_eq (pv 6) pe_int (nomark _)) (pw_and1 (pt_cmpR op_notN1 (pe_cal c_law_last (hr.mono (by decide)) (by rfl) (pa_cons (pv 3) (pa_cons (pe_callB call_len_seq (by rfl) T.len PySem.boot_len (pa_cons (pv 3) pa_nil)) (pa_cons (pv 7) pa_nil)))) pe_non (nomark _))))))
        (pss_one (ps_set (i := 6) sc_law_entry.nd rfl (Or.inl rfl) pe_int))
        pss_nil)
      (pss_cons (ps_set (i := 8) sc_law_entry.nd rfl (Or.inl rfl) (pe_ix ix_list (pe_lst (pa_cons pe_str (pa_cons pe_str (pa_cons pe_str (pa_cons pe_str pa_nil))))) (pe_cal c_law_draw (hr.mono (by decide)) (by rfl) (pa_cons (pv 0) (pa_cons pe_int pa_nil))) (fun _ _ => rfl)))
      (pss_cons (ps_set (i := 9) sc_law_entry.nd rfl (Or.inl rfl) (pe_op op_add (pv 5) (pe_cal c_law_draw (hr.mono (by decide)) (by rfl) (pa_cons (pv 0) (pa_cons pe_int pa_nil)))))
      (pss_cons (ps_set (i := 10) sc_law_entry.nd rfl (Or.inl rfl) (pe_ix ix_list (pe_op op_cat (pv 4) (pe_lst (pa_cons pe_non pa_nil))) (pe_cal c_law_draw (hr.mono (by decide)) (by rfl) (pa_cons (pv 0) (pa_cons (pe_op op_add (pe_callB call_len_seq (by rfl) T.len PySem.boot_len (pa_cons (pv 4) pa_nil)) pe_int) pa_nil))) (fun _ _ => rfl)))
      (pss_cons (ps_if (pt_cmpR op_eq (pv 6) pe_int (nomark _))
        (pss_one (ps_ret (pe_cal c_law_odd (hr.mono (by decide)) (by rfl) (pa_cons (pe_cal c_law_draw (hr.mono (by decide)) (by rfl) (pa_cons (pv 0) (pa_cons pe_int pa_nil))) (pa_cons (pv 7) (pa_cons (pv 9) (pa_cons (pv 8) pa_nil)))))))
        pss_nil)
      (pss_cons (ps_if (pt_cmpR op_lt (pv 6) pe_int (nomark _))
        (pss_one (ps_ret (pe_tup (pa_cons (pv 7) (pa_cons (pv 9) (pa_cons (pv 8) (pa_cons pe_non pa_nil)))))))
        pss_nil)
      (pss_cons (ps_if (pt_cmpR op_eq (pv 6) pe_int (nomark _))
        (pss_one (ps_ret (pe_cal c_law_next_own (hr.mono (by decide)) (by rfl) (pa_cons (pv 0) (pa_cons (pv 2) (pa_cons (pv 3) (pa_cons (pv 5) pa_nil)))))))
        pss_nil)
      (pss_cons (ps_if (PW.pt (pw_and (pt_cmpR op_lt (pv 6) pe_int (nomark _)) (pw_and (pt_cmpR op_gt (pe_callB call_len_seq (by rfl) T.len PySem.boot_len (pa_cons (pv 3) pa_nil)) pe_int (nomark _)) (pw_and1 (pt_val (pe_cal c_law_formed (hr.mono (by decide)) (by rfl) (pa_cons (pe_ix ix_list (pv 3) (pe_op op_sub (pe_callB call_len_seq (by rfl) T.len PySem.boot_len (pa_cons (pv 3) pa_nil)) pe_int) (fun _ _ => rfl)) pa_nil)))))))
        (pss_one (ps_ret (pe_cal c_law_behind (hr.mono (by decide)) (by rfl) (pa_cons (pv 0) (pa_cons (pv 1) (pa_cons (pv 2) (pa_cons (pv 3) pa_nil)))))))
        pss_nil)
      (pss_cons (ps_if (pt_cmpR op_lt (pv 6) pe_int (nomark _))
        (pss_one (ps_ret (pe_cal c_law_heard (hr.mono (by decide)) (by rfl) (pa_cons (pv 0) (pa_cons (pv 1) (pa_cons (pv 2) (pa_cons (pv 3) pa_nil)))))))
        pss_nil)
      (pss_cons (ps_if (pt_cmpR op_eq (pv 6) pe_int (nomark _))
        (pss_one (ps_ret (pe_tup (pa_cons (pv 7) (pa_cons pe_int (pa_cons pe_str (pa_cons (pv 2) pa_nil)))))))
        pss_nil)
      (pss_cons (ps_if (PW.pt (pw_and (pt_cmpR op_eq (pv 6) pe_int (nomark _)) (pw_and (pt_cmpR op_gt (pe_callB call_len_seq (by rfl) T.len PySem.boot_len (pa_cons (pv 3) pa_nil)) pe_int (nomark _)) (pw_and1 (pt_val (pe_cal c_law_formed (hr.mono (by decide)) (by rfl) (pa_cons (pe_ix ix_list (pv 3) (pe_op op_sub (pe_callB call_len_seq (by rfl) T.len PySem.boot_len (pa_cons (pv 3) pa_nil)) pe_int) (fun _ _ => rfl)) pa_nil)))))))
        (pss_one (ps_ret (pe_tup (pa_cons (pe_ix ix_tup (pe_ix ix_list (pv 3) (pe_op op_sub (pe_callB call_len_seq (by rfl) T.len PySem.boot_len (pa_cons (pv 3) pa_nil)) pe_int) (fun _ _ => rfl)) pe_int (fun _ _ => rfl)) (pa_cons (pe_op op_add (pe_ix ix_tup (pe_ix ix_list (pv 3) (pe_op op_sub (pe_callB call_len_seq (by rfl) T.len PySem.boot_len (pa_cons (pv 3) pa_nil)) pe_int) (fun _ _ => rfl)) pe_int (fun _ _ => rfl)) pe_int) (pa_cons (pv 8) (pa_cons (pv 10) pa_nil)))))))
        pss_nil)
      (pss_one (ps_ret (pe_tup (pa_cons (pv 7) (pa_cons (pv 9) (pa_cons (pv 8) (pa_cons (pv 10) pa_nil))))))))))))))))))))))), ?_⟩
    refine q_asg (ev_pk (Sum.inr "pool") (ev_var rfl) ev_c G.s.h scn_p) fun H1 e1 => ?_
    refine q_asg (ev_pk (Sum.inr "lowest") (ev_var rfl) ev_c (G.ex e1).s.h scn_l) fun H2 e2 => ?_
    have S2 : Gv p c sc pl d u ps J lo cm r H H2 := ⟨G.ex (e1.trans e2), But.of_ex (e1.trans e2)⟩
    refine q_asgB (dv_draw (p := p) (c := c) 16 (fun _ _ _ => ev_var rfl) (fun _ _ _ => ev_c) (by decide) (by decide)) S2.g.pk ?_
    rintro v H3 b3 g3 ⟨k, rfl, hk⟩
    have S3 := S2.but b3 g3
    refine q_cut (M := fun σ' H' => ∃ kd x7 x8 x9 x10, σ' = [some (.ref p), some (.ref sc), some (.int o), some (.ref u), some (.ref pl), some (.int lo), some (.int kd), x7, x8, x9, x10] ∧ Gv p c sc pl d u ps J lo cm r H H') ?_ ?_
    · refine s_when (et_B (ev_pk (Sum.inr "calm") (ev_var rfl) ev_c S3.g.s.h scn_c)) (fun _ H4 e4 => ?_) (fun _ H4 e4 => ⟨_, _, _, _, _, rfl, S3.ex e4⟩)
      refine q_asgB (R := Ex) (G := TG0) (dv_ixM (n := 16) (xs := ([3, 3, 4, 5, 6, 7, 8, 9, 10, 1, 1, 4, 5, 6, 7, 8] : List Int).map V.int) (fun _ _ _ => el_lst (ea_cons ev_c (ea_cons ev_c (ea_cons ev_c (ea_cons ev_c (ea_cons ev_c (ea_cons ev_c (ea_cons ev_c (ea_cons ev_c (ea_cons ev_c (ea_cons ev_c (ea_cons ev_c (ea_cons ev_c (ea_cons ev_c (ea_cons ev_c (ea_cons ev_c (ea_cons ev_c ea_nil)))))))))))))))) (by show 16 ≤ 100000; decide)) (dv_evN (fun _ _ _ => ev_var rfl) (by omega)) (Nat.le_refl _)) trivial ?_
      rintro v H5 e5 _ hm
      obtain ⟨z, _, rfl⟩ := List.mem_map.mp hm
      have S5 := (S3.ex e4).ex e5
      refine s_when (et_and (et_test (ev_eqI (ev_var rfl) ev_c)) fun _ => et_test (ev_op (ev_lenRun (ev_var rfl) S5.g.rn) ev_c rv_I0)) (fun _ H6 e6 => ?_) (fun _ H6 e6 => ⟨_, _, _, _, _, rfl, S5.ex e6⟩)
      exact s_asg ev_c fun H7 e7 => ⟨_, _, _, _, _, rfl, (S5.ex e6).ex e7⟩
    rintro σ' H4 ⟨kd, x7, x8, x9, x10, rfl, S4⟩
    refine q_asgB (dv_poolPick (c := c) S4.g.pk S4.g.s.pl l0 l1 (fun _ => ev_var rfl) (fun _ _ _ => ev_var rfl)) S4.g.pk ?_
    rintro v H5 b5 g5 ⟨seat, rfl, hseat⟩
    have S5 := S4.but b5 g5
    have hse := pp seat hseat
    refine q_cut (M := fun σ' H' => ∃ kd x8 x9 x10, σ' = [some (.ref p), some (.ref sc), some (.int o), some (.ref u), some (.ref pl), some (.int lo), some (.int kd), some (.int seat), x8, x9, x10] ∧ Gv p c sc pl d u ps J lo cm r H H') ?_ ?_
    · refine s_when (et_and (et_B (ev_pk (Sum.inr "calm") (ev_var rfl) ev_c S5.g.s.h scn_c)) fun _ => et_and (et_test (ev_eqI (ev_var rfl) ev_c)) fun _ => et_lastN (ev_var rfl) (ev_var rfl) S5.g.rn S5.g.l) (fun _ H6 e6 => ?_) (fun _ H6 e6 => ⟨_, _, _, _, rfl, S5.ex e6⟩)
      exact s_asg ev_c fun H7 e7 => ⟨_, _, _, _, rfl, (S5.ex e6).ex e7⟩
    rintro σ' H6 ⟨kd, x8, x9, x10, rfl, S6⟩
    refine q_asgB (dv_ixM (n := 4) (xs := marksV) (fun _ _ _ => el_marks) (dv_draw (p := p) (c := c) 4 (fun _ _ _ => ev_var rfl) (fun _ _ _ => ev_c) (by decide) (by decide)) (Nat.le_refl 4)) S6.g.pk ?_
    rintro v H7 b7 g7 hm
    have S7 := S6.but b7 g7
    obtain ⟨mk, rfl⟩ : ∃ m, v = .str m := by
      unfold marksV at hm
      rcases List.mem_cons.mp hm with rfl | hm
      · exact ⟨_, rfl⟩
      rcases List.mem_cons.mp hm with rfl | hm
      · exact ⟨_, rfl⟩
      exact mem2 (Q := fun v => ∃ m, v = .str m) hm ⟨_, rfl⟩ ⟨_, rfl⟩
    refine q_asgB (dv_op (P := fun v _ => ∃ z, v = .int z ∧ 0 ≤ z ∧ z ≤ 10 ^ 56) (dv_ev (v := .int lo) fun _ _ _ => ev_var rfl) (dv_draw (p := p) (c := c) 4 (fun _ _ _ => ev_var rfl) (fun _ _ _ => ev_c) (by decide) (by decide)) (fun _ _ _ _ _ z => z) fun x y H3 _ _ ex ⟨i, ey, hi⟩ => ?_) S7.g.pk ?_
    · subst ex ey
      exact ⟨_, rv_I0, fun _ _ => ⟨_, rfl, by omega, by omega⟩⟩
    rintro v H8 b8 g8 ⟨age, rfl, a0, a1⟩
    have S8 := S7.but b8 g8
    have stp : ∀ H1, But p H8 H1 → H1 pl = some (.lst (ps.map V.int)) := fun H1 b => ((rlP p c).st g8 b).lst _ _ S8.g.s.pl
    refine q_asgB (dv_ixM (n := ps.length + 1) (xs := ps.map V.int ++ [.non]) (fun H1 b1 _ => el_cat (ev_var rfl) (stp H1 b1) (el_lst (ea_cons ev_c ea_nil) (by decide)) (by rw [List.length_map]; show _ + 1 ≤ 100000; omega)) (dv_draw (p := p) (c := c) (m' := (ps.length : Int) + 1) (ps.length + 1) (fun _ _ _ => ev_var rfl) (fun H1 b1 _ => ev_op (ev_is (ev_len (ev_var rfl) (sq_of (stp H1 b1))) (by rw [List.length_map])) ev_c rv_I0) (by omega) (by omega)) (by rw [List.length_append, List.length_map]; exact Nat.le_refl _)) S8.g.pk ?_
    rintro src H9 b9 g9 hm
    have S9 := S8.but b9 g9
    have hsrc : ∀ H1, ItemOk H1 src := fun H1 => by
      rcases List.mem_append.mp hm with hm | hm
      · obtain ⟨z, _, rfl⟩ := List.mem_map.mp hm
        trivial
      · rw [List.mem_singleton.mp hm]; trivial
    have fin : ∀ {H1 : Hp}, Gv p c sc pl d u ps J lo cm r H H1 → ∀ v H2, Ex H1 H2 → TG0 H2 → EntP v H2 → Q v H2 := fun {H1} S v H2 r _ pe => q v H2 (S.ex r).b (S.ex r).g.pk pe
    have fin2 : ∀ {H1 : Hp}, Gv p c sc pl d u ps J lo cm r H H1 → ∀ v H2, But p H1 H2 → PkAt p c H2 → EntP v H2 → Q v H2 := fun {H1} S v H2 b g pe => q v H2 (S.b.trans b) g pe
    have tSeat : ∀ {H1 : Hp}, Dv Ex TG0 (tVar 7) [some (.ref p), some (.ref sc), some (.int o), some (.ref u), some (.ref pl), some (.int lo), some (.int kd), some (.int seat), some (.str mk), some (.int age), some src] H1 It := fun {H1} => it_ev (fun _ _ _ => ev_var rfl) fun _ => trivial
    have tMark : ∀ {H1 : Hp}, Dv Ex TG0 (tVar 8) [some (.ref p), some (.ref sc), some (.int o), some (.ref u), some (.ref pl), some (.int lo), some (.int kd), some (.int seat), some (.str mk), some (.int age), some src] H1 It := fun {H1} => it_ev (fun _ _ _ => ev_var rfl) fun _ => trivial
    have tAge : ∀ {H1 : Hp}, Dv Ex TG0 (tVar 9) [some (.ref p), some (.ref sc), some (.int o), some (.ref u), some (.ref pl), some (.int lo), some (.int kd), some (.int seat), some (.str mk), some (.int age), some src] H1 It := fun {H1} => it_ev (fun _ _ _ => ev_var rfl) fun _ => trivial
    have tSrc : ∀ {H1 : Hp}, Dv Ex TG0 (tVar 10) [some (.ref p), some (.ref sc), some (.int o), some (.ref u), some (.ref pl), some (.int lo), some (.int kd), some (.int seat), some (.str mk), some (.int age), some src] H1 It := fun {H1} => it_ev (fun _ _ _ => ev_var rfl) hsrc
    refine q_when (et_test (ev_eqI (ev_var rfl) ev_c)) (fun _ H10 e10 => ?_) (fun _ H10 e10 => ?_)
    · have S := S9.ex e10
      refine s_callB (dv_draw (p := p) (c := c) 20 (fun _ _ _ => ev_var rfl) (fun _ _ _ => ev_c) (by decide) (by decide)) S.g.pk ?_
      rintro v H11 b11 g11 ⟨k, rfl, hk⟩
      have S := S.but b11 g11
      exact ⟨_, rfl, _, rfl, _, rfl, k, seat, age, mk, rfl, hk, hse.1, hse.2, a0, a1, fun v H' e he => fin S v H' e trivial he⟩
    have S10 := S9.ex e10
    refine q_when (et_test (ev_op (ev_var rfl) ev_c rv_I0)) (fun _ H11 e11 => ?_) (fun _ H11 e11 => ?_)
    · exact s_retB (R := Ex) (G := TG0) (dv_ent (da_cons tSeat (da_cons tAge (da_cons tMark (da_cons (it_ev (fun _ _ _ => ev_c) fun _ => trivial) da_nil)))) (by decide)) trivial (fin (S10.ex e11))
    have S11 := S10.ex e11
    refine q_when (et_test (ev_eqI (ev_var rfl) ev_c)) (fun _ H12 e12 => ?_) (fun _ H12 e12 => ?_)
    · refine s_retCall (ea_cons (ev_var rfl) (ea_cons (ev_var rfl) (ea_cons (ev_var rfl) (ea_cons (ev_var rfl) ea_nil)))) fun H13 e13 => ?_
      have S := (S11.ex e12).ex e13
      exact ⟨p, c, u, o, lo, r, rfl, S.g.pk, S.g.rn, S.g.l, fun v H' b g he => fin2 S v H' b g he⟩
    have S12 := S11.ex e12
    have tLast : ∀ {H1 : Hp}, Gv p c sc pl d u ps J lo cm r H H1 → 0 < r.length → EvT (tB (tCall spFormed [] E0 (tCons (tOp (rIxL K) (tVar 3) (tOp (rI0 fun i j => .int (i - j)) (tCB (rLenS K) (tCons (tVar 3) tNil)) (tC (.int 1)))) tNil))) [some (.ref p), some (.ref sc), some (.int o), some (.ref u), some (.ref pl), some (.int lo), some (.int kd), some (.int seat), some (.str mk), some (.int age), some src] H1 (lastO r).isSome := fun {H1} S h0 => by
      obtain ⟨x, hx1, hx⟩ := last_at h0
      obtain ⟨_, eu, _, hent⟩ := id S.g.rn
      cases eu
      exact et_B (ev_cal (ea_cons (ev_lastX (ev_var rfl) S.g.rn h0 hx) ea_nil) (v_formed (hent _ (List.mem_of_getElem? hx1))))
    refine q_when (et_and (et_test (ev_op (ev_var rfl) ev_c rv_I0)) fun _ => et_and (et_test (ev_op (ev_lenRun (ev_var rfl) S12.g.rn) ev_c rv_I0)) fun h0 => tLast S12 (by have := of_decide_eq_true h0; omega)) (fun hb H13 e13 => ?_) (fun _ H13 e13 => ?_)
    · have hb2 := (Bool.and_eq_true _ _).mp ((Bool.and_eq_true _ _).mp hb).2
      have h0 := of_decide_eq_true hb2.1
      refine s_retCall (ea_cons (ev_var rfl) (ea_cons (ev_var rfl) (ea_cons (ev_var rfl) (ea_cons (ev_var rfl) ea_nil)))) fun H14 e14 => ?_
      have S := (S12.ex e13).ex e14
      exact ⟨p, c, sc, pl, d, u, o, ps, J, lo, cm, r, rfl, S.g, ⟨by omega, hb2.2⟩, fun v H' b g he => fin2 S v H' b g he⟩
    have S13 := S12.ex e13
    refine q_when (et_test (ev_op (ev_var rfl) ev_c rv_I0)) (fun _ H14 e14 => ?_) (fun _ H14 e14 => ?_)
    · refine s_retCall (ea_cons (ev_var rfl) (ea_cons (ev_var rfl) (ea_cons (ev_var rfl) (ea_cons (ev_var rfl) ea_nil)))) fun H15 e15 => ?_
      have S := (S13.ex e14).ex e15
      exact ⟨p, c, sc, pl, d, u, o, ps, J, lo, cm, r, rfl, S.g, trivial, fun v H' b g he => fin2 S v H' b g he⟩
    have S14 := S13.ex e14
    refine q_when (et_test (ev_eqI (ev_var rfl) ev_c)) (fun _ H15 e15 => ?_) (fun _ H15 e15 => ?_)
    · exact s_retB (R := Ex) (G := TG0) (dv_ent (da_cons tSeat (da_cons (it_ev (fun _ _ _ => ev_c) fun _ => trivial) (da_cons (it_ev (fun _ _ _ => ev_c) fun _ => trivial) (da_cons (it_ev (fun _ _ _ => ev_var rfl) fun _ => trivial) da_nil)))) (by decide)) trivial (fin (S14.ex e15))
    have S15 := S14.ex e15
    refine q_when (et_and (et_test (ev_eqI (ev_var rfl) ev_c)) fun _ => et_and (et_test (ev_op (ev_lenRun (ev_var rfl) S15.g.rn) ev_c rv_I0)) fun h0 => tLast S15 (by have := of_decide_eq_true h0; omega)) (fun hb H16 e16 => ?_) (fun _ H16 e16 => ?_)
    · have hb2 := (Bool.and_eq_true _ _).mp ((Bool.and_eq_true _ _).mp hb).2
      have h0 := of_decide_eq_true hb2.1
      have h0 : 0 < r.length := by omega
      have S := S15.ex e16
      obtain ⟨x, hx1, hx⟩ := last_at h0
      obtain ⟨_, eu, _, hent⟩ := id S.g.rn
      cases eu
      have hey := hent _ (List.mem_of_getElem? hx1)
      obtain ⟨e, he⟩ := Option.isSome_iff_exists.mp hb2.2
      rw [he] at hey
      rcases hey with ⟨a3, xs3, ea, ha3, _, hfo⟩ | ⟨z, _⟩
      · have ea : x = .ref a3 := ea
        subst ea
        obtain ⟨rfl, _, _, hmf, _⟩ := formedL_items hfo.symm
        exact s_retB (R := Ex) (G := TG0) (dv_ent (da_cons (it_ev (v := .int _) (fun H17 e17 _ => ev_it 0 (ev_lastX (ev_var rfl) (S.ex e17).g.rn h0 hx) (st_of (e17 _ _ ha3)) rfl) fun _ => trivial) (da_cons (it_ev (v := .int _) (fun H17 e17 _ => ev_op (ev_it 1 (ev_lastX (ev_var rfl) (S.ex e17).g.rn h0 hx) (st_of (e17 _ _ ha3)) rfl) ev_c rv_I0) fun _ => trivial) (da_cons tMark (da_cons tSrc da_nil)))) (by decide)) trivial (fin S)
      · cases z
    have S16 := S15.ex e16
    exact s_retB (R := Ex) (G := TG0) (dv_ent (da_cons tSeat (da_cons tAge (da_cons tMark (da_cons tSrc da_nil)))) (by decide)) trivial (fin S16)
end
end Lr
set_option Elab.async false
set_option linter.all false
set_option maxRecDepth 100000
set_option maxHeartbeats 4000000
namespace Lr
open PySem L2 Evl
/-! ### a dict's places and values stay distinct -/
theorem put_keys {k : L2.Key} {v : V} : ∀ kvs : List (L2.Key × V), (kvs.map fun kv => if kv.1 = k then (kv.1, v) else kv).map (·.1) = kvs.map (·.1)
  | [] => rfl
  | p :: r => by
    rw [List.map_cons, List.map_cons, List.map_cons, put_keys r]
    congr 1
    split <;> rfl
theorem put_same {k : L2.Key} {v : V} : ∀ kvs : List (L2.Key × V), k ∉ kvs.map (·.1) → (kvs.map fun kv => if kv.1 = k then (kv.1, v) else kv) = kvs
  | [], _ => rfl
  | p :: r, h => by
    rw [List.map_cons, List.mem_cons, not_or] at h
    rw [List.map_cons, if_neg (fun z => h.1 z.symm), put_same r h.2]
theorem put_mem {k : L2.Key} {v : V} {kvs : List (L2.Key × V)} {kv : L2.Key × V} (h : kv ∈ putK kvs k v) : kv ∈ kvs ∨ kv = (k, v) := by
  unfold putK at h
  split at h
  · obtain ⟨p, hp, e⟩ := List.mem_map.mp h
    by_cases hk : p.1 = k
    · rw [if_pos hk] at e
      exact .inr (by rw [← e, hk])
    · rw [if_neg hk] at e
      exact .inl (by rw [← e]; exact hp)
  · rcases List.mem_append.mp h with h | h
    · exact .inl h
    · exact .inr (List.mem_singleton.mp h)
theorem put_vals {k : L2.Key} {v : V} : ∀ kvs : List (L2.Key × V), (kvs.map (·.1)).Nodup → (kvs.map (·.2)).Nodup → v ∉ kvs.map (·.2) → ((kvs.map fun kv => if kv.1 = k then (kv.1, v) else kv).map (·.2)).Nodup
  | [], _, _, _ => .nil
  | p :: r, hk, hv, hn => by
    rw [List.map_cons, List.nodup_cons] at hk hv
    rw [List.map_cons, List.mem_cons, not_or] at hn
    rw [List.map_cons]
    by_cases e : p.1 = k
    · rw [if_pos e, put_same r (by rw [← e]; exact hk.1), List.map_cons, List.nodup_cons]
      exact ⟨hn.2, hv.2⟩
    · rw [if_neg e, List.map_cons, List.nodup_cons]
      refine ⟨fun z => ?_, put_vals r hk.2 hv.2 hn.2⟩
      obtain ⟨q, hq, eq⟩ := List.mem_map.mp z
      obtain ⟨q', hq', eq'⟩ := List.mem_map.mp hq
      by_cases e2 : q'.1 = k
      · rw [if_pos e2] at eq'
        rw [← eq'] at eq
        exact hn.1 eq
      · rw [if_neg e2] at eq'
        rw [← eq', ] at eq
        exact hv.1 (by rw [← eq]; exact List.mem_map.mpr ⟨q', hq', rfl⟩)
theorem nodup_snoc {α : Type} {l : List α} {a : α} (h : l.Nodup) (n : a ∉ l) : (l ++ [a]).Nodup := by
  rw [List.nodup_append]
  exact ⟨h, (by simp), fun x hx y hy => by rw [List.mem_singleton.mp hy]; exact fun z => n (by rw [← z]; exact hx)⟩
theorem put_nd {kvs : List (L2.Key × V)} {k : L2.Key} {v : V} (hk : (kvs.map (·.1)).Nodup) (hv : (kvs.map (·.2)).Nodup) (hn : v ∉ kvs.map (·.2)) : ((putK kvs k v).map (·.1)).Nodup ∧ ((putK kvs k v).map (·.2)).Nodup ∧ putK kvs k v ≠ [] := by
  unfold putK
  split
  · rename_i h
    refine ⟨by rw [put_keys]; exact hk, put_vals kvs hk hv hn, fun z => ?_⟩
    cases kvs with
    | nil => cases h
    | cons p r => cases z
  · rename_i h
    refine ⟨?_, ?_, by simp⟩
    · rw [List.map_append]
      refine nodup_snoc hk fun z => h ?_
      obtain ⟨p, hp, e⟩ := List.mem_map.mp z
      exact List.any_eq_true.mpr ⟨p, hp, decide_eq_true e⟩
    · rw [List.map_append]
      exact nodup_snoc hv hn
/-! ### journals under construction: w no list of them -/
def JX (kvs : List (L2.Key × V)) (w : V) (n : Nat → Nat) (H : Hp) : Prop := ∀ (j : Nat) (kv : L2.Key × V), kvs[j]? = some kv → ∃ (z : Int) (ra : Addr) (xs : List V), kv = (Sum.inl z, .ref ra) ∧ V.ref ra ≠ w ∧ H ra = some (.lst xs) ∧ xs.length ≤ n j ∧
  ∀ v ∈ xs, v ∉ kvs.map (·.2) ∧ v ≠ w ∧ ∃ r, RunAt H v r ∧ r.length ≤ 100
section
variable {kvs : List (L2.Key × V)} {w : V} {n m : Nat → Nat} {H H' : Hp}
theorem JX.st (h : JX kvs w n H) (s : Stay H H') : JX kvs w n H' := fun j kv e => by
  obtain ⟨z, ra, xs, e1, e2, e3, e4, e5⟩ := h j kv e
  refine ⟨z, ra, xs, e1, e2, s.lst _ _ e3, e4, fun v hv => ?_⟩
  obtain ⟨a, b, r, c, d⟩ := e5 v hv
  exact ⟨a, b, r, c.st s, d⟩
theorem JX.mono (h : JX kvs w n H) (hm : ∀ j, n j ≤ m j) : JX kvs w m H := fun j kv e => by
  obtain ⟨z, ra, xs, e1, e2, e3, e4, e5⟩ := h j kv e
  exact ⟨z, ra, xs, e1, e2, e3, Nat.le_trans e4 (hm j), e5⟩
theorem JX.fresh {u : Addr} (h : JX kvs w n H) (hu : H u = none) : JX kvs (.ref u) n H := fun j kv e => by
  obtain ⟨z, ra, xs, e1, e2, e3, e4, e5⟩ := h j kv e
  refine ⟨z, ra, xs, e1, fun q => ?_, e3, e4, fun v hv => ?_⟩
  · have q := V.ref.inj q
    rw [q, hu] at e3
    cases e3
  · obtain ⟨a, b, r, c, d⟩ := e5 v hv
    refine ⟨a, fun q => ?_, r, c, d⟩
    obtain ⟨b', rfl, hb, _⟩ := c
    have q := V.ref.inj q
    rw [q, hu] at hb
    cases hb
theorem EntAt.updL {v : V} {o : Eo} {u : Addr} {xs ys : List V} (h : EntAt H v o) (hu : H u = some (.lst xs)) : EntAt (upd H u (.lst ys)) v o := h.stay (fun b zs z => by rw [upd_ne (ne_of z hu fun q => nomatch q)]; exact z) fun b zs _ z => by
  by_cases e : b = u
  · exact ⟨ys, by rw [e]; exact upd_same⟩
  · exact ⟨zs, by rw [upd_ne e]; exact z⟩
theorem RunAt.updL {v : V} {r : Run} {u : Addr} {xs ys : List V} (h : RunAt H v r) (hu : H u = some (.lst xs)) (hn : v ≠ .ref u) : RunAt (upd H u (.lst ys)) v r := by
  obtain ⟨b, rfl, hb, he⟩ := h
  exact ⟨b, rfl, by rw [upd_ne fun z => hn (by rw [z])]; exact hb, fun p hp => (he p hp).updL hu⟩
/-- an entry more -/
theorem RunAt.snoc {v : V} {o : Eo} {r : Run} {u : Addr} (h : RunAt H (.ref u) r) (he : EntAt H v o) : RunAt (upd H u (.lst (r.map (·.1) ++ [v]))) (.ref u) (r ++ [(v, o)]) := by
  obtain ⟨b, eb, hb, hent⟩ := h
  cases eb
  refine ⟨u, rfl, by rw [upd_same, List.map_append]; rfl, fun p hp => ?_⟩
  rcases List.mem_append.mp hp with hp | hp
  · exact (hent p hp).updL hb
  · rw [List.mem_singleton.mp hp]
    exact he.updL hb
theorem JX.updU {u : Addr} {xs ys : List V} (h : JX kvs (.ref u) n H) (hu : H u = some (.lst xs)) : JX kvs (.ref u) n (upd H u (.lst ys)) := fun j kv e => by
  obtain ⟨z, ra, zs, e1, e2, e3, e4, e5⟩ := h j kv e
  refine ⟨z, ra, zs, e1, e2, by rw [upd_ne fun q => e2 (by rw [q])]; exact e3, e4, fun v hv => ?_⟩
  obtain ⟨a, b, r, c, d⟩ := e5 v hv
  exact ⟨a, b, r, c.updL hu b, d⟩
theorem JX.app {u ra : Addr} {z : Int} {i : Nat} {xs : List V} {r : Run} (h : JX kvs (.ref u) n H) (nd : (kvs.map (·.2)).Nodup) (hi : kvs[i]? = some (Sum.inl z, .ref ra)) (hra : H ra = some (.lst xs)) (hr : RunAt H (.ref u) r) (hl : r.length ≤ 100) (hm : ∀ j, (if j = i then n i + 1 else n j) ≤ m j) :
    JX kvs .non m (upd H ra (.lst (xs ++ [.ref u]))) := fun j kv e => by
  have hv : ∀ {j : Nat} {kv : L2.Key × V}, kvs[j]? = some kv → (kvs.map (·.2))[j]? = some kv.2 := fun {j kv} e => by rw [List.getElem?_map, e]; rfl
  have hur : V.ref u ∉ kvs.map (·.2) := fun q => by
    obtain ⟨j', hj', e'⟩ := List.getElem_of_mem q
    rw [List.length_map] at hj'
    obtain ⟨z', ra', xs', e1, e2, _⟩ := h j' _ (List.getElem?_eq_getElem hj')
    rw [List.getElem_map, e1] at e'
    exact e2 e'
  have nur : ra ≠ u := fun q => hur (by rw [← q]; exact List.mem_of_getElem? (hv hi))
  have hm' := hm j
  obtain ⟨z', ra', ys, e1, e2, e3, e4, e5⟩ := h j kv e
  have keep : ∀ v ∈ ys, v ∉ kvs.map (·.2) ∧ v ≠ .non ∧ ∃ r, RunAt (upd H ra (.lst (xs ++ [.ref u]))) v r ∧ r.length ≤ 100 := fun v hv' => by
    obtain ⟨a, b, r', c, d⟩ := e5 v hv'
    refine ⟨a, ?_, r', c.updL hra fun q => a (by rw [q]; exact List.mem_of_getElem? (hv hi)), d⟩
    obtain ⟨b', rfl, _⟩ := c
    exact fun q => nomatch q
  by_cases hji : j = i
  · subst hji
    rw [hi] at e
    cases e
    injection e1 with _ e1
    have e1 := V.ref.inj e1
    subst e1
    rw [hra] at e3
    injection e3 with e3
    injection e3 with e3
    subst e3
    rw [if_pos rfl] at hm'
    refine ⟨z, ra, xs ++ [.ref u], rfl, (fun q => nomatch q), upd_same, by rw [List.length_append]; show _ + 1 ≤ _; omega, fun v hv' => ?_⟩
    rcases List.mem_append.mp hv' with hv' | hv'
    · exact keep v hv'
    · rw [List.mem_singleton.mp hv']
      exact ⟨hur, (fun q => nomatch q), r, hr.updL hra fun q => nur (V.ref.inj q).symm, hl⟩
  · rw [if_neg hji] at hm'
    have nra : ra' ≠ ra := fun q => hji (nd_ix nd (hv e) (by rw [hv hi, e1, q]))
    refine ⟨z', ra', ys, e1, (fun q => nomatch q), by rw [upd_ne nra]; exact e3, by omega, keep⟩
/-- the journals that they are -/
theorem JX.jrn {d : Addr} (h : JX kvs w n H) (hd : H d = some (.dK kvs)) (hn : ∀ j, n j ≤ 8) (nk : (kvs.map (·.1)).Nodup) (hl : kvs.length ≤ 8) : ∃ J, JrnS H d J ∧ Bnd J ∧ J.length = kvs.length := by
  have key : ∀ (ks : List (L2.Key × V)), (∀ kv ∈ ks, ∃ (z : Int) (rs : List Run), kv.1 = Sum.inl z ∧ RunsAt H kv.2 rs ∧ rs.length ≤ 8 ∧ ∀ r ∈ rs, r.length ≤ 100) → ∃ J : Jrn, Paired (fun (kv : L2.Key × V) (j : Int × List Run) => kv.1 = Sum.inl j.1 ∧ RunsAt H kv.2 j.2) ks J ∧ ∀ j ∈ J, j.2.length ≤ 8 ∧ ∀ r ∈ j.2, r.length ≤ 100 := by
    intro ks
    induction ks with
    | nil => exact fun _ => ⟨[], .nil, fun j hj => nomatch hj⟩
    | cons kv ks ih =>
      intro hks
      obtain ⟨J, h1, h2⟩ := ih fun kv hkv => hks kv (List.mem_cons_of_mem _ hkv)
      obtain ⟨z, rs, e1, e2, e3, e4⟩ := hks kv List.mem_cons_self
      exact ⟨(z, rs) :: J, .cons ⟨e1, e2⟩ h1, fun j hj => (List.mem_cons.mp hj).elim (fun q => by rw [q]; exact ⟨e3, e4⟩) (h2 j)⟩
  have runs : ∀ xs : List V, (∀ v ∈ xs, ∃ r, RunAt H v r ∧ r.length ≤ 100) → ∃ rs : List Run, Paired (RunAt H) xs rs ∧ ∀ r ∈ rs, r.length ≤ 100 := by
    intro xs
    induction xs with
    | nil => exact fun _ => ⟨[], .nil, fun r hr => nomatch hr⟩
    | cons x xs ih =>
      intro hx
      obtain ⟨rs, h1, h2⟩ := ih fun v hv => hx v (List.mem_cons_of_mem _ hv)
      obtain ⟨r, e1, e2⟩ := hx x List.mem_cons_self
      exact ⟨r :: rs, .cons e1 h1, fun r' hr' => (List.mem_cons.mp hr').elim (fun q => by rw [q]; exact e2) (h2 r')⟩
  obtain ⟨J, h1, h2⟩ := key kvs fun kv hkv => by
    obtain ⟨j, hj, e⟩ := List.getElem_of_mem hkv
    obtain ⟨z, ra, xs, e1, _, e3, e4, e5⟩ := h j kv (by rw [List.getElem?_eq_getElem hj, e])
    obtain ⟨rs, p1, p2⟩ := runs xs fun v hv => (e5 v hv).2.2
    refine ⟨z, rs, by rw [e1], ⟨ra, xs, by rw [e1], e3, p1⟩, ?_, p2⟩
    have := p1.length
    have := hn j
    omega
  have hlen := h1.length
  refine ⟨J, ⟨kvs, hd, h1⟩, ⟨by omega, ?_, h2⟩, hlen.symm⟩
  rw [kvs_keys h1] at nk
  exact Iff.mp (by rw [List.Nodup, List.pairwise_map]; exact ⟨fun z => z.imp fun q w => q (by rw [w]), fun z => z.imp fun q w => q (Sum.inl.inj w)⟩) nk
end
section
variable {K : PySem.W.Frag} {R : Hp → Hp → Prop} {G : Hp → Prop} [Rl R G] {σ : L2.St} {H : Hp} {te ta tb : TE} {tr : TA} {tz tu : TS} {D : Ends} {P : V → Hp → Prop}
def leN (N : Nat) : V → Hp → Prop := fun v _ => ∃ n : Nat, v = .int n ∧ n ≤ N
theorem s_forR1B {N j : Nat} (h : Dv R G te σ H (leN N)) (g : G H) (k : ∀ (n : Nat) H1, n ≤ N → R H H1 → G H1 → tFor (iRng1 (tCons (tC (.int n)) tNil)) (gName j) tu D σ H1) : tFor (iRng1 (tCons te tNil)) (gName j) tu D σ H :=
  h H (Rl.rf G H) g _ fun v H1 r g1 ⟨n, e, hn⟩ => by subst e; exact k n H1 hn r g1
theorem q_forR1B {N j : Nat} (h : Dv R G te σ H (leN N)) (g : G H) (k : ∀ (n : Nat) H1, n ≤ N → R H H1 → G H1 → tSeq (tFor (iRng1 (tCons (tC (.int n)) tNil)) (gName j) tu) tz D σ H1) : tSeq (tFor (iRng1 (tCons te tNil)) (gName j) tu) tz D σ H :=
  h H (Rl.rf G H) g _ fun v H1 r g1 ⟨n, e, hn⟩ => by subst e; exact k n H1 hn r g1
/-- l.append(what a property tells) -/
theorem s_appB {l : Addr} {xs : List V} (hl : H l = some (.lst xs)) (ha : Ev ta σ H (.ref l)) (h : Dv R G te σ H P) (g : G H) (hz : xs.length < 100000) (k : ∀ v H1, R H H1 → G H1 → P v H1 → H1 l = some (.lst xs) → D.nx σ (upd H1 l (.lst (xs ++ [v])))) :
    tDrop (tBM K "list" rAppend ta (tCons te tNil)) D σ H := ha H (Ex.refl H) _ fun H1 e1 =>
  ⟨Or.inl ⟨rfl, xs, sq_of (e1 l _ hl)⟩, h H1 (rl_ex R g e1).1 (rl_ex R g e1).2 _ fun v H2 r2 g2 p2 => by
    have h2 : H2 l = some (.lst xs) := (Rl.st (rl_ex R g e1).2 r2).lst _ _ (e1 _ _ hl)
    exact ⟨l, xs, v, rfl, rfl, h2, sz_lt hz, k v H2 (Rl.tr G (rl_ex R g e1).1 r2) g2 p2 h2⟩⟩
theorem dv_eqI {n : Nat} {j : Int} (h : Dv R G te σ H (isN n)) : Dv R G (tOp rEq te (tC (.int j))) σ H (fun v _ => ∃ b, v = .bl b) :=
  dv_op h (dv_ev (v := .int j) fun _ _ _ => ev_c) (fun _ _ _ _ _ z => z) fun x y H1 _ _ ⟨i, ex, _⟩ ey => by
    subst ex ey
    exact ⟨_, rv_eq rfl, fun _ _ => ⟨_, rfl⟩⟩
end
end Lr
set_option Elab.async false
set_option linter.all false
set_option maxRecDepth 100000
set_option maxHeartbeats 4000000
namespace Lr
open PySem L2 Evl
theorem val_at {k : L2.Key} {v : V} : ∀ {kvs : List (L2.Key × V)} {i : Nat}, (kvs.map (·.1)).Nodup → kvs[i]? = some (k, v) → valV kvs k = some v
  | p :: r, 0, _, h => by
    cases h
    exact valV_pos rfl
  | p :: r, i + 1, hn, h => by
    rw [List.map_cons, List.nodup_cons] at hn
    have h : r[i]? = some (k, v) := h
    rw [valV_neg fun e => hn.1 (by rw [e]; exact List.mem_map.mpr ⟨_, List.mem_of_getElem? h, rfl⟩)]
    exact val_at hn.2 h
theorem cutHead (xs : List V) (k : Nat) : cutV xs none (some (k : Int)) = xs.take k := by
  have h1 : HT.sIx xs.length xs.length (some (k : Int)) = min k xs.length := HT.sIx_nat _ _ k
  unfold cutV
  rw [h1]
  show (xs.drop 0).take (min k xs.length - 0) = _
  rw [List.drop_zero, Nat.sub_zero, List.take_eq_take_iff]
  omega
section
variable {K : PySem.W.Frag} {σ : L2.St} {H : Hp} {tp tn tm ta tk te : TE} {tz tu : TS} {D : Ends}
theorem dv_go {R : Hp → Hp → Prop} {G : Hp → Prop} [Rl R G] {P : V → Hp → Prop} {Q : VK} (h : Dv R G te σ H P) (g : G H) (k : ∀ v H1, R H H1 → G H1 → P v H1 → Q v H1) : te σ H Q := h H (Rl.rf G H) g Q k
theorem tc_dv {R : Hp → Hp → Prop} {G : Hp → Prop} [Rl R G] {P : V → Hp → Prop} {x : V} {Q : V → VK} (h : Dv R G te σ H P) (g : G H) (k : ∀ v H1, R H H1 → G H1 → P v H1 → Q x v H1) : tC x σ H (fun x' H1 => te σ H1 (Q x')) := h H (Rl.rf G H) g _ k
theorem dv_intB {R : Hp → Hp → Prop} {G : Hp → Prop} [Rl R G] (h : Dv R G te σ H (fun v _ => ∃ b, v = .bl b)) : Dv R G (tCB (fun xs H Q => (∃ i, xs = [.int i] ∧ Q (.int i) H) ∨ ∃ k, xs = [.bl k] ∧ Q (.int (if k then 1 else 0)) H) (tCons te tNil)) σ H (fun v _ => ∃ b : Bool, v = .int (if b then 1 else 0)) :=
  dv_cb1 h fun x H1 _ _ ⟨b, e⟩ => ⟨.int (if b then 1 else 0), fun H2 e2 Q k => .inr ⟨b, by rw [e], k H2 (Ex.refl _)⟩, fun H2 _ => ⟨b, rfl⟩⟩
theorem dv_pool {p c : Addr} {m : Nat} (hp : ∀ H1, Ev tp σ H1 (.ref p)) (hn : Dv (But p) (PkAt p c) tn σ H (fun v _ => ∃ n : Nat, v = .int n ∧ 2 ≤ n ∧ n ≤ 8)) (hm : ∀ H1, Ev tm σ H1 (.int m)) (m0 : 0 < m) (m1 : m ≤ 256) :
    Dv (But p) (PkAt p c) (tCall spPool [] E0 (tCons tp (tCons tn (tCons tm tNil)))) σ H (fun v H' => ∃ a xs, v = .ref a ∧ H' a = some (.lst ((xs : List Int).map V.int)) ∧ 2 ≤ xs.length ∧ xs.length ≤ 8 ∧ ∀ x ∈ xs, 0 ≤ x ∧ x < 256) := fun H1 r1 g1 Q q =>
  hp H1 H1 (Ex.refl _) _ fun H2 e2 => hn H2 (r1.trans (But.of_ex e2)) (PkAt.ex g1 e2) _ fun v H3 b3 g3 ⟨n, ev, n0, n1⟩ => hm H3 H3 (Ex.refl _) _ fun H4 e4 => by
    subst ev
    refine ⟨p, c, n, m, rfl, PkAt.ex g3 e4, n1, m0, m1, fun a xs H5 _ b5 g5 h5 hl hx => ?_⟩
    exact q _ H5 ((But.of_ex e2).trans (b3.trans ((But.of_ex e4).trans b5))) g5 ⟨a, xs, rfl, h5, by omega, by omega, fun x hx' => ⟨(hx x hx').1, by have := (hx x hx').2; omega⟩⟩
theorem dv_slHead {p c a : Addr} {ps : List Int} (g : PkAt p c H) (ha : ∀ H1, Ev ta σ H1 (.ref a)) (hl : H a = some (.lst (ps.map V.int))) (hk : Dv (But p) (PkAt p c) tk σ H (fun v _ => ∃ k : Nat, v = .int k ∧ 1 ≤ k ∧ k ≤ ps.length)) :
    Dv (But p) (PkAt p c) (tSl (rSlL K) ta tNoPart (tPart tk)) σ H (fun v H' => ∃ b k, v = .ref b ∧ H' b = some (.lst ((ps.take k).map V.int)) ∧ 1 ≤ k ∧ k ≤ ps.length) := fun H1 r1 g1 Q q =>
  ha H1 H1 (Ex.refl _) _ fun H2 e2 => hk H2 (r1.trans (But.of_ex e2)) (PkAt.ex g1 e2) _ fun v H3 b3 g3 ⟨k, ev, k0, k1⟩ => by
    subst ev
    have b13 := (But.of_ex e2).trans b3
    refine ⟨(k : Int), rfl, a, ps.map V.int, rfl, sq_of (((rlP p c).st g (r1.trans b13)).lst _ _ hl), fun b hb => ?_⟩
    refine q _ _ (b13.trans (But.of_ex (Ex.new hb))) (PkAt.ex g3 (Ex.new hb)) ⟨b, k, rfl, ?_, k0, k1⟩
    rw [upd_same, cutHead, List.map_take]
theorem q_forB {R : Hp → Hp → Prop} {G : Hp → Prop} [Rl R G] {P : V → Hp → Prop} {j : Nat} (h : Dv R G te σ H P) (g : G H) (k : ∀ v H1, R H H1 → G H1 → P v H1 → tSeq (tFor (iList K (tC v)) (gName j) tu) tz D σ H1) : tSeq (tFor (iList K te) (gName j) tu) tz D σ H := h H (Rl.rf G H) g _ k
theorem dv_entry {p c sc pl d u : Addr} {o : Int} {ps : List Int} {J : Jrn} {lo : Int} {cm : Bool} {r : Run} {t : TA} (h : ∀ H1, EvA t σ H1 [.ref p, .ref sc, .int o, .ref u]) (G : Giv p c sc pl d u ps J lo cm r H) : Dv (But p) (PkAt p c) (tCall (spEnt fun _ => True) [] E0 t) σ H EntP := fun H1 b1 g1 Q q =>
  h H1 H1 (Ex.refl _) _ fun H2 e2 => ⟨p, c, sc, pl, d, u, o, ps, J, lo, cm, r, rfl, (G.but b1 g1).ex e2, trivial, fun v H3 b3 g3 he => q v H3 ((But.of_ex e2).trans b3) g3 he⟩
theorem el_listKV {d : Addr} {kvs : List (L2.Key × V)} (he : Ev te σ H (.ref d)) (hd : H d = some (.dK kvs)) : EvL (tCB rListK (tCons te tNil)) σ H (kvs.map fun kv : L2.Key × V => kV kv.1) :=
  el_cb (ea_cons he ea_nil) fun H1 e1 Q k => ⟨d, kvs, rfl, .inl (e1 _ _ hd), fun p hp => k p _ hp (Ex.new hp) upd_same⟩
end
theorem scn_merge (pl d : Addr) (lo : Int) (cm : Bool) : mergeK [] (scn pl d lo cm) = scn pl d lo cm := rfl
/-- the fixed part of a scene under construction -/
structure Si (p c sc pl d l : Addr) (ps : List Int) (kvs : List (L2.Key × V)) (ls : List V) (lo : Int) (cm : Bool) (H : Hp) : Prop where
  pk : PkAt p c H
  sc : H sc = some (.dK (scn pl d lo cm))
  pl : H pl = some (.lst (ps.map V.int))
  d : H d = some (.dK kvs)
  l : H l = some (.lst ls)
section
variable {p c sc pl d l : Addr} {ps : List Int} {kvs : List (L2.Key × V)} {ls : List V} {lo : Int} {cm : Bool} {H H' : Hp}
theorem Si.ex (h : Si p c sc pl d l ps kvs ls lo cm H) (e : Ex H H') : Si p c sc pl d l ps kvs ls lo cm H' := ⟨h.pk.ex e, e _ _ h.sc, e _ _ h.pl, e _ _ h.d, e _ _ h.l⟩
theorem Si.but (h : Si p c sc pl d l ps kvs ls lo cm H) (b : But p H H') (g : PkAt p c H') (n1 : sc ≠ p) (n2 : d ≠ p) : Si p c sc pl d l ps kvs ls lo cm H' := by
  have s : Stay H H' := (rlP p c).st h.pk b
  exact ⟨g, b _ _ h.sc n1, s.lst _ _ h.pl, b _ _ h.d n2, s.lst _ _ h.l⟩
theorem Si.updL {a : Addr} {xs ys : List V} (h : Si p c sc pl d l ps kvs ls lo cm H) (ha : H a = some (.lst xs)) (n1 : a ≠ c) (n2 : a ≠ pl) (n3 : a ≠ l) : Si p c sc pl d l ps kvs ls lo cm (upd H a (.lst ys)) := by
  have np : a ≠ p := by
    obtain ⟨kvs, hk⟩ := h.pk.dK
    exact ne_of ha hk fun q => nomatch q
  exact ⟨h.pk.upd np n1, by rw [upd_ne (ne_of h.sc ha fun q => nomatch q)]; exact h.sc, by rw [upd_ne n2.symm]; exact h.pl, by rw [upd_ne (ne_of h.d ha fun q => nomatch q)]; exact h.d, by rw [upd_ne n3.symm]; exact h.l⟩
end
section
variable {P : Program} {w : World} {K : PySem.W.Frag} {mg : Str → Option Value} {base : Heap} {aM aS aO aB aE : Addr} {f : Addr} {fd : FuncData}
/-! ### _law_scene -/
def spScene : Sp := fun vs H Q _ => ∃ (p c : Addr), vs = [.ref p] ∧ PkAt p c H ∧ ∀ (sc pl d : Addr) (ps : List Int) (J : Jrn) (lo : Int) (cm : Bool) H', PkAt p c H' → Scn p sc pl d ps J lo cm H' → J ≠ [] → Q (.ref sc) H'
theorem sc_law_scene : FnScope ["_law_pack_here", "_law_span", "_law_pool_here", "_law_journals", "_law_seat", "_law_lowest", "_law_scene_here", "_law_more", "_law_owner", "_law_runs", "_law_turn", "_law_run", "_law_k"] ["_law_pack_here"] (defScope (top 37)) := ⟨rfl, rfl, rfl, by decide +kernel, rfl, by decide +kernel, by decide +kernel⟩
theorem ok_law_scene {f1 f2 f3 : Addr} {fd1 fd2 fd3 : FuncData} (F : FnP K "_law_scene" (top 37) f fd) (T : Tx K w mg aM aS aO aB) (c_law_draw : Cal P w K mg base "_law_draw" 1 ["_law_pack_here", "_law_many"] spDraw f1 fd1)
    (c_law_pool : Cal P w K mg base "_law_pool" 2 ["_law_pack_here", "_law_count", "_law_span"] spPool f2 fd2) (c_law_entry : Cal P w K mg base "_law_entry" 7 ["_law_pack_here", "_law_scene_here", "_law_owner", "_law_run"] (spEnt fun _ => True) f3 fd3) : FnOk P w K mg base CX0 8 f fd ["_law_pack_here"] spScene := by
  refine F.ok sc_law_scene (fun vs H Q E h => ?_) (fun cdv A outer s H vs Q E hr h => ?_)
  · obtain ⟨p, c, rfl, _⟩ := h
    rfl
  · obtain ⟨p, c, rfl, hp, q⟩ := h
    have hu := hu_of hr
    refine ⟨_, PSs.nox (pss_cons (ps_set (i := 1) sc_law_scene.nd rfl (Or.inl rfl) (pe_ix ix_list (pe_lst (pa_cons pe_int (pa_cons pe_int pa_nil))) (pe_cal c_law_draw (hr.mono (by decide)) (by rfl) (pa_cons (pv 0) (pa_cons pe_int pa_nil))) (fun _ _ => rfl)))
      (pss_cons (ps_set (i := 2) sc_law_scene.nd rfl (Or.inl rfl) (pe_cal c_law_pool (hr.mono (by decide)) (by rfl) (pa_cons (pv 0) (pa_cons (pe_op op_add pe_int (pe_cal c_law_draw (hr.mono (by decide)) (by rfl) (pa_cons (pv 0) (pa_cons pe_int pa_nil)))) (pa_cons (pv 1) pa_nil)))))
      (pss_cons (ps_set (i := 3) sc_law_scene.nd rfl (Or.inl rfl) pe_dnewK)
      (pss_cons (ps_for PassesOwn.never rfl (pi_list (pe_slice sl_list (pv 2) po_none (po_some (pe_op op_add pe_int (pe_cal c_law_draw (hr.mono (by decide)) (by rfl) (pa_cons (pv 0) (pa_cons (pe_callB call_len_seq (by rfl) T.len PySem.boot_len (pa_cons (pv 2) pa_nil)) pa_nil))))))) (pg_name (i := 4) sc_law_scene.nd rfl (Or.inl rfl))
        (pss_one (ps_dput hu (pv 3) (pv 4) (pe_lst pa_nil) rfl)))
      (pss_cons (ps_set (i := 5) sc_law_scene.nd rfl (Or.inl rfl) (pe_ix ix_list (pe_lst (pa_cons pe_int (pa_cons pe_int (pa_cons (pe_op op_pow pe_int pe_int) (pa_cons (pe_op op_pow pe_int pe_int) pa_nil))))) (pe_cal c_law_draw (hr.mono (by decide)) (by rfl) (pa_cons (pv 0) (pa_cons pe_int pa_nil))) (fun _ _ => rfl)))
      (pss_cons (ps_set (i := 6) sc_law_scene.nd rfl (Or.inl rfl) (pe_disp (pps_cons pe_str (pv 2) (pps_cons pe_str (pv 3) (pps_cons pe_str (pv 5) (pps_cons pe_str (pe_cmpR op_eq (pe_cal c_law_draw (hr.mono (by decide)) (by rfl) (pa_cons (pv 0) (pa_cons pe_int pa_nil))) pe_int (nomark _)) pps_nil)))) (by rfl) (by rfl) (fun z => by cases z) (by decide)))
      (pss_cons (ps_set (i := 7) sc_law_scene.nd rfl (Or.inl rfl) (pe_op op_mul pe_int (pe_callTy call_int1 (by rfl) T.int (by decide +kernel) (pa_cons (pe_cmpR op_eq (pe_cal c_law_draw (hr.mono (by decide)) (by rfl) (pa_cons (pv 0) (pa_cons pe_int pa_nil))) pe_int (nomark _)) pa_nil))))
      (pss_cons (ps_for PassesOwn.never rfl (pi_list (pe_callTy (call_listD rfl) (by rfl) T.list (by decide +kernel) (pa_cons (pv 3) pa_nil))) (pg_name (i := 8) sc_law_scene.nd rfl (Or.inl rfl))
        (pss_cons (ps_set (i := 9) sc_law_scene.nd rfl (Or.inl rfl) (pe_dget hu (pv 3) (pv 8) (fun _ _ => rfl)))
        (pss_one (ps_for PassesOwn.never rfl (pi_range1 rfl T.range (pa_cons (pe_cal c_law_draw (hr.mono (by decide)) (by rfl) (pa_cons (pv 0) (pa_cons pe_int pa_nil))) pa_nil)) (pg_name (i := 10) sc_law_scene.nd rfl (Or.inl rfl))
          (pss_cons (ps_set (i := 11) sc_law_scene.nd rfl (Or.inl rfl) (pe_lst pa_nil))
          (pss_cons (ps_for PassesOwn.never rfl (pi_range1 rfl T.range (pa_cons (pe_op op_add (pe_cal c_law_draw (hr.mono (by decide)) (by rfl) (pa_cons (pv 0) (pa_cons pe_int pa_nil))) (pv 7)) pa_nil)) (pg_name (i := 12) sc_law_scene.nd rfl (Or.inl rfl))
            (pss_one (ps_expr (pe_bm PySem.F.plainAttrs_list PySem.F.slot_list_append PySem.F.type_list_append mt_append (pv 11) (pa_cons (pe_cal c_law_entry (hr.mono (by decide)) (by rfl) (pa_cons (pv 0) (pa_cons (pv 6) (pa_cons (pv 8) (pa_cons (pv 11) pa_nil))))) pa_nil)))))
          (pss_cons (ps_expr (pe_bm PySem.F.plainAttrs_list PySem.F.slot_list_append PySem.F.type_list_append mt_append (pv 9) (pa_cons (pv 11) pa_nil)))
          (pss_one (ps_set (i := 7) sc_law_scene.nd rfl (Or.inl rfl) pe_int)))))))))
      (pss_one (ps_ret (pv 6))))))))))), ?_⟩
    refine q_asgB (dv_ixM (n := 2) (xs := [.int 256, .int 12]) (fun _ _ _ => el_lst (ea_cons ev_c (ea_cons ev_c ea_nil)) (by show 2 ≤ 100000; decide)) (dv_draw (p := p) (c := c) 2 (fun _ _ _ => ev_var rfl) (fun _ _ _ => ev_c) (by decide) (by decide)) (Nat.le_refl _)) hp ?_
    rintro v H1 b1 g1 hm
    obtain ⟨m, rfl, m0, m1⟩ : ∃ m : Nat, v = .int m ∧ 0 < m ∧ m ≤ 256 := mem2 (Q := fun v => ∃ m : Nat, v = .int m ∧ 0 < m ∧ m ≤ 256) hm ⟨256, rfl, by decide, by decide⟩ ⟨12, rfl, by decide, by decide⟩
    refine q_asgB (dv_pool (p := p) (c := c) (m := m) (fun _ => ev_var rfl) (dv_op (dv_ev (v := .int 2) fun _ _ _ => ev_c) (dv_draw (p := p) (c := c) 5 (fun _ _ _ => ev_var rfl) (fun _ _ _ => ev_c) (by decide) (by decide)) (fun _ _ _ _ _ z => z) fun x y H3 _ _ ex ⟨i, ey, hi⟩ => ?_) (fun _ => ev_var rfl) m0 m1) g1 ?_
    · subst ex ey
      exact ⟨_, rv_I0, fun _ _ => ⟨2 + i, by congr 1, by omega, by omega⟩⟩
    rintro v H2 b2 g2 ⟨pl, ps, rfl, hpl, l0, l1, pp⟩
    refine q_newK fun d H3 nd e3 hd => ?_
    have g3 := g2.ex e3
    have hpl3 := e3 _ _ hpl
    have ndp : d ≠ p := by
      obtain ⟨_, hk⟩ := PkAt.dK g2
      exact (ne_of_none hk nd).symm
    refine q_forB (dv_slHead (p := p) (c := c) (a := pl) (ps := ps) g3 (fun _ => ev_var rfl) hpl3 (dv_op (dv_ev (v := .int 1) fun _ _ _ => ev_c) (dv_draw (p := p) (c := c) ps.length (fun _ _ _ => ev_var rfl) (fun H4 b4 _ => ev_is (ev_len (ev_var rfl) (sq_of (((rlP p c).st g3 b4).lst _ _ hpl3))) (by rw [List.length_map])) (by omega) (by omega)) (fun _ _ _ _ _ z => z) fun x y H3 _ _ ex ⟨i, ey, hi⟩ => ?_)) g3 ?_
    · subst ex ey
      exact ⟨_, rv_I0, fun _ _ => ⟨1 + i, by congr 1, by omega, by omega⟩⟩
    rintro v H4 b4 g4 ⟨b, k, rfl, hb, k0, k1⟩
    have hpl4 := ((rlP p c).st g3 b4).lst _ _ hpl3
    have hd4 := b4 _ _ hd ndp
    have hkl : ((ps.take k).map V.int).length = k := by rw [List.length_map, List.length_take]; omega
    refine q_forLn (xs := (ps.take k).map V.int) ev_c (sq_of hb)
      (fun i σ' H' => (∃ x4, σ' = [some (.ref p), some (.int m), some (.ref pl), some (.ref d), x4, none, none, none, none, none, none, none, none]) ∧ PkAt p c H' ∧ H' pl = some (.lst (ps.map V.int)) ∧ H' b = some (.lst ((ps.take k).map V.int)) ∧
        ∃ kvs : List (L2.Key × V), H' d = some (.dK kvs) ∧ (kvs.map (·.1)).Nodup ∧ (kvs.map (·.2)).Nodup ∧ kvs.length ≤ i ∧ (0 < i → kvs ≠ []) ∧ ∀ kv ∈ kvs, ∃ (z : Int) (ra : Addr), kv = (Sum.inl z, .ref ra) ∧ H' ra = some (.lst []) ∧ ra ≠ pl ∧ ra ≠ c)
      (fun H5 e5 => ⟨⟨_, rfl⟩, PkAt.ex g4 e5, e5 _ _ hpl4, e5 _ _ hb, [], e5 _ _ hd4, .nil, .nil, Nat.le_refl _, fun z => absurd z (by decide), fun kv h => nomatch h⟩) (fun i σ' H' _ h => sq_of h.2.2.2.1) ?_ ?_
    · rintro i x σ' H5 hx ⟨⟨x4, rfl⟩, g5, hpl5, hb5, kvs, hd5, nk, nv, hlen, hne, hkv⟩
      have hi : i < k := by
        have := (List.getElem?_eq_some_iff.mp hx).1
        omega
      obtain ⟨z, _, rfl⟩ := List.mem_map.mp (List.mem_of_getElem? hx)
      refine s_dputP (a := d) (P := fun v H' => ∃ ra, v = .ref ra ∧ H' ra = some (.lst []) ∧ H5 ra = none) (fun H6 e6 Q' k' => el_lst ea_nil (by decide) H6 e6 _ fun ra H7 nra e7 hra => k' _ H7 e7 ⟨ra, rfl, hra, fresh_back e6 nra⟩) (ev_var rfl) (ev_var rfl) (fun v H6 H7 ⟨ra, e, h1, h2⟩ e7 => ⟨ra, e, e7 _ _ h1, h2⟩) ?_
      rintro v H6 e6 ⟨ra, rfl, hra, nra⟩
      refine ⟨_, DPut.k (k := Sum.inl z) (e6 _ _ hd5) (sz_lt (by omega)), ?_⟩
      have hc5 : ∃ xs, H5 c = some (.lst xs) := by
        obtain ⟨ns, _, _, _, _, _, hc, _⟩ := g5
        exact ⟨_, hc⟩
      obtain ⟨xsc, hc5⟩ := hc5
      have nm : V.ref ra ∉ kvs.map (·.2) := fun hm => by
        obtain ⟨kv, hkv', e⟩ := List.mem_map.mp hm
        obtain ⟨z', ra', e', h', _⟩ := hkv kv hkv'
        rw [e'] at e
        have e := V.ref.inj e
        rw [e, nra] at h'
        cases h'
      obtain ⟨n1, n2, n3⟩ := put_nd (k := Sum.inl z) nk nv nm
      have st6 : ∀ {a : Addr} {xs : List V}, H6 a = some (.lst xs) → (upd H6 d (.dK (putK kvs (Sum.inl z) (.ref ra)))) a = some (.lst xs) := fun {a xs} h => by rw [upd_ne (ne_of h (e6 _ _ hd5) fun q => nomatch q)]; exact h
      refine ⟨⟨_, rfl⟩, (PkAt.ex g5 e6).upd ndp (ne_of (e6 _ _ hc5) (e6 _ _ hd5) fun q => nomatch q).symm, st6 (e6 _ _ hpl5), st6 (e6 _ _ hb5), _, upd_same, n1, n2, by have := length_putK kvs (Sum.inl z) (.ref ra); omega, fun _ => n3, fun kv hkv' => ?_⟩
      rcases put_mem hkv' with h | h
      · obtain ⟨z', ra', e', h', h''⟩ := hkv kv h
        exact ⟨z', ra', e', st6 (e6 _ _ h'), h''⟩
      · exact ⟨z, ra, h, st6 hra, (ne_of_none hpl5 nra).symm, (ne_of_none hc5 nra).symm⟩
    rintro σ' H5 ⟨⟨x4, rfl⟩, g5, hpl5, _, kvs, hd5, nk, nv, hlen, hne, hkv⟩
    rw [hkl] at hlen hne
    have hne := hne (by omega)
    have jx5 : JX kvs .non (fun _ => 0) H5 := fun j kv e => by
      obtain ⟨z, ra, e1, e2, _⟩ := hkv kv (List.mem_of_getElem? e)
      exact ⟨z, ra, [], e1, (fun q => nomatch q), e2, Nat.le_refl _, fun v hv => nomatch hv⟩
    have far : ∀ {i : Nat} {z : Int} {ra : Addr}, kvs[i]? = some (Sum.inl z, .ref ra) → ra ≠ pl ∧ ra ≠ c := fun {i z ra} e => by
      obtain ⟨z', ra', e1, _, e2⟩ := hkv _ (List.mem_of_getElem? e)
      cases e1
      exact e2
    refine q_asgB (dv_ixM (n := 4) (xs := ([0, 0, 10 ^ 9, 10 ^ 55] : List Int).map V.int) (fun _ _ _ => el_lst (ea_cons ev_c (ea_cons ev_c (ea_cons (ev_op ev_c ev_c (rv_I ⟨by decide, by decide, by decide⟩)) (ea_cons (ev_op ev_c ev_c (rv_I ⟨by decide, by decide, by decide⟩)) ea_nil)))) (by show 4 ≤ 100000; decide)) (dv_draw (p := p) (c := c) 4 (fun _ _ _ => ev_var rfl) (fun _ _ _ => ev_c) (by decide) (by decide)) (Nat.le_refl _)) g5 ?_
    rintro v H6 b6 g6 hm
    obtain ⟨lo, hlo, rfl⟩ := List.mem_map.mp hm
    have hlo : 0 ≤ lo ∧ lo ≤ 10 ^ 55 := by
      have : ∀ x ∈ ([0, 0, 10 ^ 9, 10 ^ 55] : List Int), 0 ≤ x ∧ x ≤ 10 ^ 55 := by decide +kernel
      exact this lo hlo
    have s56 : Stay H5 H6 := (rlP p c).st g5 b6
    have hpl6 := s56.lst _ _ hpl5
    have hd6 := b6 _ _ hd5 ndp
    have jx6 := jx5.st s56
    intro sc nsc
    have e7 : Ex H6 (upd H6 sc (.dK [])) := Ex.new nsc
    have nscp : sc ≠ p := by
      obtain ⟨_, hk⟩ := PkAt.dK g6
      exact (ne_of_none hk nsc).symm
    have nscc : sc ≠ c := by
      obtain ⟨ns, _, _, _, _, _, hc, _⟩ := id g6
      exact (ne_of_none hc nsc).symm
    have nscd : sc ≠ d := (ne_of_none hd6 nsc).symm
    refine ⟨.ref pl, rfl, .ref d, rfl, .int lo, rfl, ?_⟩
    refine tc_dv (dv_eqI (dv_draw (p := p) (c := c) 4 (fun _ _ _ => ev_var rfl) (fun _ _ _ => ev_c) (by decide) (by decide))) (PkAt.ex g6 e7) ?_
    rintro v H8 b8 g8 ⟨cm, rfl⟩
    have hsc8 := b8 _ _ upd_same nscp
    refine ⟨hsc8, scn pl d lo cm, rfl, (show 4 ≤ 15 by decide), ?_⟩
    rw [scn_merge]
    have g9 : PkAt p c (upd H8 sc (.dK (scn pl d lo cm))) := PkAt.upd g8 nscp nscc
    have s89 : Stay H8 (upd H8 sc (.dK (scn pl d lo cm))) := ⟨fun b xs h => by rw [upd_ne (ne_of h hsc8 fun q => nomatch q)]; exact h, fun b xs h => by rw [upd_ne (ne_of h hsc8 fun q => nomatch q)]; exact h⟩
    have s78 : Stay (upd H6 sc (.dK [])) H8 := (rlP p c).st (PkAt.ex g6 e7) b8
    have hpl9 := s89.lst _ _ (s78.lst _ _ (e7 _ _ hpl6))
    have hd9 : (upd H8 sc (.dK (scn pl d lo cm))) d = some (.dK kvs) := by rw [upd_ne nscd.symm]; exact b8 _ _ (e7 _ _ hd6) ndp
    have jx9 := ((jx6.st (stay_ex e7)).st s78).st s89
    have hsc9 : (upd H8 sc (.dK (scn pl d lo cm))) sc = some (.dK (scn pl d lo cm)) := upd_same
    revert g9 hpl9 hd9 jx9 hsc9
    generalize upd H8 sc (.dK (scn pl d lo cm)) = H9
    intro g9 hpl9 hd9 jx9 hsc9
    refine q_asgB (dv_op (P := leN 40) (dv_ev (v := .int 40) fun _ _ _ => ev_c) (dv_intB (dv_eqI (dv_draw (p := p) (c := c) 8 (fun _ _ _ => ev_var rfl) (fun _ _ _ => ev_c) (by decide) (by decide)))) (fun _ _ _ _ _ z => z) fun x y H3 _ _ ex ⟨b, ey⟩ => ?_) g9 ?_
    · subst ex ey
      refine ⟨_, rv_I (.inl ⟨by decide, by decide⟩), fun _ _ => ?_⟩
      cases b
      · exact ⟨0, rfl, by decide⟩
      · exact ⟨40, rfl, by decide⟩
    rintro v H10 b10 g10 ⟨mo, rfl, hmo⟩
    have s10 : Stay H9 H10 := (rlP p c).st g9 b10
    have jx10 := jx9.st s10
    have hd10 := b10 _ _ hd9 ndp
    refine q_forNLn (xs := kvs.map fun kv : L2.Key × V => kV kv.1) (el_listKV (ev_var rfl) hd10)
      (fun l i σ' H' => (∃ (mo : Nat) (x8 x9 x10 x11 x12 : Option V), σ' = [some (.ref p), some (.int m), some (.ref pl), some (.ref d), x4, some (.int lo), some (.ref sc), some (.int mo), x8, x9, x10, x11, x12] ∧ mo ≤ 40) ∧ Si p c sc pl d l ps kvs (kvs.map fun kv : L2.Key × V => kV kv.1) lo cm H' ∧ (∀ {i : Nat} {z : Int} {ra : Addr}, kvs[i]? = some (Sum.inl z, .ref ra) → ra ≠ l) ∧ JX kvs .non (fun j => if j < i then 3 else 0) H')
      (fun l H11 nl e11 hl => ⟨⟨mo, _, _, _, _, _, rfl, hmo⟩, ⟨PkAt.ex g10 e11, e11 _ _ (b10 _ _ hsc9 nscp), e11 _ _ (s10.lst _ _ hpl9), e11 _ _ hd10, hl⟩, fun {i z ra} e => ?_, (jx10.st (stay_ex e11)).mono fun j => Nat.zero_le _⟩) (fun l i σ' H' _ h => sq_of h.2.1.l) ?_ ?_
    · obtain ⟨z', ra', xs', e1, _, e3, _⟩ := jx10 i _ e
      cases e1
      exact ne_of_none e3 nl
    · rintro l i x σ' H11 hx ⟨⟨mo, x8, x9, x10, x11, x12, rfl, hmo⟩, S, farl, jx⟩
      rw [List.getElem?_map] at hx
      obtain ⟨kv, hkvi, rfl⟩ := Option.map_eq_some_iff.mp hx
      obtain ⟨z, ra, xs0, e0, _, hra0, hlen0, _⟩ := jx i kv hkvi
      subst e0
      have hi8 : i < 8 := by
        have := (List.getElem?_eq_some_iff.mp hkvi).1
        omega
      have far' := far hkvi
      have farl' := farl hkvi
      refine q_asg (ev_dget (ev_var rfl) (ev_var rfl) fun H12 e12 => (by rw [← val_at nk hkvi]; exact DGet.k (k := Sum.inl z) (e12 _ _ S.d))) fun H12 e12 => ?_
      have S12 := S.ex e12
      refine s_forR1B (R := But p) (G := PkAt p c) (N := 3) (dv_imp (dv_draw (p := p) (c := c) 4 (fun _ _ _ => ev_var rfl) (fun _ _ _ => ev_c) (by decide) (by decide)) fun v H' _ ⟨i, e, hi⟩ => ⟨i, e, by omega⟩) S12.pk fun n H13 hn b13 g13 => ?_
      have S13 := S12.but b13 g13 nscp ndp
      have jx13 := (jx.st (stay_ex e12)).st ((rlP p c).st S12.pk b13)
      refine s_forR1 (n := (n : Nat)) (ea_cons ev_c ea_nil) ⟨by omega, by omega⟩
        (fun t σ' H' => (∃ (mo : Nat) (x10 x11 x12 : Option V), σ' = [some (.ref p), some (.int m), some (.ref pl), some (.ref d), x4, some (.int lo), some (.ref sc), some (.int mo), some (.int z), some (.ref ra), x10, x11, x12] ∧ mo ≤ 40) ∧ Si p c sc pl d l ps kvs (kvs.map fun kv : L2.Key × V => kV kv.1) lo cm H' ∧ JX kvs .non (fun j => if j < i then 3 else if j = i then t else 0) H')
        (fun H14 e14 => ⟨⟨mo, _, _, _, rfl, hmo⟩, S13.ex e14, (jx13.st (stay_ex e14)).mono fun j => by split <;> omega⟩) ?_ ?_
      · rintro t σ' H14 ht ⟨⟨mo, x10, x11, x12, rfl, hmo⟩, S14, jx14⟩
        refine q_asgL (el_lst ea_nil (by decide)) fun u H15 nu e15 hu15 => ?_
        have S15 := S14.ex e15
        have jx15 : JX kvs (.ref u) (fun j => if j < i then 3 else if j = i then t else 0) H15 := (jx14.fresh nu).st (stay_ex e15)
        have nupl : u ≠ pl := (ne_of_none S14.pl nu).symm
        have nul : u ≠ l := (ne_of_none S14.l nu).symm
        have nuc : u ≠ c := by
          obtain ⟨ns, _, _, _, _, _, hc, _⟩ := id S14.pk
          exact (ne_of_none hc nu).symm
        refine q_forR1B (R := But p) (G := PkAt p c) (N := 48) (dv_op (dv_draw (p := p) (c := c) 9 (fun _ _ _ => ev_var rfl) (fun _ _ _ => ev_c) (by decide) (by decide)) (dv_ev (v := .int mo) fun _ _ _ => ev_var rfl) (fun _ _ _ _ _ z => z) fun x y H3 _ _ ⟨i, ex, hi⟩ ey => ?_) S15.pk fun n2 H16 hn2 b16 g16 => ?_
        · subst ex ey
          exact ⟨_, rv_I0, fun _ _ => ⟨i + mo, by congr 1, by omega⟩⟩
        have S16 := S15.but b16 g16 nscp ndp
        have s16 : Stay H15 H16 := (rlP p c).st S15.pk b16
        have jx16 := jx15.st s16
        refine q_forR1 (n := (n2 : Nat)) (ea_cons ev_c ea_nil) ⟨by omega, by omega⟩
          (fun k σ' H' => (∃ x12 : Option V, σ' = [some (.ref p), some (.int m), some (.ref pl), some (.ref d), x4, some (.int lo), some (.ref sc), some (.int mo), some (.int z), some (.ref ra), some (.int (t : Nat)), some (.ref u), x12]) ∧ Si p c sc pl d l ps kvs (kvs.map fun kv : L2.Key × V => kV kv.1) lo cm H' ∧ JX kvs (.ref u) (fun j => if j < i then 3 else if j = i then t else 0) H' ∧ ∃ r, RunAt H' (.ref u) r ∧ r.length = k)
          (fun H17 e17 => ⟨⟨_, rfl⟩, S16.ex e17, jx16.st (stay_ex e17), [], ⟨u, rfl, e17 _ _ (s16.lst _ _ hu15), fun p hp => nomatch hp⟩, rfl⟩) ?_ ?_
        · rintro k σ' H17 hk ⟨⟨x12, rfl⟩, S17, jx17, r, hr17, hrl⟩
          obtain ⟨J, hJ, hB, hJl⟩ := jx17.jrn S17.d (fun j => by (repeat' split) <;> omega) nk (by omega)
          have Sc : Scn p sc pl d ps J lo cm H17 := ⟨S17.sc, S17.pl, hJ, hB, nscp, ndp, pp, by omega, l1, hlo.1, hlo.2⟩
          obtain ⟨u', eu, hu17, _⟩ := id hr17
          cases eu
          refine s_appB (l := u) (xs := r.map (·.1)) hu17 (ev_var rfl) (dv_entry (o := z) (fun _ => ea_cons (ev_var rfl) (ea_cons (ev_var rfl) (ea_cons (ev_var rfl) (ea_cons (ev_var rfl) ea_nil)))) ⟨S17.pk, Sc, hr17, by omega⟩) S17.pk (by rw [List.length_map]; omega) ?_
          rintro v H18 b18 g18 ⟨oe, he⟩ hu18
          have S18 := S17.but b18 g18 nscp ndp
          have s18 : Stay H17 H18 := (rlP p c).st S17.pk b18
          exact ⟨⟨_, rfl⟩, S18.updL hu18 nuc nupl nul, (jx17.st s18).updU hu18, r ++ [(v, oe)], (hr17.st s18).snoc he, by rw [List.length_append, hrl]; rfl⟩
        · rintro σ' H17 ⟨⟨x12, rfl⟩, S17, jx17, r, hr17, hrl⟩
          rw [Int.toNat_natCast] at hrl
          obtain ⟨z', ra', xs, e1, _, hra, hlen17, _⟩ := jx17 i _ hkvi
          cases e1
          have hlen17 : xs.length ≤ (if i < i then 3 else if i = i then t else 0) := hlen17
          rw [if_neg (by omega), if_pos rfl] at hlen17
          refine q_app (l := ra) (xs := xs) hra (ev_var rfl) (ev_var rfl) (by omega) fun H18 e18 => ?_
          have S18 := (S17.ex e18).updL (ys := xs ++ [.ref u]) (e18 _ _ hra) far'.2 far'.1 farl'
          have jx18 : JX kvs .non (fun j => if j < i then 3 else if j = i then t + 1 else 0) (upd H18 ra (.lst (xs ++ [.ref u]))) := (jx17.st (stay_ex e18)).app nv hkvi (e18 _ _ hra) (hr17.ex e18) (by omega) fun j => by
            by_cases hj : j = i
            · subst hj
              rw [if_pos rfl, if_neg (by omega), if_pos rfl, if_neg (by omega), if_pos rfl]
              exact Nat.le_refl _
            · rw [if_neg hj]
              split
              · exact Nat.le_refl _
              · exact Nat.le_refl _
          refine s_asg ev_c fun H19 e19 => ⟨⟨0, _, _, _, rfl, by decide⟩, S18.ex e19, jx18.st (stay_ex e19)⟩
      · rintro σ' H14 ⟨⟨mo, x10, x11, x12, rfl, hmo⟩, S14, jx14⟩
        rw [Int.toNat_natCast] at jx14
        refine ⟨⟨mo, _, _, _, _, _, rfl, hmo⟩, S14, farl, jx14.mono fun j => ?_⟩
        split
        · rw [if_pos (by omega)]; exact Nat.le_refl _
        · split
          · rw [if_pos (by omega)]; omega
          · omega
    · rintro l σ' H11 ⟨⟨mo, x8, x9, x10, x11, x12, rfl, hmo⟩, S, _, jx⟩
      obtain ⟨J, hJ, hB, hJl⟩ := jx.jrn S.d (fun j => by split <;> omega) nk (by omega)
      have Sc : Scn p sc pl d ps J lo cm H11 := ⟨S.sc, S.pl, hJ, hB, nscp, ndp, pp, by omega, l1, hlo.1, hlo.2⟩
      refine s_ret (ev_var rfl) fun H12 e12 => q sc pl d ps J lo cm H12 (S.pk.ex e12) (Sc.ex e12) fun z => ?_
      rw [z] at hJl
      exact hne (List.length_eq_zero_iff.mp hJl.symm)
end
end Lr
set_option Elab.async false
set_option linter.all false
set_option maxRecDepth 100000
set_option maxHeartbeats 4000000
namespace Lr
open PySem L2 Evl
theorem But.new {p a : Addr} {o : HO} {H H' : Hp} (h : But p H H') (ha : H a = none) : But p H (L2.upd H' a o) := fun b u hb n => by
  rw [upd_ne (ne_of_none hb ha)]
  exact h b u hb n
theorem s_whenB {p c : Addr} {t : TT} {tu : TS} {D : Ends} {σ : L2.St} {H : Hp} (h : ∀ Q : Bool → Hp → Prop, (∀ b H1, But p H H1 → PkAt p c H1 → Q b H1) → t σ H Q) (k1 : ∀ H1, But p H H1 → PkAt p c H1 → tu D σ H1) (k2 : ∀ H1, But p H H1 → PkAt p c H1 → D.nx σ H1) : tIfS t tu tNext D σ H :=
  h _ fun b H1 b1 g1 => by
    cases b with
    | true => exact k1 H1 b1 g1
    | false => exact k2 H1 b1 g1
section
variable {P : Program} {w : World} {K : PySem.W.Frag} {mg : Str → Option Value} {base : Heap} {aM aS aO aB aE : Addr} {f : Addr} {fd : FuncData}
/-! ### _law_thinned -/
def spThin : Sp := fun vs H Q _ => ∃ (p c d ll : Addr) (J : Jrn) (lack : List Int), vs = [.ref p, .ref d, .ref ll] ∧ PkAt p c H ∧ JrnS H d J ∧ Bnd J ∧ J ≠ [] ∧ d ≠ p ∧ H ll = some (.lst (lack.map V.int)) ∧
  ∀ (d2 : Addr) (J2 : Jrn) H', But p H H' → PkAt p c H' → JrnS H' d2 J2 → Bnd J2 → J2 ≠ [] → d2 ≠ p → Q (.ref d2) H'
theorem sc_law_thinned : FnScope ["_law_pack_here", "_law_journals", "_law_lacking", "_law_thinned_here", "_law_owner", "_law_runs", "_law_run", "_law_rest", "_law_entry_here"] ["_law_pack_here", "_law_journals", "_law_lacking"] (defScope (top 39)) := ⟨rfl, rfl, rfl, by decide +kernel, rfl, by decide +kernel, by decide +kernel⟩
theorem ok_law_thinned {f1 : Addr} {fd1 : FuncData} (F : FnP K "_law_thinned" (top 39) f fd) (T : Tx K w mg aM aS aO aB) (c_law_draw : Cal P w K mg base "_law_draw" 1 ["_law_pack_here", "_law_many"] spDraw f1 fd1) :
    FnOk P w K mg base CX0 2 f fd ["_law_pack_here", "_law_journals", "_law_lacking"] spThin := by
  refine F.ok sc_law_thinned (fun vs H Q E h => ?_) (fun cdv A outer s H vs Q E hr h => ?_)
  · obtain ⟨p, c, d, ll, J, lack, rfl, _⟩ := h
    rfl
  · obtain ⟨p, c, d, ll, J, lack, rfl, hp, hJ, hB, hJ0, ndp, hll, q⟩ := h
    have hu := hu_of hr
    refine ⟨_, PSs.nox (pss_cons (ps_set (i := 3) sc_law_thinned.nd rfl (Or.inl rfl) pe_dnewK)
      (pss_cons (ps_for PassesOwn.never rfl (pi_list (pe_callB (call_sortedDI rfl) (by rfl) T.sorted (by decide +kernel) (pa_cons (pv 1) pa_nil))) (pg_name (i := 4) sc_law_thinned.nd rfl (Or.inl rfl))
        (pss_cons (ps_set (i := 5) sc_law_thinned.nd rfl (Or.inl rfl) (pe_lst pa_nil))
        (pss_cons (ps_for PassesOwn.never rfl (pi_list (pe_dget hu (pv 1) (pv 4) (fun _ _ => rfl))) (pg_name (i := 6) sc_law_thinned.nd rfl (Or.inl rfl))
          (pss_cons (ps_set (i := 7) sc_law_thinned.nd rfl (Or.inl rfl) (pe_lst pa_nil))
          (pss_cons (ps_for PassesOwn.never rfl (pi_list (pv 6)) (pg_name (i := 8) sc_law_thinned.nd rfl (Or.inl rfl))
            (pss_one (ps_if (PW.pt (pw_or (pt_cmpR op_notIn_seq (pv 4) (pv 2) rfl) (pw_or1 (pt_cmpR op_gt (pe_cal c_law_draw (hr.mono (by decide)) (by rfl) (pa_cons (pv 0) (pa_cons pe_int pa_nil))) pe_int (nomark _)))))
              (pss_one (ps_expr (pe_bm PySem.F.plainAttrs_list PySem.F.slot_list_append PySem.F.type_list_append mt_append (pv 7) (pa_cons (pv 8) pa_nil))))
              pss_nil)))
          (pss_one (ps_expr (pe_bm PySem.F.plainAttrs_list PySem.F.slot_list_append PySem.F.type_list_append mt_append (pv 5) (pa_cons (pv 7) pa_nil)))))))
        (pss_one (ps_dput hu (pv 3) (pv 4) (pv 5) rfl)))))
      (pss_one (ps_ret (pv 3))))), ?_⟩
    obtain ⟨kvs, hd, hk⟩ := id hJ
    refine q_newK fun d2 H1 nd2 e1 hd2 => ?_
    have nd2p : d2 ≠ p := by
      obtain ⟨_, hk⟩ := hp.dK
      exact (ne_of_none hk nd2).symm
    have nd2c : d2 ≠ c := by
      obtain ⟨ns, _, _, _, _, _, hc, _⟩ := id hp
      exact (ne_of_none hc nd2).symm
    have h8 := hB.n
    have stay0 : ∀ {H'}, But p H H' → Stay H H' := fun {H'} b => (rlP p c).st hp b
    refine q_forNLn (xs := (srt (keysJ J)).map V.int) (el_sortedD (ev_var rfl) (hJ.ex e1) (by omega))
      (fun l i σ' H' => (∃ x4 x5 x6 x7 x8, σ' = [some (.ref p), some (.ref d), some (.ref ll), some (.ref d2), x4, x5, x6, x7, x8]) ∧ But p H H' ∧ PkAt p c H' ∧ H' l = some (.lst ((srt (keysJ J)).map V.int)) ∧ ∃ J2, JrnS H' d2 J2 ∧ keysJ J2 = (srt (keysJ J)).take i ∧ ∀ j ∈ J2, j.2.length ≤ 8 ∧ ∀ r ∈ j.2, r.length ≤ 100)
      (fun l H2 nl e2 hl => ⟨⟨_, _, _, _, _, rfl⟩, But.of_ex (e1.trans e2), hp.ex (e1.trans e2), hl, [], ⟨[], e2 _ _ hd2, .nil⟩, rfl, fun j hj => nomatch hj⟩) (fun l i σ' H' _ h => sq_of h.2.2.2.1) ?_ ?_
    · rintro l i x σ' H2 hx ⟨⟨x4, x5, x6, x7, x8, rfl⟩, b2, g2, hl2, J2, hJ2, hk2, hJB⟩
      rw [List.getElem?_map] at hx
      obtain ⟨z, hz, rfl⟩ := Option.map_eq_some_iff.mp hx
      have hi8 : i < 8 := by
        have h1 := (List.getElem?_eq_some_iff.mp hz).1
        rw [srt_len, List.length_map] at h1
        omega
      have hmem : z ∈ keysJ J := (srt_perm _).mem_iff.mp (List.mem_of_getElem? hz)
      rcases kvs_val hk z with ⟨_, hno, _⟩ | ⟨rv, hval, hruns, _⟩
      · obtain ⟨j, hj, e⟩ := List.mem_map.mp hmem
        exact absurd e (hno j hj)
      obtain ⟨ra, rvs, rfl, hra, hrp⟩ := hruns
      have hlb := look_bnd hB z
      have hrl : rvs.length = (lookJ J z).length := hrp.length
      refine q_asgL (el_lst ea_nil (by decide)) fun rl H3 nrl e3 hrl3 => ?_
      have nrlc : rl ≠ c := by
        obtain ⟨ns, _, _, _, _, _, hc, _⟩ := id g2
        exact (ne_of_none hc nrl).symm
      have nrlp : rl ≠ p := by
        obtain ⟨_, hk⟩ := g2.dK
        exact (ne_of_none hk nrl).symm
      have b3 := b2.trans (But.of_ex e3)
      refine q_forLn (xs := rvs) (ev_dget (ev_var rfl) (ev_var rfl) fun H4 e4 => (by rw [← hval]; exact DGet.k (k := Sum.inl z) (e4 _ _ (b3 _ _ hd ndp)))) (sq_of ((stay0 b3).lst _ _ hra))
        (fun t σ' H' => (∃ x6 x7 x8, σ' = [some (.ref p), some (.ref d), some (.ref ll), some (.ref d2), some (.int z), some (.ref rl), x6, x7, x8]) ∧ But p H2 H' ∧ PkAt p c H' ∧ ∃ xs rs, H' rl = some (.lst xs) ∧ Paired (fun v r => RunAt H' v r ∧ v ≠ .ref rl) xs rs ∧ xs.length ≤ t ∧ ∀ r ∈ rs, r.length ≤ 100)
        (fun H4 e4 => ⟨⟨_, _, _, rfl⟩, But.of_ex (e3.trans e4), g2.ex (e3.trans e4), [], [], e4 _ _ hrl3, .nil, Nat.le_refl _, fun r hr => nomatch hr⟩) (fun t σ' H' _ h => sq_of ((stay0 (b2.trans h.2.1)).lst _ _ hra)) ?_ ?_
      · rintro t rx σ' H4 hrx ⟨⟨x6, x7, x8, rfl⟩, b4, g4, xs, rs, hrl4, hpx, hxl, hrs⟩
        obtain ⟨r2, hr2, hrun2⟩ := paired_at hrp hrx
        have ht8 : t < 8 := by
          have := (List.getElem?_eq_some_iff.mp hr2).1
          have := hlb.1
          omega
        have hr100 := hlb.2 r2 (List.mem_of_getElem? hr2)
        obtain ⟨a2, rfl, ha2, hent2⟩ := hrun2
        obtain ⟨ys, hys, hyl⟩ : ∃ ys : List V, ys = r2.map (·.1) ∧ ys.length = r2.length := ⟨_, rfl, List.length_map _⟩
        rw [← hys] at ha2
        refine q_asgL (el_lst ea_nil (by decide)) fun u H5 nu e5 hu5 => ?_
        have nuc : u ≠ c := by
          obtain ⟨ns, _, _, _, _, _, hc, _⟩ := id g4
          exact (ne_of_none hc nu).symm
        have nup : u ≠ p := by
          obtain ⟨_, hk⟩ := g4.dK
          exact (ne_of_none hk nu).symm
        have b05 : But p H H5 := (b2.trans b4).trans (But.of_ex e5)
        refine q_forLn (xs := ys) (ev_var rfl) (sq_of ((stay0 b05).lst _ _ ha2))
          (fun k σ' H' => (∃ x8, σ' = [some (.ref p), some (.ref d), some (.ref ll), some (.ref d2), some (.int z), some (.ref rl), some (.ref a2), some (.ref u), x8]) ∧ But p H4 H' ∧ PkAt p c H' ∧ ∃ r, RunAt H' (.ref u) r ∧ r.length ≤ k)
          (fun H6 e6 => ⟨⟨_, rfl⟩, But.of_ex (e5.trans e6), g4.ex (e5.trans e6), [], ⟨u, rfl, e6 _ _ hu5, fun p hp => nomatch hp⟩, Nat.le_refl _⟩) (fun k σ' H' _ h => sq_of ((stay0 ((b2.trans b4).trans h.2.1)).lst _ _ ha2)) ?_ ?_
        · rintro k y σ' H6 hy ⟨⟨x8, rfl⟩, b6, g6, r, hru, hrlen⟩
          have b06 := (b2.trans b4).trans b6
          rw [hys] at hy
          obtain ⟨oe, hro, _⟩ := run_at hy
          have hk100 : k < 100 := by
            have := (List.getElem?_eq_some_iff.mp hro).1
            omega
          have hey : EntAt H y oe := hent2 _ (List.mem_of_getElem? hro)
          refine s_whenB (p := p) (c := c) (fun Q k' => ?_) (fun H7 b7 g7 => ?_) (fun H7 b7 g7 => ⟨⟨_, rfl⟩, b6.trans b7, g7, r, hru.st ((rlP p c).st g6 b7), by omega⟩)
          · refine et_test (ev_op (ev_var rfl) (ev_var rfl) (rv_niL (sq_of ((stay0 b06).lst _ _ hll)) rfl (ints_flat lack))) H6 (Ex.refl _) _ fun H7 e7 => ?_
            by_cases hin : (!inV (.int z) (lack.map V.int)) = true
            · rw [if_pos hin]
              exact k' true H7 (But.of_ex e7) (g6.ex e7)
            · rw [if_neg hin]
              refine dv_go (dv_op (P := fun v _ => ∃ b, v = .bl b) (dv_draw (p := p) (c := c) 3 (fun _ _ _ => ev_var rfl) (fun _ _ _ => ev_c) (by decide) (by decide)) (dv_ev (v := .int 0) fun _ _ _ => ev_c) (fun _ _ _ _ _ z => z) fun x y H1 _ _ ⟨i, ex, _⟩ ey => ?_) (g6.ex e7) ?_
              · subst ex ey
                exact ⟨_, rv_I0, fun _ _ => ⟨_, rfl⟩⟩
              · rintro v H8 b8 g8 ⟨b, rfl⟩
                exact ⟨b, rfl, k' b H8 ((But.of_ex e7).trans b8) g8⟩
          · have hru7 := hru.st ((rlP p c).st g6 b7)
            obtain ⟨u', eu, hu7, _⟩ := id hru7
            cases eu
            refine s_app (l := u) (xs := r.map (·.1)) hu7 (ev_var rfl) (ev_var rfl) (by rw [List.length_map]; omega) fun H8 e8 => ?_
            have b68 := b6.trans (b7.trans (But.of_ex e8))
            exact ⟨⟨_, rfl⟩, b68.new nu, (g7.ex e8).upd nup nuc, r ++ [(y, oe)], (hru7.ex e8).snoc (hey.st (stay0 ((b2.trans b4).trans b68))), by rw [List.length_append]; show _ + 1 ≤ _; omega⟩
        · rintro σ' H6 ⟨⟨x8, rfl⟩, b6, g6, r, hru, hrlen⟩
          have s6 : Stay H4 H6 := (rlP p c).st g4 b6
          have nurl : u ≠ rl := (ne_of_none hrl4 nu).symm
          have hrl6 := s6.lst _ _ hrl4
          refine s_app (l := rl) (xs := xs) hrl6 (ev_var rfl) (ev_var rfl) (by omega) fun H7 e7 => ?_
          refine ⟨⟨_, _, _, rfl⟩, (b4.trans (b6.trans (But.of_ex e7))).new nrl, (g6.ex e7).upd nrlp nrlc, xs ++ [.ref u], rs ++ [r], upd_same, ?_, by rw [List.length_append]; show _ + 1 ≤ _; omega, fun r' hr' => ?_⟩
          · have hrl7 := e7 _ _ hrl6
            refine Paired.snoc (Paired.mono hpx fun v r' z => ⟨((z.1.st s6).ex e7).updL hrl7 z.2, z.2⟩) ⟨(hru.ex e7).updL hrl7 fun z => nurl (V.ref.inj z), fun z => nurl (V.ref.inj z)⟩
          · rcases List.mem_append.mp hr' with h | h
            · exact hrs r' h
            · rw [List.mem_singleton.mp h]; omega
      · rintro σ' H4 ⟨⟨x6, x7, x8, rfl⟩, b4, g4, xs, rs, hrl4, hpx, hxl, hrs⟩
        refine s_dput (ev_var rfl) (ev_var rfl) (ev_var rfl) fun H5 e5 => ?_
        have b5 := b4.trans (But.of_ex e5)
        have hJ5 : JrnS H5 d2 J2 := hJ2.but ((rlP p c).st g2 b5) fun kvs h => b5 _ _ h nd2p
        obtain ⟨kv2, hk2', hp2⟩ := hJ5
        have hkl : kv2.length ≤ 8 := by
          have h1 := hp2.length
          have h2 : (keysJ J2).length = J2.length := List.length_map _
          rw [hk2, List.length_take] at h2
          omega
        have hnew : valV kv2 (Sum.inl z) = none := by
          rcases kvs_val hp2 z with ⟨h, _, _⟩ | ⟨_, _, _, j, hj, e, _⟩
          · exact h
          · exfalso
            have hz2 : z ∈ keysJ J2 := List.mem_map.mpr ⟨j, hj, e⟩
            rw [hk2] at hz2
            obtain ⟨j', hj', e'⟩ := List.getElem_of_mem hz2
            rw [List.getElem_take] at e'
            have hlt : j' < i := by
              rw [List.length_take] at hj'
              omega
            have hil := (List.getElem?_eq_some_iff.mp hz).1
            have h1 : (srt (keysJ J))[j']? = some z := by rw [List.getElem?_eq_getElem (by omega), e']
            have := nd_ix ((srt_perm (keysJ J)).nodup_iff.mpr hB.nd) h1 hz
            omega
        refine ⟨_, DPut.k (k := Sum.inl z) hk2' (sz_lt (by omega)), ⟨_, _, _, _, _, rfl⟩, (b2.trans b5).new nd2, (g4.ex e5).upd nd2p nd2c, ?_, J2 ++ [(z, rs)], ?_, ?_, ?_⟩
        · rw [upd_ne (ne_of (((rlP p c).st g2 b5).lst _ _ hl2) hk2' fun q => nomatch q)]
          exact ((rlP p c).st g2 b5).lst _ _ hl2
        · rw [putK_new _ hnew]
          have hrr : RunsAt H5 (.ref rl) rs := ⟨rl, xs, rfl, e5 _ _ hrl4, Paired.mono hpx fun v r z => z.1.ex e5⟩
          exact ⟨_, upd_same, Paired.snoc (Paired.mono hp2 fun _ _ z => ⟨z.1, z.2.upd_d hk2'⟩) ⟨rfl, hrr.upd_d hk2'⟩⟩
        · show (J2 ++ [(z, rs)]).map (·.1) = _
          rw [List.map_append, take_snoc hz]
          show keysJ J2 ++ [z] = _
          rw [hk2]
        · intro j hj
          rcases List.mem_append.mp hj with h | h
          · exact hJB j h
          · rw [List.mem_singleton.mp h]
            have := hpx.length
            have := hlb.1
            exact ⟨by show rs.length ≤ 8; omega, hrs⟩
    · rintro l σ' H2 ⟨⟨x4, x5, x6, x7, x8, rfl⟩, b2, g2, hl2, J2, hJ2, hk2, hJB⟩
      rw [List.length_map, List.take_length] at hk2
      have hlen : J2.length = J.length := by
        have h1 : (keysJ J2).length = J2.length := List.length_map _
        have h2 : (keysJ J).length = J.length := List.length_map _
        rw [hk2, srt_len] at h1
        omega
      refine s_ret (ev_var rfl) fun H3 e3 => q d2 J2 H3 (b2.trans (But.of_ex e3)) (g2.ex e3) (hJ2.ex e3) ⟨by omega, ?_, hJB⟩ (fun z => hJ0 ?_) nd2p
      · show (keysJ J2).Nodup
        rw [hk2]
        exact (srt_perm (keysJ J)).nodup_iff.mpr hB.nd
      · rw [z] at hlen
        exact List.length_eq_zero_iff.mp hlen.symm
end
end Lr
set_option Elab.async false
set_option linter.all false
set_option maxRecDepth 100000
set_option maxHeartbeats 4000000
namespace Lr
open PySem L2 Evl
theorem cutTail (xs : List V) {k : Nat} (h : k ≤ xs.length) : cutV xs (some (k : Int)) none = xs.drop k := by
  have h1 : HT.sIx xs.length 0 (some (k : Int)) = min k xs.length := HT.sIx_nat _ _ k
  unfold cutV
  rw [h1]
  show (xs.drop (min k xs.length)).take (xs.length - min k xs.length) = _
  rw [Nat.min_eq_left h, List.take_of_length_le]
  rw [List.length_drop]
  exact Nat.le_refl _
section
variable {K : PySem.W.Frag} {σ : L2.St} {H : Hp} {ta tb tx ty : TE} {tz : TS} {D : Ends} {sp : Sp} {i : Nat} {x y : V} {xs ys : List V}
theorem el_catLL (ha : EvL ta σ H xs) (hb : EvL tb σ H ys) (hz : xs.length + ys.length ≤ 100000) : EvL (tOp rCat ta tb) σ H (xs ++ ys) := by
  intro H1 e1 Q k
  refine ha H1 e1 _ fun a H2 na e2 h2 => hb H2 (e1.trans e2) _ fun b H3 nb e3 h3 => ?_
  exact ⟨a, b, xs, ys, rfl, rfl, e3 _ _ h2, h3, sz_of hz, fun q hq => k q _ (fresh_back (e2.trans e3) hq) ((e2.trans e3).trans (Ex.new hq)) upd_same⟩
theorem q_callVL (hx : Ev tx σ H x) (hl : EvL ty σ H ys) (k : ∀ a H1, H a = none → Ex H H1 → H1 a = some (.lst ys) → sp [x, .ref a] H1 (fun v H2 => tz D (σ.set i (some v)) H2) E0) : tSeq (tAsg (tCall sp [] E0 (tCons tx (tCons ty tNil))) (gName i)) tz D σ H :=
  hx H (Ex.refl _) _ fun H1 e1 => hl H1 e1 _ fun a H2 na e2 h2 => k a H2 (fresh_back e1 na) (e1.trans e2) h2
theorem q_callN (hx : Ev tx σ H x) (hy : Ev ty σ H y) (k : ∀ H1, Ex H H1 → sp [x, y] H1 (fun v H2 => tz D (σ.set i (some v)) H2) E0) : tSeq (tAsg (tCallN 1 1 sp (fun vs zs => vs ++ zs) E0 (tCons tx tNil) (tCons ty tNil)) (gName i)) tz D σ H :=
  hx H (Ex.refl _) _ fun H1 e1 => hy H1 e1 _ fun H2 e2 => ⟨rfl, rfl, k H2 (e1.trans e2)⟩
theorem q_setLU {l : Addr} {zs : List V} {j : Nat} (hl : H l = some (.lst xs)) (h : EvU tx σ H zs) (ho : Ev ta σ H (.ref l)) (hi : Ev tb σ H (.int (j : Int))) (hj : j < xs.length) (k : ∀ v H1, Ex H H1 → tz D σ (upd H1 l (.lst (xs.set j v)))) :
    tSeq (tAsg tx (gSub ta tb rSetL)) tz D σ H := h H (Ex.refl H) _ fun p H1 _ e1 _ => ho H1 e1 _ fun H2 e2 => hi H2 (e1.trans e2) _ fun H3 e3 =>
  ⟨l, xs, (j : Int), j, rfl, rfl, ((e1.trans e2).trans e3) l _ hl, ixN_nat hj, k _ H3 ((e1.trans e2).trans e3)⟩
end
/-! ### rows as data -/
section
variable {K : PySem.W.Frag} {H : Hp} {a b : Addr} {rs : List Row}
theorem rows_dps : ∀ {vs : List V} {rs : List Row}, Paired (RowAt H) vs rs → (∀ r ∈ rs, RowOk r) → ∃ ds, DpAll K H vs ds ∧ PyData.canLayAll0 ds = true ∧ PyData.depthAll ds ≤ 1 ∧ PyData.eqvAll ds [] = rs.isEmpty
  | _, _, .nil, _ => ⟨[], .nil, rfl, by simp [PyData.depthAll], rfl⟩
  | _, _, .cons (b := r) h t, ok => by
    obtain ⟨ds, h1, h2, h3, _⟩ := rows_dps t fun r hr => ok r (List.mem_cons_of_mem _ hr)
    obtain ⟨c, rfl, e⟩ := h
    have hm : PySem.PyData.strOk r.2.2.2 = true := ok r List.mem_cons_self
    refine ⟨dRow r :: ds, .cons (.tup (st_of e) (.cons (.int _) (.cons (.int _) (.cons (.int _) (.cons (.str _) .nil))))) h1, ?_, ?_, rfl⟩
    · simp [PyData.canLayAll0, PyData.canLay0, dRow, hm, h2]
    · simp [PyData.depthAll, PyData.depth, dRow]; omega
theorem rows_nil (h : RowsAt H a rs) (ok : ∀ r ∈ rs, RowOk r) (hb : H b = some (.lst [])) : ∃ d e, Dp K H (.ref a) d ∧ Dp K H (.ref b) e ∧ SeqAt.shaped d = true ∧ SeqAt.shaped e = true ∧ PyData.eqv d e = rs.isEmpty := by
  obtain ⟨vs, hv, hp⟩ := h
  obtain ⟨ds, h1, h2, h3, h4⟩ := rows_dps (K := K) hp ok
  refine ⟨.list ds, .list [], .lst (sq_of hv) h1, .lst (sq_of hb) .nil, ?_, rfl, by simpa [PyData.eqv] using h4⟩
  simp [SeqAt.shaped, PyData.canLay0, PyData.depth, h2]
  omega
theorem ev_rowsEq {σ : L2.St} {ta tb : TE} (h : RowsAt H a rs) (ok : ∀ r ∈ rs, RowOk r) (ha : Ev ta σ H (.ref a)) (hb : EvL tb σ H []) : Ev (tOp (rEqD K) ta tb) σ H (.bl rs.isEmpty) := ev_opL ha hb fun p H1 hp e1 H2 e2 Q k => by
  obtain ⟨d, e, h1, h2, h3, h4, h5⟩ := rows_nil (K := K) ((h.ex e1).ex e2) ok (e2 _ _ hp)
  exact ⟨d, e, h1, h2, h3, h4, by rw [h5]; exact k H2 (Ex.refl _)⟩
theorem ev_rowsNe {σ : L2.St} {ta tb : TE} (h : RowsAt H a rs) (ok : ∀ r ∈ rs, RowOk r) (ha : Ev ta σ H (.ref a)) (hb : EvL tb σ H []) : Ev (tOp (rNeD K) ta tb) σ H (.bl (!rs.isEmpty)) := ev_opL ha hb fun p H1 hp e1 H2 e2 Q k => by
  obtain ⟨d, e, h1, h2, h3, h4, h5⟩ := rows_nil (K := K) ((h.ex e1).ex e2) ok (e2 _ _ hp)
  exact ⟨d, e, h1, h2, h3, h4, by rw [h5]; exact k H2 (Ex.refl _)⟩
/-- two lists of the same ints -/
theorem ints_dps : ∀ ns : List Int, ∃ ds, DpAll K H (ns.map V.int) ds ∧ PyData.canLayAll0 ds = true ∧ PyData.depthAll ds = 0 ∧ PyData.eqvAll ds ds = true
  | [] => ⟨[], .nil, rfl, by simp [PyData.depthAll], rfl⟩
  | n :: ns => by
    obtain ⟨ds, h1, h2, h3, h4⟩ := ints_dps ns
    refine ⟨.int n :: ds, .cons (.int n) h1, ?_, ?_, ?_⟩
    · simp [PyData.canLayAll0, PyData.canLay0, h2]
    · simp [PyData.depthAll, PyData.depth, h3]
    · simp [PyData.eqvAll, PyData.eqv, h4]
theorem ev_intsEq {σ : L2.St} {ta tb : TE} {ns : List Int} (ha : Ev ta σ H (.ref a)) (hb : Ev tb σ H (.ref b)) (h1 : H a = some (.lst (ns.map V.int))) (h2 : H b = some (.lst (ns.map V.int))) : Ev (tOp (rEqD K) ta tb) σ H (.bl true) := ev_op ha hb fun H1 e1 Q k => by
  obtain ⟨ds, d1, d2, d3, d4⟩ := ints_dps (K := K) (H := H1) ns
  refine ⟨.list ds, .list ds, .lst (sq_of (e1 _ _ h1)) d1, .lst (sq_of (e1 _ _ h2)) d1, ?_, ?_, ?_⟩
  · simp [SeqAt.shaped, PyData.canLay0, PyData.depth, d2, d3]
  · simp [SeqAt.shaped, PyData.canLay0, PyData.depth, d2, d3]
  · have : PyData.eqv (.list ds) (.list ds) = true := by simpa [PyData.eqv] using d4
    rw [this]
    exact k H1 (Ex.refl _)
/-! ### journals of the same entries are equal -/
theorem eqV_ent {v : V} {o : Eo} (h : EntAt H v o) : EqV K H 1 v v := by
  rcases h with ⟨a, xs, rfl, _⟩ | ⟨_, h⟩
  · exact .inr (.inl ⟨a, rfl, rfl⟩)
  · cases v with
    | non => exact .inl ⟨rfl, rfl⟩
    | int _ => exact .inl ⟨rfl, rfl⟩
    | str _ => exact .inl ⟨rfl, rfl⟩
    | ref a => exact .inr (.inl ⟨a, rfl, rfl⟩)
    | bl _ => exact h.elim
    | byt _ => exact h.elim
    | flt _ => exact h.elim
    | ty _ => exact h.elim
theorem eqV_run {v v' : V} {r : Run} (h : RunAt H v r) (h' : RunAt H v' r) : EqV K H 2 v v' := by
  obtain ⟨a, rfl, ha, he⟩ := h
  obtain ⟨b, rfl, hb, he'⟩ := h'
  clear he'
  refine .inr (.inr (.inl ⟨a, b, _, _, rfl, rfl, sq_of ha, sq_of hb, ?_⟩))
  clear ha hb
  induction r with
  | nil => exact .nil
  | cons p r ih => exact .cons (eqV_ent (he p List.mem_cons_self)) (ih fun q hq => he q (List.mem_cons_of_mem _ hq))
theorem eqV_runs {v v' : V} {rs : List Run} (h : RunsAt H v rs) (h' : RunsAt H v' rs) : EqV K H 3 v v' := by
  obtain ⟨a, xs, rfl, ha, hp⟩ := h
  obtain ⟨b, ys, rfl, hb, hq⟩ := h'
  refine .inr (.inr (.inl ⟨a, b, _, _, rfl, rfl, sq_of ha, sq_of hb, ?_⟩))
  clear ha hb
  induction hp generalizing ys with
  | nil => cases hq; exact .nil
  | cons r _ ih =>
    cases hq with
    | cons r' t' => exact .cons (eqV_run r r') (ih _ t')
theorem eq_jrn {J1 J2 : Jrn} (h1 : JrnS H a J1) (h2 : JrnS H b J2) (hl : J1.length = J2.length) (he : ∀ j ∈ J1, j.1 ∈ keysJ J2 ∧ lookJ J2 j.1 = j.2) : EqR K H (EqV K H 3) (.ref a) (.ref b) := by
  obtain ⟨ks, ha, hp⟩ := h1
  obtain ⟨ls, hb, hq⟩ := h2
  refine .inr ⟨a, b, ks, ls, rfl, rfl, ha, hb, by rw [hp.length, hq.length, hl], fun kv hkv => ?_⟩
  obtain ⟨i, hi, e⟩ := List.getElem_of_mem hkv
  obtain ⟨j, hj, e1, e2⟩ := paired_at hp (show ks[i]? = some kv by rw [List.getElem?_eq_getElem hi, e])
  obtain ⟨m1, m2⟩ := he j (List.mem_of_getElem? hj)
  rcases kvs_val hq j.1 with ⟨_, hno, _⟩ | ⟨u, hu, hruns, _⟩
  · obtain ⟨j', hj', e'⟩ := List.mem_map.mp m1
    exact absurd e' (hno j' hj')
  · rw [m2] at hruns
    exact ⟨u, by rw [e1]; exact hu, eqV_runs e2 hruns⟩
end
/-! ### the copy's rows -/
theorem look_out {J : Jrn} {o : Int} (h : o ∉ keysJ J) : lookJ J o = [] := by
  rcases look_mem (J := J) o with e | ⟨j, hj, e, _⟩
  · exact e
  · exact absurd (List.mem_map.mpr ⟨j, hj, e⟩) h
theorem look_copy {J : Jrn} {os : List Int} (h : os.Perm (keysJ J)) (o : Int) : lookJ (os.map fun o => (o, lookJ J o)) o = lookJ J o := by
  by_cases ho : o ∈ os
  · exact look_map ho
  · rw [look_out (J := os.map fun o => (o, lookJ J o)) (by rw [keysJ_map]; exact ho), look_out fun z => ho (h.mem_iff.mpr z)]
theorem rows_copy {J : Jrn} {os : List Int} (h : os.Perm (keysJ J)) (lack : List Int) : rows (eoJ (os.map fun o => (o, lookJ J o))) lack (srt (keysJ (os.map fun o => (o, lookJ J o)))) = rows (eoJ J) lack (srt (keysJ J)) := by
  rw [keysJ_map, srt_perm_eq h]
  have : eoJ (os.map fun o => (o, lookJ J o)) = eoJ J := by
    funext o
    unfold eoJ
    rw [look_copy h]
  rw [this]
theorem bnd_copy {J : Jrn} {os : List Int} (h : os.Perm (keysJ J)) (hB : Bnd J) : Bnd (os.map fun o => (o, lookJ J o)) := by
  refine ⟨?_, ?_, fun j hj => ?_⟩
  · have h1 := h.length_eq
    have h2 : (keysJ J).length = J.length := List.length_map _
    have := hB.n
    rw [List.length_map]
    omega
  · show (keysJ (os.map fun o => (o, lookJ J o))).Nodup
    rw [keysJ_map]
    exact h.nodup_iff.mpr hB.nd
  · obtain ⟨o, _, rfl⟩ := List.mem_map.mp hj
    exact look_bnd hB o
section
variable {P : Program} {w : World} {K : PySem.W.Frag} {mg : Str → Option Value} {base : Heap} {aM aS aO aB aE : Addr} {f : Addr} {fd : FuncData}
/-! ### _law_judged -/
def spJudged : Sp := fun vs H Q _ => ∃ (p c d ll : Addr) (J : Jrn) (lack : List Int), vs = [.ref p, .ref d, .ref ll] ∧ PkAt p c H ∧ JrnS H d J ∧ Bnd J ∧ J ≠ [] ∧ d ≠ p ∧ H ll = some (.lst (lack.map V.int)) ∧
  ∀ H', But p H H' → PkAt p c H' → Q (.bl true) H'
theorem sc_law_judged : FnScope ["_law_pack_here", "_law_journals", "_law_lacking", "_law_owners", "_law_start", "_law_given", "_law_handed", "_law_due_here", "_law_rows", "_law_first"] ["_law_pack_here", "_law_journals", "_law_lacking"] (defScope (top 42)) := ⟨rfl, rfl, rfl, by decide +kernel, rfl, by decide +kernel, by decide +kernel⟩
theorem ok_law_judged {aF f1 f2 f3 f4 f5 f6 f7 : Addr} {fd1 fd2 fd3 fd4 fd5 fd6 fd7 : FuncData} (F : FnP K "_law_judged" (top 42) f fd) (T : Tx K w mg aM aS aO aB) (c_law_draw : Cal P w K mg base "_law_draw" 1 ["_law_pack_here", "_law_many"] spDraw f1 fd1)
    (c_law_copied : Cal P w K mg base "_law_copied" 1 ["_law_journals", "_law_owners"] spCopied f2 fd2) (c_law_due : Cal P w K mg base "_law_due" 5 ["_law_journals", "_law_lacking"] (spWrong K) f3 fd3) (cwrong_entries : CalK P w K mg base "wrong_entries" 5 (spWrong K) aE f4 fd4)
    (c_law_same_list : Cal P w K mg base "_law_same_list" 2 ["_law_rows", "_law_due_here"] spSame f5 fd5) (cfirst_wrong : CalK P w K mg base "first_wrong" 6 (spFirst K) aF f6 fd6) (c_law_same_word : Cal P w K mg base "_law_same_word" 1 ["_law_row", "_law_due_here"] spWord f7 fd7) :
    FnOk P w K mg base CX0 7 f fd ["_law_pack_here", "_law_journals", "_law_lacking"] spJudged := by
  refine F.ok sc_law_judged (fun vs H Q E h => ?_) (fun cdv A outer s H vs Q E hr h => ?_)
  · obtain ⟨p, c, d, ll, J, lack, rfl, _⟩ := h
    rfl
  · obtain ⟨p, c, d, ll, J, lack, rfl, hp, hJ, hB, hJ0, ndp, hll, q⟩ := h
    have hu := hu_of hr
    refine ⟨_, PSs.nox (pss_cons (ps_set (i := 3) sc_law_judged.nd rfl (Or.inl rfl) (pe_callB (call_sortedDI rfl) (by rfl) T.sorted (by decide +kernel) (pa_cons (pv 1) pa_nil)))
      (pss_cons (ps_set (i := 4) sc_law_judged.nd rfl (Or.inl rfl) (pe_cal c_law_draw (hr.mono (by decide)) (by rfl) (pa_cons (pv 0) (pa_cons (pe_callB call_len_seq (by rfl) T.len PySem.boot_len (pa_cons (pv 3) pa_nil)) pa_nil))))
      (pss_cons (ps_set (i := 5) sc_law_judged.nd rfl (Or.inl rfl) (pe_cal c_law_copied (hr.mono (by decide)) (by rfl) (pa_cons (pv 1) (pa_cons (pe_op op_cat (pe_slice sl_list (pv 3) (po_some (pv 4)) po_none) (pe_slice sl_list (pv 3) po_none (po_some (pv 4)))) pa_nil))))
      (pss_cons (ps_set (i := 6) sc_law_judged.nd rfl (Or.inl rfl) (pe_callTy call_list_of (by rfl) T.list (by decide +kernel) (pa_cons (pv 2) pa_nil)))
      (pss_cons (ps_set (i := 7) sc_law_judged.nd rfl (Or.inl rfl) (pe_cal c_law_due (hr.mono (by decide)) (by rfl) (pa_cons (pv 1) (pa_cons (pv 2) pa_nil))))
      (pss_cons (ps_set (i := 8) sc_law_judged.nd rfl (Or.inl rfl) (pe_calN cwrong_entries (hr.mono (by decide)) (by rfl) (pa_cons (pv 5) pa_nil) (pk_cons (pv 6) pk_nil)))
      (pss_cons (ps_if (pt_not (pt_val (pe_cal c_law_same_list (hr.mono (by decide)) (by rfl) (pa_cons (pv 8) (pa_cons (pv 7) pa_nil)))))
        (pss_one (ps_ret pe_bl))
        pss_nil)
      (pss_cons (ps_expr (pe_bm PySem.F.plainAttrs_list PySem.F.slot_list_append PySem.F.type_list_append mt_append (pv 8) (pa_cons (pe_tup (pa_cons pe_int (pa_cons pe_int (pa_cons pe_int (pa_cons pe_str pa_nil))))) pa_nil)))
      (pss_cons (ps_asg (pe_tup (pa_cons pe_int (pa_cons pe_int (pa_cons pe_int (pa_cons pe_str pa_nil))))) (pg_sub (pv 8) pe_int set_list))
      (pss_cons (ps_if (pt_not (pt_val (pe_cal c_law_same_list (hr.mono (by decide)) (by rfl) (pa_cons (pe_calN cwrong_entries (hr.mono (by decide)) (by rfl) (pa_cons (pv 5) pa_nil) (pk_cons (pv 6) pk_nil)) (pa_cons (pv 7) pa_nil)))))
        (pss_one (ps_ret pe_bl))
        pss_nil)
      (pss_cons (ps_set (i := 9) sc_law_judged.nd rfl (Or.inl rfl) (pe_calN cfirst_wrong (hr.mono (by decide)) (by rfl) (pa_cons (pv 5) pa_nil) (pk_cons (pv 6) pk_nil)))
      (pss_cons (ps_if (PW.pt (pw_and (pt_cmpR (op_eqD hr.units) (pv 7) (pe_lst pa_nil) (nomark _)) (pw_and1 (pt_cmpR op_notN1 (pv 9) pe_non (nomark _)))))
        (pss_one (ps_ret pe_bl))
        pss_nil)
      (pss_cons (ps_if (PW.pt (pw_and (pt_cmpR (op_neD hr.units) (pv 7) (pe_lst pa_nil) (nomark _)) (pw_and1 (pt_not (pt_val (pe_cal c_law_same_word (hr.mono (by decide)) (by rfl) (pa_cons (pv 9) (pa_cons (pe_ix ix_list (pv 7) pe_int (fun _ _ => rfl)) pa_nil))))))))
        (pss_one (ps_ret pe_bl))
        pss_nil)
      (pss_one (ps_ret (pe_and (pe_cmpR (op_eqV hr.units) (pv 5) (pe_cal c_law_copied (hr.mono (by decide)) (by rfl) (pa_cons (pv 1) (pa_cons (pv 3) pa_nil))) (nomark _)) (pe_one (pe_cmpR (op_eqD hr.units) (pv 6) (pv 2) (nomark _))))))))))))))))))), ?_⟩
    have h8 := hB.n
    have hks : (srt (keysJ J)).length = J.length := by rw [srt_len, List.length_map]
    have hJp : 0 < J.length := List.length_pos_iff.mpr hJ0
    have hpm := srt_perm (keysJ J)
    refine q_asgL (el_sortedD (ev_var rfl) hJ (by omega)) fun ol H1 nol e1 hol => ?_
    refine q_asgB (dv_draw (p := p) (c := c) (srt (keysJ J)).length (fun _ _ _ => ev_var rfl) (fun H2 b2 _ => ev_is (ev_len (ev_var rfl) (sq_of (((rlP p c).st (hp.ex e1) b2).lst _ _ hol))) (by rw [List.length_map])) (by omega) (by omega)) (hp.ex e1) ?_
    rintro v H2 b2 g2 ⟨s, rfl, hs⟩
    have b02 : But p H H2 := (But.of_ex e1).trans b2
    have st02 : Stay H H2 := (rlP p c).st hp b02
    have hJ2 : JrnS H2 d J := hJ.but st02 fun kvs h => b02 _ _ h ndp
    have hol2 := ((rlP p c).st (hp.ex e1) b2).lst _ _ hol
    have hll2 := st02.lst _ _ hll
    have hos : ((srt (keysJ J)).drop s ++ (srt (keysJ J)).take s).Perm (keysJ J) := (List.perm_append_comm.trans (by rw [List.take_append_drop])).trans hpm
    generalize hoe : (srt (keysJ J)).drop s ++ (srt (keysJ J)).take s = os at hos
    have hcut : cutV ((srt (keysJ J)).map V.int) (some (s : Int)) none ++ cutV ((srt (keysJ J)).map V.int) none (some (s : Int)) = os.map V.int := by
      rw [cutTail _ (by rw [List.length_map]; omega), cutHead, ← hoe, List.map_append, List.map_drop, List.map_take]
    have hosl : os.length ≤ 8 := by
      have := hos.length_eq
      rw [List.length_map] at this
      omega
    have hel : EvL (tOp rCat (tSl (rSlL K) (tVar 3) (tPart (tVar 4)) tNoPart) (tSl (rSlL K) (tVar 3) tNoPart (tPart (tVar 4)))) [some (.ref p), some (.ref d), some (.ref ll), some (.ref ol), some (.int (s : Nat)), none, none, none, none, none] H2 (os.map V.int) := by
      rw [← hcut]
      refine el_catLL (el_sl (ev_var rfl) (eo_some (ev_var rfl)) eo_none (sq_of hol2)) (el_sl (ev_var rfl) eo_none (eo_some (ev_var rfl)) (sq_of hol2)) ?_
      rw [← List.length_append, hcut, List.length_map]
      omega
    refine q_callVL (x := .ref d) (ev_var rfl) hel fun oa H3 noa e3 hoa => ?_
    refine ⟨d, oa, J, os, rfl, hJ2.ex e3, hoa, hos.nodup_iff.mpr hB.nd, fun o ho => hos.mem_iff.mp ho, hosl, hB, fun g H4 ng e4 hJg => ?_⟩
    have e24 := e3.trans e4
    refine q_asgL (el_list (ev_var rfl) (sq_of (e24 _ _ hll2))) fun hd H5 nhd e5 hhd => ?_
    have e25 := e24.trans e5
    refine q_call (ea_cons (ev_var rfl) (ea_cons (ev_var rfl) ea_nil)) fun H6 e6 => ?_
    have e26 := e25.trans e6
    refine ⟨d, .ref ll, J, lack, rfl, hJ2.ex e26, hB, ⟨ll, rfl, .inl (sq_of (e26 _ _ hll2))⟩, fun du H7 ndu e7 hdu => ?_⟩
    have e27 := e26.trans e7
    have hJg7 := ((hJg.ex e5).ex e6).ex e7
    have hhd7 := e7 _ _ (e6 _ _ hhd)
    have hBg := bnd_copy hos hB
    have hlen := rows_len hB lack
    have hok : ∀ r ∈ rows (eoJ J) lack (srt (keysJ J)), RowOk r := fun r hr => rows_ok hr
    have hrc := rows_copy hos lack
    revert hdu hlen hok
    generalize hR : rows (eoJ J) lack (srt (keysJ J)) = R
    intro hdu hlen hok
    rw [hR] at hrc
    have hwr : ∀ {H8 : Hp} {Q : VK} {E : XK}, Ex H7 H8 → (∀ l H9, H8 l = none → Ex H8 H9 → RowsAt H9 l R → Q (.ref l) H9) → spWrong K [.ref g, .ref hd] H8 Q E := fun {H8 Q E} e8 k =>
      ⟨g, .ref hd, _, lack, rfl, hJg7.ex e8, hBg, ⟨hd, rfl, .inl (sq_of (e8 _ _ hhd7))⟩, fun l H9 nl e9 hr => k l H9 nl e9 (by rw [hrc] at hr; exact hr)⟩
    refine q_callN (ev_var rfl) (ev_var rfl) fun H8 e8 => hwr e8 fun rl H9 nrl e9 hrows => ?_
    have e79 := e8.trans e9
    have nrl7 : H7 rl = none := fresh_back e8 nrl
    refine q_when (b := false) (et_is (et_not (et_B (ev_cal (ea_cons (ev_var rfl) (ea_cons (ev_var rfl) ea_nil)) (v_same hrows (hdu.ex e79) hok (by omega))))) rfl) (fun z => absurd z (by decide)) (fun _ H10 e10 => ?_)
    obtain ⟨rvs, hrl, hrp⟩ := hrows.ex e10
    have hrvl : rvs.length ≤ 6400 := by
      have := hrp.length
      omega
    refine q_appU (l := rl) (xs := rvs) hrl (ev_var rfl) (eu_tup (ea_cons ev_c (ea_cons ev_c (ea_cons ev_c (ea_cons ev_c ea_nil)))) (by show 4 ≤ 100000; decide)) (by omega) fun tp H11 ntp e11 htp => ?_
    refine q_setLU (l := rl) (j := 0) (xs := rvs ++ [V.ref tp]) upd_same (eu_tup (ea_cons ev_c (ea_cons ev_c (ea_cons ev_c (ea_cons ev_c ea_nil)))) (by show 4 ≤ 100000; decide)) (ev_var rfl) ev_c (by rw [List.length_append]; exact Nat.succ_pos _) fun v H12 e12 => ?_
    have e713 : Ex H7 (upd H12 rl (.lst ((rvs ++ [V.ref tp]).set 0 v))) := ((((e79.trans e10).trans e11).mut nrl7).trans e12).mut nrl7
    refine q_when (b := false) (et_is (b := false) (et_not (a := true) (et_B fun H14 e14 Q k => ?_)) rfl) (fun z => absurd z (by decide)) (fun _ H14 e14 => ?_)
    · refine ⟨.ref g, rfl, .ref hd, rfl, rfl, rfl, hwr (e713.trans e14) fun l H15 nl e15 hr => ?_⟩
      exact ⟨.ref du, rfl, l, du, R, rfl, hr, ((hdu.ex e713).ex e14).ex e15, hok, by omega, fun H16 e16 => k H16 (e15.trans e16)⟩
    have e714 := e713.trans e14
    refine q_callN (ev_var rfl) (ev_var rfl) fun H15 e15 => ?_
    have e715 := e714.trans e15
    refine ⟨g, .ref hd, _, lack, rfl, hJg7.ex e715, hBg, ⟨hd, rfl, .inl (sq_of (e715 _ _ hhd7))⟩, fun v H16 e16 hv => ?_⟩
    rw [hrc] at hv
    have e716 := e715.trans e16
    have hdu16 := hdu.ex e716
    refine q_when (b := false) ?_ (fun z => absurd z (by decide)) (fun _ H17 e17 => ?_)
    · rcases hv with ⟨e, rfl⟩ | ⟨r, rs, e, _⟩
      · exact et_is (et_and (et_test (ev_rowsEq hdu16 hok (ev_var rfl) (el_lst ea_nil (by decide)))) fun _ => et_is (b := false) (et_test (ev_op (ev_var rfl) ev_c rv_notN)) rfl) (Bool.and_false _)
      · exact et_is (et_and (b := false) (et_test (ev_rowsEq hdu16 hok (ev_var rfl) (el_lst ea_nil (by decide)))) fun z => absurd z (by rw [e]; exact fun z => nomatch z)) (Bool.and_false _)
    have hdu17 := hdu16.ex e17
    refine q_when (b := false) ?_ (fun z => absurd z (by decide)) (fun _ H18 e18 => ?_)
    · rcases hv with ⟨e, rfl⟩ | ⟨r, rs, e, hrv⟩
      · exact et_is (et_and (b := false) (et_test (ev_rowsNe hdu17 hok (ev_var rfl) (el_lst ea_nil (by decide)))) fun z => absurd z (by rw [e]; exact fun z => nomatch z)) (Bool.and_false _)
      · subst e
        obtain ⟨dvs, hdv, hdp⟩ := id hdu17
        obtain ⟨x, hx, hrx⟩ := paired_at' hdp (i := 0) (b := r) rfl
        exact et_is (et_and (et_test (ev_rowsNe hdu17 hok (ev_var rfl) (el_lst ea_nil (by decide)))) fun _ => et_is (b := false) (et_not (et_B (ev_cal (ea_cons (ev_var rfl) (ea_cons (ev_op (ev_var rfl) ev_c (rv_ixL' (i := 0) (sq_of hdv) hx)) ea_nil)) (v_word (hrv.ex e17) hrx (hok r List.mem_cons_self))))) rfl) (Bool.and_false _)
    have e718 := (e716.trans e17).trans e18
    have e218 := e27.trans e718
    refine s_ret (ev_andV (a := true) (b := true) (fun H19 e19 Q k => ?_) fun _ => ev_intsEq (ev_var rfl) (ev_var rfl) (e718 _ _ hhd7) (e218 _ _ hll2)) fun H19 e19 => q H19 (b02.trans (But.of_ex (e218.trans e19))) (g2.ex (e218.trans e19))
    have e219 := e218.trans e19
    refine ⟨.ref g, rfl, .ref d, rfl, .ref ol, rfl, d, ol, J, srt (keysJ J), rfl, hJ2.ex e219, e219 _ _ hol2, hpm.nodup_iff.mpr hB.nd, fun o ho => hpm.mem_iff.mp ho, by omega, hB, fun d2 H20 nd2 e20 hJ20 => ?_⟩
    refine ⟨3, by decide, eq_jrn ((hJg7.ex (e718.trans e19)).ex e20) hJ20 ?_ fun j hj => ?_, k H20 e20⟩
    · rw [List.length_map, List.length_map, hos.length_eq, hpm.length_eq]
    · obtain ⟨o, ho, rfl⟩ := List.mem_map.mp hj
      exact ⟨by rw [keysJ_map]; exact hpm.mem_iff.mpr (hos.mem_iff.mp ho), look_copy hpm o⟩
end
end Lr
set_option Elab.async false
set_option linter.all false
set_option maxRecDepth 100000
set_option maxHeartbeats 4000000
namespace Lr
open PySem L2 Evl
section
variable {K : PySem.W.Frag} {σ : L2.St} {H : Hp} {D : Ends} {tz tu : TS} {t : TT}
theorem s_whenJ {p c : Addr} (h : ∀ Q : Bool → Hp → Prop, (∀ H1, But p H H1 → PkAt p c H1 → Q false H1) → t σ H Q) (k : ∀ H1, But p H H1 → PkAt p c H1 → D.nx σ H1) : tIfS t tu tNext D σ H := h _ k
theorem dv_trio {ta tb : TE} {a b : Addr} (ha : ∀ H1, Ev ta σ H1 (.ref a)) (hb : ∀ H1, Ev tb σ H1 (.ref b)) : Dv Ex TG0 (tLst (tCons (tLst tNil) (tCons ta (tCons tb tNil)))) σ H (fun v H' => ∃ w z, v = .ref w ∧ H' w = some (.lst [.ref z, .ref a, .ref b]) ∧ H' z = some (.lst [])) := by
  intro H1 r g Q q
  show (tCons (tLst tNil) (tCons ta (tCons tb tNil))) σ H1 fun vs H2 => vs.length ≤ sizeLine ∧ ∀ p, H2 p = none → Q (.ref p) (upd H2 p (.lst vs))
  show (tLst tNil) σ H1 fun x H2 => (tCons ta (tCons tb tNil)) σ H2 fun xs H3 => (x :: xs).length ≤ sizeLine ∧ ∀ p, H3 p = none → Q (.ref p) (upd H3 p (.lst (x :: xs)))
  have h0 : EvL (tLst tNil) σ H1 [] := el_lst ea_nil (by decide)
  refine h0 H1 (Ex.refl _) _ fun z H2 nz e2 hz => ?_
  refine ea_cons (ha H2) (ea_cons (hb H2) ea_nil) H2 (Ex.refl _) _ fun H3 e3 => ⟨sz_of (show 3 ≤ 100000 by decide), fun w hw => ?_⟩
  exact q _ _ ((e2.trans e3).trans (Ex.new hw)) trivial ⟨w, z, rfl, upd_same, (Ex.new hw) _ _ (e3 _ _ hz)⟩
theorem q_whenJ {p c : Addr} (h : ∀ Q : Bool → Hp → Prop, (∀ H1, But p H H1 → PkAt p c H1 → Q false H1) → t σ H Q) (k : ∀ H1, But p H H1 → PkAt p c H1 → tz D σ H1) : tSeq (tIfS t tu tNext) tz D σ H := h _ k
end
section
variable {P : Program} {w : World} {K : PySem.W.Frag} {mg : Str → Option Value} {base : Heap} {aM aS aO aB aE : Addr} {f : Addr} {fd : FuncData}
/-! ### law -/
def spLaw (K : PySem.W.Frag) : Sp := fun vs H Q _ => ∃ (a : Addr) (ns : List Int), vs = [.ref a] ∧ SqL K H a (ns.map V.int) ∧ ns.length ≤ 1000 ∧ ∀ H', Q (.bl true) H'
theorem sc_law : FnScope ["_law_script", "_law_pack_here", "_law_scene_here", "_law_journals", "_law_pool_here", "_law_lacking", "_law_k", "_law_seat", "_law_missing"] ["_law_script"] (defScope (top 43)) := ⟨rfl, rfl, rfl, by decide +kernel, rfl, by decide +kernel, by decide +kernel⟩
theorem ok_law {f1 f2 f3 f4 f5 f6 f7 f8 f9 : Addr} {fd1 fd2 fd3 fd4 fd5 fd6 fd7 fd8 fd9 : FuncData} (F : FnP K "law" (top 43) f fd) (T : Tx K w mg aM aS aO aB) (hE : ∀ H, SqT K H aE []) (c_law_draw : Cal P w K mg base "_law_draw" 1 ["_law_pack_here", "_law_many"] spDraw f1 fd1)
    (c_law_copied : Cal P w K mg base "_law_copied" 1 ["_law_journals", "_law_owners"] spCopied f2 fd2) (c_law_due : Cal P w K mg base "_law_due" 5 ["_law_journals", "_law_lacking"] (spWrong K) f3 fd3) (cwrong_entries : CalK P w K mg base "wrong_entries" 5 (spWrong K) aE f4 fd4)
    (c_law_same_list : Cal P w K mg base "_law_same_list" 2 ["_law_rows", "_law_due_here"] spSame f5 fd5) (c_law_pack : Cal P w K mg base "_law_pack" 1 ["_law_script"] (spPack K) f6 fd6) (c_law_scene : Cal P w K mg base "_law_scene" 8 ["_law_pack_here"] spScene f7 fd7)
    (c_law_judged : Cal P w K mg base "_law_judged" 7 ["_law_pack_here", "_law_journals", "_law_lacking"] spJudged f8 fd8) (c_law_thinned : Cal P w K mg base "_law_thinned" 2 ["_law_pack_here", "_law_journals", "_law_lacking"] spThin f9 fd9) : FnOk P w K mg base CX0 9 f fd ["_law_script"] (spLaw K) := by
  refine F.ok sc_law (fun vs H Q E h => ?_) (fun cdv A outer s H vs Q E hr h => ?_)
  · obtain ⟨a, ns, rfl, _⟩ := h
    rfl
  · obtain ⟨a, ns, rfl, hS, hn, q⟩ := h
    have hu := hu_of hr
    refine ⟨_, PSs.nox (pss_cons (ps_set (i := 1) sc_law.nd rfl (Or.inl rfl) (pe_cal c_law_pack (hr.mono (by decide)) (by rfl) (pa_cons (pv 0) pa_nil)))
      (pss_cons (ps_set (i := 2) sc_law.nd rfl (Or.inl rfl) (pe_cal c_law_scene (hr.mono (by decide)) (by rfl) (pa_cons (pv 1) pa_nil)))
      (pss_cons (ps_set (i := 3) sc_law.nd rfl (Or.inl rfl) (pe_dget hu (pv 2) pe_str (fun _ _ => rfl)))
      (pss_cons (ps_set (i := 4) sc_law.nd rfl (Or.inl rfl) (pe_dget hu (pv 2) pe_str (fun _ _ => rfl)))
      (pss_cons (ps_set (i := 5) sc_law.nd rfl (Or.inl rfl) (pe_lst pa_nil))
      (pss_cons (ps_for PassesOwn.never rfl (pi_range1 rfl T.range (pa_cons (pe_cal c_law_draw (hr.mono (by decide)) (by rfl) (pa_cons (pv 1) (pa_cons pe_int pa_nil))) pa_nil)) (pg_name (i := 6) sc_law.nd rfl (Or.inl rfl))
        (pss_cons (ps_set (i := 7) sc_law.nd rfl (Or.inl rfl) (pe_ix ix_list (pv 4) (pe_cal c_law_draw (hr.mono (by decide)) (by rfl) (pa_cons (pv 1) (pa_cons (pe_callB call_len_seq (by rfl) T.len PySem.boot_len (pa_cons (pv 4) pa_nil)) pa_nil))) (fun _ _ => rfl)))
        (pss_one (ps_if (pt_cmpR op_notIn_seq (pv 7) (pv 5) rfl)
          (pss_one (ps_expr (pe_bm PySem.F.plainAttrs_list PySem.F.slot_list_append PySem.F.type_list_append mt_append (pv 5) (pa_cons (pv 7) pa_nil))))
          pss_nil))))
      (pss_cons (ps_if (pt_not (pt_val (pe_cal c_law_same_list (hr.mono (by decide)) (by rfl) (pa_cons (pe_calD cwrong_entries (hr.mono (by decide)) (by rfl) (pa_cons (pe_cal c_law_copied (hr.mono (by decide)) (by rfl) (pa_cons (pv 3) (pa_cons (pe_callB (call_sortedDI rfl) (by rfl) T.sorted (by decide +kernel) (pa_cons (pv 3) pa_nil)) pa_nil))) pa_nil)) (pa_cons (pe_cal c_law_due (hr.mono (by decide)) (by rfl) (pa_cons (pv 3) (pa_cons (pe_lst pa_nil) pa_nil))) pa_nil)))))
        (pss_one (ps_ret pe_bl))
        pss_nil)
      (pss_cons (ps_for PassesOwn.never rfl (pi_list (pe_lst (pa_cons (pe_lst pa_nil) (pa_cons (pv 5) (pa_cons (pv 4) pa_nil))))) (pg_name (i := 8) sc_law.nd rfl (Or.inl rfl))
        (pss_one (ps_if (pt_not (pt_val (pe_cal c_law_judged (hr.mono (by decide)) (by rfl) (pa_cons (pv 1) (pa_cons (pv 3) (pa_cons (pv 8) pa_nil))))))
          (pss_one (ps_ret pe_bl))
          pss_nil)))
      (pss_cons (ps_if (pt_not (pt_val (pe_cal c_law_judged (hr.mono (by decide)) (by rfl) (pa_cons (pv 1) (pa_cons (pe_cal c_law_thinned (hr.mono (by decide)) (by rfl) (pa_cons (pv 1) (pa_cons (pv 3) (pa_cons (pv 4) pa_nil)))) (pa_cons (pv 5) pa_nil))))))
        (pss_one (ps_ret pe_bl))
        pss_nil)
      (pss_one (ps_ret (pe_cal c_law_judged (hr.mono (by decide)) (by rfl) (pa_cons (pv 1) (pa_cons (pe_cal c_law_thinned (hr.mono (by decide)) (by rfl) (pa_cons (pv 1) (pa_cons (pv 3) (pa_cons (pv 5) pa_nil)))) (pa_cons (pv 5) pa_nil))))))))))))))), ?_⟩
    refine q_call (ea_cons (ev_var rfl) ea_nil) fun H1 e1 => ?_
    refine ⟨a, ns, rfl, ex_l e1 hS, hn, fun p c H2 _ _ e2 g2 => ?_⟩
    refine q_call (ea_cons (ev_var rfl) ea_nil) fun H3 e3 => ?_
    refine ⟨p, c, rfl, g2.ex e3, fun sc pl d ps J lo cm H4 g4 S4 hJ0 => ?_⟩
    refine q_asg (ev_pk (Sum.inr "journals") (ev_var rfl) ev_c S4.h scn_j) fun H5 e5 => ?_
    have S5 := S4.ex e5
    refine q_asg (ev_pk (Sum.inr "pool") (ev_var rfl) ev_c S5.h scn_p) fun H6 e6 => ?_
    have S6 := S5.ex e6
    have g6 := (g4.ex e5).ex e6
    have hB := S6.B
    have ndp := S6.nd
    have hJ6 := S6.jn
    have hpl6 := S6.pl
    have l0 := S6.l0
    have l1 := S6.l1
    refine q_asgL (el_lst ea_nil (by decide)) fun lk H7 nlk e7 hlk => ?_
    have g7 := g6.ex e7
    have nlkp : lk ≠ p := by
      obtain ⟨_, hk⟩ := g6.dK
      exact (ne_of_none hk nlk).symm
    have nlkc : lk ≠ c := by
      obtain ⟨ns, _, _, _, _, _, hc, _⟩ := id g6
      exact (ne_of_none hc nlk).symm
    have st6 : ∀ {H'}, But p H6 H' → Stay H6 H' := fun {H'} b => (rlP p c).st g6 b
    refine q_forR1B (R := But p) (G := PkAt p c) (N := 3) (dv_imp (dv_draw (p := p) (c := c) 4 (fun _ _ _ => ev_var rfl) (fun _ _ _ => ev_c) (by decide) (by decide)) fun v H' _ ⟨i, e, hi⟩ => ⟨i, e, by omega⟩) g7 fun n H8 hn3 b8 g8 => ?_
    refine q_forR1 (n := (n : Nat)) (ea_cons ev_c ea_nil) ⟨by omega, by omega⟩
      (fun i σ' H' => (∃ x6 x7, σ' = [some (.ref a), some (.ref p), some (.ref sc), some (.ref d), some (.ref pl), some (.ref lk), x6, x7, none]) ∧ But p H6 H' ∧ PkAt p c H' ∧ ∃ lack : List Int, H' lk = some (.lst (lack.map V.int)) ∧ lack.length ≤ i)
      (fun H9 e9 => ⟨⟨_, _, rfl⟩, ((But.of_ex e7).trans b8).trans (But.of_ex e9), PkAt.ex g8 e9, [], e9 _ _ (((rlP p c).st g7 b8).lst _ _ hlk), Nat.le_refl _⟩) ?_ ?_
    · rintro i σ' H9 hi ⟨⟨x6, x7, rfl⟩, b9, g9, lack, hlk9, hlen⟩
      refine q_asgB (dv_poolPick (c := c) g9 ((st6 b9).lst _ _ hpl6) l0 l1 (fun _ => ev_var rfl) (fun _ _ _ => ev_var rfl)) g9 ?_
      rintro v H10 b10 g10 ⟨z, rfl, _⟩
      have hlk10 := ((rlP p c).st g9 b10).lst _ _ hlk9
      have b610 := b9.trans b10
      refine s_when (et_test (ev_op (ev_var rfl) (ev_var rfl) (rv_niL (sq_of hlk10) rfl (ints_flat lack)))) (fun _ H11 e11 => ?_) (fun _ H11 e11 => ⟨⟨_, _, rfl⟩, b610.trans (But.of_ex e11), g10.ex e11, lack, e11 _ _ hlk10, by omega⟩)
      refine s_app (l := lk) (xs := lack.map V.int) (e11 _ _ hlk10) (ev_var rfl) (ev_var rfl) (by rw [List.length_map]; omega) fun H12 e12 => ?_
      exact ⟨⟨_, _, rfl⟩, (b610.trans (But.of_ex (e11.trans e12))).new nlk, (g10.ex (e11.trans e12)).upd nlkp nlkc, lack ++ [z], by rw [upd_same, List.map_append]; rfl, by rw [List.length_append]; show _ + 1 ≤ _; omega⟩
    rintro σ' H9 ⟨⟨x6, x7, rfl⟩, b9, g9, lack, hlk9, hlen⟩
    have hJ9 : JrnS H9 d J := hJ6.but (st6 b9) fun kvs h => b9 _ _ h ndp
    have hpl9 := (st6 b9).lst _ _ hpl6
    have h8 := hB.n
    have hpm := srt_perm (keysJ J)
    have hkl : (srt (keysJ J)).length ≤ 8 := by rw [srt_len, List.length_map]; exact h8
    refine q_when (b := false) (et_is (b := false) (et_not (a := true) (et_B fun H10 e10 Q k => ?_)) rfl) (fun z => absurd z (by decide)) (fun _ H10 e10 => ?_)
    · refine ⟨.ref d, rfl, el_sortedD (ev_var rfl) hJ9 (by omega) H10 e10 _ fun sl H11 nsl e11 hsl => ?_⟩
      refine ⟨d, sl, J, srt (keysJ J), rfl, hJ9.ex (e10.trans e11), hsl, hpm.nodup_iff.mpr hB.nd, fun o ho => hpm.mem_iff.mp ho, hkl, hB, fun g H12 ng e12 hJg => ?_⟩
      refine ⟨g, .ref aE, _, [], rfl, hJg, bnd_copy hpm hB, ⟨aE, rfl, .inr (hE _)⟩, fun l H13 nl e13 hr => ?_⟩
      rw [rows_copy hpm []] at hr
      have e1013 := (e11.trans e12).trans e13
      refine ⟨.ref d, rfl, el_lst ea_nil (by decide) H13 (e10.trans e1013) _ fun z H14 nz e14 hz => ?_⟩
      refine ⟨d, .ref z, J, [], rfl, hJ9.ex ((e10.trans e1013).trans e14), hB, ⟨z, rfl, .inl (sq_of hz)⟩, fun l2 H15 nl2 e15 hr2 => ?_⟩
      exact ⟨l, l2, _, rfl, (hr.ex e14).ex e15, hr2, fun r hr => rows_ok hr, by have := rows_len hB []; omega, fun H16 e16 => k H16 (((e1013.trans e14).trans e15).trans e16)⟩
    have g10 := g9.ex e10
    have hJ10 := hJ9.ex e10
    have hpl10 := e10 _ _ hpl9
    have hlk10 := e10 _ _ hlk9
    refine q_forB (R := Ex) (G := TG0) (dv_trio (a := lk) (b := pl) (fun _ => ev_var rfl) (fun _ => ev_var rfl)) trivial ?_
    rintro v H11 e11 _ ⟨b, z, rfl, hb, hz⟩
    have g11 := g10.ex e11
    have hJ11 := hJ10.ex e11
    have hpl11 := e11 _ _ hpl10
    have hlk11 := e11 _ _ hlk10
    have st11 : ∀ {H'}, But p H11 H' → Stay H11 H' := fun {H'} b => (rlP p c).st g11 b
    have judge : ∀ {H' : Hp} {x : Addr} {lackX : List Int} {tp td tx : TE} {σ : L2.St} {Q : VK}, But p H11 H' → PkAt p c H' → H' x = some (.lst (lackX.map V.int)) → Ev tp σ H' (.ref p) → Ev td σ H' (.ref d) → Ev tx σ H' (.ref x) → (∀ H2, But p H' H2 → PkAt p c H2 → Q (.bl true) H2) →
        tCall spJudged [] E0 (tCons tp (tCons td (tCons tx tNil))) σ H' Q := fun {H' x lackX tp td tx σ Q} b g hx h1 h2 h3 k =>
      ea_cons h1 (ea_cons h2 (ea_cons h3 ea_nil)) H' (Ex.refl _) _ fun H2 e2 => ⟨p, c, d, x, J, lackX, rfl, g.ex e2, (hJ11.but (st11 b) fun kvs h => b _ _ h ndp).ex e2, hB, hJ0, ndp, e2 _ _ hx, fun H3 b3 g3 => k H3 ((But.of_ex e2).trans b3) g3⟩
    refine q_forLn (xs := [.ref z, .ref lk, .ref pl]) ev_c (sq_of hb) (fun i σ' H' => (∃ x8, σ' = [some (.ref a), some (.ref p), some (.ref sc), some (.ref d), some (.ref pl), some (.ref lk), x6, x7, x8]) ∧ But p H11 H' ∧ PkAt p c H')
      (fun H12 e12 => ⟨⟨_, rfl⟩, But.of_ex e12, g11.ex e12⟩) (fun i σ' H' _ h => sq_of ((st11 h.2.1).lst _ _ hb)) ?_ ?_
    · rintro i x σ' H12 hx ⟨⟨x8, rfl⟩, b12, g12⟩
      have : ∃ (xa : Addr) (lackX : List Int), x = .ref xa ∧ H12 xa = some (.lst (lackX.map V.int)) := by
        rcases List.mem_cons.mp (List.mem_of_getElem? hx) with rfl | hm
        · exact ⟨z, [], rfl, (st11 b12).lst _ _ hz⟩
        rcases List.mem_cons.mp hm with rfl | hm
        · exact ⟨lk, lack, rfl, (st11 b12).lst _ _ hlk11⟩
        · rw [List.mem_singleton.mp hm]
          exact ⟨pl, ps, rfl, (st11 b12).lst _ _ hpl11⟩
      obtain ⟨xa, lackX, rfl, hxa⟩ := this
      refine s_whenJ (p := p) (c := c) (fun Q k => ?_) (fun H13 b13 g13 => ⟨⟨_, rfl⟩, b12.trans b13, g13⟩)
      exact judge b12 g12 hxa (ev_var rfl) (ev_var rfl) (ev_var rfl) fun H13 b13 g13 => ⟨true, rfl, k H13 b13 g13⟩
    rintro σ' H12 ⟨⟨x8, rfl⟩, b12, g12⟩
    have hJ12 : JrnS H12 d J := hJ11.but (st11 b12) fun kvs h => b12 _ _ h ndp
    have hpl12 := (st11 b12).lst _ _ hpl11
    have hlk12 := (st11 b12).lst _ _ hlk11
    have thin : ∀ {H' : Hp} {xa : Addr} {lackX : List Int} {j : Nat} {Q : VK}, But p H12 H' → PkAt p c H' → H' xa = some (.lst (lackX.map V.int)) → ([some (.ref a), some (.ref p), some (.ref sc), some (.ref d), some (.ref pl), some (.ref lk), x6, x7, x8] : L2.St)[j]? = some (some (.ref xa)) → (∀ H2, But p H' H2 → PkAt p c H2 → Q (.bl true) H2) →
        tCall spJudged [] E0 (tCons (tVar 1) (tCons (tCall spThin [] E0 (tCons (tVar 1) (tCons (tVar 3) (tCons (tVar j) tNil)))) (tCons (tVar 5) tNil))) [some (.ref a), some (.ref p), some (.ref sc), some (.ref d), some (.ref pl), some (.ref lk), x6, x7, x8] H' Q := fun {H' xa lackX j Q} b g hxa hj k => by
      have s' : Stay H12 H' := (rlP p c).st g12 b
      have hJ' : JrnS H' d J := hJ12.but s' fun kvs h => b _ _ h ndp
      refine ⟨.ref p, rfl, .ref p, rfl, .ref d, rfl, .ref xa, hj, ?_⟩
      refine ⟨p, c, d, xa, J, lackX, rfl, g, hJ', hB, hJ0, ndp, hxa, fun d2 J2 H2 b2 g2 hJ2 hB2 h02 nd2 => ?_⟩
      exact ⟨.ref lk, rfl, p, c, d2, lk, J2, lack, rfl, g2, hJ2, hB2, h02, nd2, ((rlP p c).st g b2).lst _ _ (s'.lst _ _ hlk12), fun H3 b3 g3 => k H3 (b2.trans b3) g3⟩
    refine q_whenJ (p := p) (c := c) (fun Q k => ?_) fun H13 b13 g13 => ?_
    · exact thin (j := 4) (But.refl p H12) g12 hpl12 rfl fun H13 b13 g13 => ⟨true, rfl, k H13 b13 g13⟩
    · exact thin (j := 5) b13 g13 (((rlP p c).st g12 b13).lst _ _ hlk12) rfl fun H14 _ _ => q H14
end
end Lr
set_option Elab.async false
set_option linter.all false
set_option maxRecDepth 100000
set_option maxHeartbeats 0
namespace Lr
open PySem PySem.Spec PyProof.Rows L2
/-! ### the head: facts by names, the run -/
def dd (i : Nat) (x : Str) (kw : List (Str × He.Dv)) : He.DefD := ⟨(x, none), x, x, defArgs (top i), defBody (top i), defScope (top i), [], kw⟩
def kwA (x : Str) (K : PySem.W.Frag) : Addr := match K.lookup (He.fAd K (x, none)) with
  | some ⟨_, _, .func fd, _⟩ => (match fd.kwdefaults with
    | .ref D => (match PySem.W.nsIn K D "partial" with
      | some (some (.ref a)) => a
      | _ => 0)
    | _ => 0)
  | _ => 0
def fnL : List He.DefD := [dd 1 "whole" [],
  dd 5 "rank" [],
  dd 9 "is_entry" [],
  dd 10 "entry_rank" [],
  dd 11 "stated_facts" [],
  dd 12 "is_wrong_doubt" [],
  dd 13 "run_reason" [],
  dd 14 "is_unsaid" [],
  dd 15 "run_reasons" [],
  dd 16 "wrong_entries" [("partial", .adr (kwA "wrong_entries"))],
  dd 17 "first_wrong" [("partial", .adr (kwA "first_wrong"))],
  dd 19 "_law_pack" [],
  dd 20 "_law_draw" [],
  dd 21 "_law_pool" [],
  dd 22 "_law_odd" [],
  dd 23 "_law_whole" [],
  dd 24 "_law_formed" [],
  dd 25 "_law_rank" [],
  dd 26 "_law_said" [],
  dd 27 "_law_last" [],
  dd 28 "_law_sourced" [],
  dd 29 "_law_doubtful" [],
  dd 30 "_law_reason" [],
  dd 31 "_law_due" [],
  dd 32 "_law_next_own" [],
  dd 33 "_law_heard" [],
  dd 34 "_law_calmly" [],
  dd 35 "_law_behind" [],
  dd 36 "_law_entry" [],
  dd 37 "_law_scene" [],
  dd 38 "_law_copied" [],
  dd 39 "_law_thinned" [],
  dd 40 "_law_same_word" [],
  dd 41 "_law_same_list" [],
  dd 42 "_law_judged" [],
  dd 43 "law" []]
def faL : List He.Fa := [.glo "whole", .glo "rank", .glo "is_entry", .glo "entry_rank", .glo "stated_facts", .glo "is_wrong_doubt", .glo "run_reason", .glo "is_unsaid", .glo "run_reasons", .glo "wrong_entries", .glo "first_wrong", .glo "_law_pack", .glo "_law_draw", .glo "_law_pool", .glo "_law_odd", .glo "_law_whole", .glo "_law_formed", .glo "_law_rank", .glo "_law_said", .glo "_law_last", .glo "_law_sourced", .glo "_law_doubtful", .glo "_law_reason", .glo "_law_due", .glo "_law_next_own", .glo "_law_heard", .glo "_law_calmly", .glo "_law_behind", .glo "_law_entry", .glo "_law_scene", .glo "_law_copied", .glo "_law_thinned", .glo "_law_same_word", .glo "_law_same_list", .glo "_law_judged", .glo "law", .glo "MARKS", .glo "MARK_STEPS", .glo "OWN_MARKS", .glo "MARK_BEFORE", .free "len", .free "isinstance", .free "int", .free "bool", .free "str", .free "tuple", .free "list", .free "sorted", .free "abs", .free "range", .free "enumerate"]
def tsL : List He.Tab := [((fun K => He.ga K "MARK_STEPS"), ["alive", "suspect", "dead", "left"]), ((fun K => He.ga K "MARK_BEFORE"), ["suspect", "dead"])]
def emptyT (K : PySem.W.Frag) (a : Addr) : Bool := match K.lookup a with
  | some ⟨.type c, _, .seq its _, _⟩ => decide (c = "tuple") && its.isEmpty
  | _ => false
def exL (K : PySem.W.Frag) : Bool := He.tupB K "MARKS" [.str "alive", .str "suspect", .str "dead", .str "left"] && (He.tupB K "OWN_MARKS" [.str "alive", .str "left"] &&
  (He.valsB K (He.ga K "MARK_STEPS") [("alive", .int 1), ("suspect", .int 2), ("dead", .int 3), ("left", .int 4)] && (He.valsB K (He.ga K "MARK_BEFORE") [("suspect", .str "alive"), ("dead", .str "suspect")] &&
  (emptyT K (kwA "wrong_entries" K) && emptyT K (kwA "first_wrong" K)))))
def looseA : List Str := ["whole", "rank", "is_entry", "entry_rank", "stated_facts", "is_wrong_doubt", "run_reason", "is_unsaid", "run_reasons", "wrong_entries", "first_wrong", "_law_pack", "_law_draw", "_law_pool", "_law_odd", "_law_whole", "_law_formed", "_law_rank", "_law_said", "_law_last"]
def looseB : List Str := ["_law_sourced", "_law_doubtful", "_law_reason", "_law_due", "_law_next_own", "_law_heard", "_law_calmly", "_law_behind", "_law_entry", "_law_scene", "_law_copied", "_law_thinned", "_law_same_word", "_law_same_list", "_law_judged", "MARKS", "MARK_STEPS", "OWN_MARKS", "MARK_BEFORE", "__name__"]
abbrev R : PySem.W.OpenRow := PySem.W.OpenLaw.row PySem.Challenge.rw_livingroll_k58_whole_journals_judged
abbrev hk : PySem.W.Hook := He.hookX 4 faL fnL tsL [] exL
def ob (s : PySem.W.SharedT) : He.AlX := He.obsX 4 faL fnL tsL [] exL (HandSHeadRun.getT s)
theorem ob_eq (s : PySem.W.SharedT) : ob s = hk.obs s.abs := He.obsX_eq (HandSHeadRun.getT_eq s)
theorem run (w : World) : HandSHeadRun.RunEq R (PySem.W.view R.prog [43]) hk ob 2000 (looseA ++ looseB) w := by
  refine PySem.W.byRow2 "special-get-raises" (P := fun w => HandSHeadRun.RunEq R (PySem.W.view R.prog [43]) hk ob 2000 (looseA ++ looseB) w) (fun w => ?_) (fun w => ?_) w
  · intro os
    kernel_rfl
  · intro os
    kernel_rfl
end Lr
set_option Elab.async false
set_option linter.all false
set_option maxRecDepth 100000
set_option maxHeartbeats 4000000
namespace Lr
open PySem PySem.Spec PyProof.Rows L2
theorem emptyT_ok {K : PySem.W.Frag} {a : Addr} (h : emptyT K a = true) (H : Hp) : SqT K H a [] := by
  unfold emptyT at h
  cases q : K.lookup a with
  | none =>
    rw [q] at h
    cases h
  | some o =>
    obtain ⟨oc, od, dt, osl⟩ := o
    rw [q] at h
    cases oc with
    | type c =>
      cases dt with
      | seq its n =>
        obtain ⟨h1, h2⟩ := He.ba (show (decide (c = "tuple") && its.isEmpty) = true from h)
        have e : its = #[] := Array.isEmpty_iff.mp h2
        subst e
        exact .inr ⟨_, #[], n, q, congrArg Value.type (of_decide_eq_true h1), rfl, Nat.zero_le _, .nil⟩
      | _ => cases h
    | _ => cases dt <;> cases h
theorem kdct_of {K : PySem.W.Frag} {w : World} {a : Addr} {kvs : List (Str × He.Dv)} (h1 : ∃ es n, KDict K w a es n) (h2 : He.valsB K a kvs = true) {x : Str} {d : He.Dv} (hm : (x, d) ∈ kvs) : KDct K w a x (d.v K) := by
  obtain ⟨es, n, h⟩ := h1
  obtain ⟨u, e, r⟩ := He.valsB_ok h2 hm
  exact ⟨es, n, u, h.1, h.2, e, r⟩
/-- the binding of a call that leaves the keyword away -/
theorem dbk_of {K : PySem.W.Frag} {x : Str} {st : Stmt} {aE f : Addr} {fd : FuncData} (F : FnK K x st aE f fd)
    (h : ∀ (D : Addr) (doc pm : Value) (an : Option Addr) (cdv ct : Value) (us ks : List Value), us.length = 1 → ks.length = 1 → KwChain D ([("partial" : Str)].zip ks) (bindArgs (PySem.W.fnOf x x (defArgs st) (defBody st) (defScope st) .none (.ref D) doc pm an cdv ct) ⟨us, []⟩) (([("journals" : Str), "partial"] : List Str).zip (us ++ ks))) :
    Binds K fd ["journals", "partial"] [.ref aE] := by
  obtain ⟨ds, hv, hb⟩ := FunD.binds0 (ps := ["journals", "partial"]) F 1 (by simp) rfl h
  cases hv with
  | cons r t =>
    cases t
    cases r
    exact hb
theorem facts {P : Program} {w : World} {K : PySem.W.Frag} {h : Heap} {mg : Str → Option Value} {f : Addr} (X : K.In h) (G : h.Ns mainGlobals mg) (hfa : mg ("law" : Str) = some (.ref f)) (c : He.SaysX faL fnL tsL [] exL w h K) :
    ∃ fd : FuncData, (∀ (s : Shared) (v : Value), BindsTo s fd ⟨[v], []⟩ [("_law_script", v)]) ∧ ∀ base : Heap, K.In base → base.Ns mainGlobals mg → FnOk P w K mg base CX0 9 f fd ["_law_script"] (spLaw K) := by
  have cd : He.SaysD faL fnL K := c.t.d
  obtain ⟨x1, xr⟩ := He.ba (show (_ && _) = true from c.more)
  obtain ⟨x2, xr⟩ := He.ba xr
  obtain ⟨x3, xr⟩ := He.ba xr
  obtain ⟨x4, xr⟩ := He.ba xr
  obtain ⟨x5, x6⟩ := He.ba xr
  have T : Tx K w mg (He.ga K "MARKS") (He.ga K "MARK_STEPS") (He.ga K "OWN_MARKS") (He.ga K "MARK_BEFORE") := {
    MARKS := He.glo_ok X G (cd.fact 36 (f := .glo "MARKS") rfl)
    MARK_STEPS := He.glo_ok X G (cd.fact 37 (f := .glo "MARK_STEPS") rfl)
    OWN_MARKS := He.glo_ok X G (cd.fact 38 (f := .glo "OWN_MARKS") rfl)
    MARK_BEFORE := He.glo_ok X G (cd.fact 39 (f := .glo "MARK_BEFORE") rfl)
    len := He.free_ok X G (cd.fact 40 (f := .free "len") rfl)
    isinstance := He.free_ok X G (cd.fact 41 (f := .free "isinstance") rfl)
    int := He.free_ok X G (cd.fact 42 (f := .free "int") rfl)
    bool := He.free_ok X G (cd.fact 43 (f := .free "bool") rfl)
    str := He.free_ok X G (cd.fact 44 (f := .free "str") rfl)
    tuple := He.free_ok X G (cd.fact 45 (f := .free "tuple") rfl)
    list := He.free_ok X G (cd.fact 46 (f := .free "list") rfl)
    sorted := He.free_ok X G (cd.fact 47 (f := .free "sorted") rfl)
    abs := He.free_ok X G (cd.fact 48 (f := .free "abs") rfl)
    range := He.free_ok X G (cd.fact 49 (f := .free "range") rfl)
    enumerate := He.free_ok X G (cd.fact 50 (f := .free "enumerate") rfl)
    tM := fun H => He.tupB_ok x1 H
    tO := fun H => He.tupB_ok x2 H
    s1 := kdct_of (x := "alive") (d := .int 1) (c.t.tab 0 (t := ((fun K => He.ga K "MARK_STEPS"), ["alive", "suspect", "dead", "left"])) rfl) x3 (by simp)
    s2 := kdct_of (x := "suspect") (d := .int 2) (c.t.tab 0 (t := ((fun K => He.ga K "MARK_STEPS"), ["alive", "suspect", "dead", "left"])) rfl) x3 (by simp)
    s3 := kdct_of (x := "dead") (d := .int 3) (c.t.tab 0 (t := ((fun K => He.ga K "MARK_STEPS"), ["alive", "suspect", "dead", "left"])) rfl) x3 (by simp)
    s4 := kdct_of (x := "left") (d := .int 4) (c.t.tab 0 (t := ((fun K => He.ga K "MARK_STEPS"), ["alive", "suspect", "dead", "left"])) rfl) x3 (by simp)
    b1 := kdct_of (x := "suspect") (d := .str "alive") (c.t.tab 1 (t := ((fun K => He.ga K "MARK_BEFORE"), ["suspect", "dead"])) rfl) x4 (by simp)
    b2 := kdct_of (x := "dead") (d := .str "suspect") (c.t.tab 1 (t := ((fun K => He.ga K "MARK_BEFORE"), ["suspect", "dead"])) rfl) x4 (by simp)
  }
  obtain ⟨fd1, F1⟩ : ∃ fd1, FnP K "whole" (top 1) (He.ga K "whole") fd1 := cd.def_ 0 (d := dd 1 "whole" []) rfl
  have g1 : mg "whole" = some (.ref (He.ga K "whole")) := He.glo_ok X G (cd.fact 0 (f := .glo "whole") rfl)
  obtain ⟨fd5, F5⟩ : ∃ fd5, FnP K "rank" (top 5) (He.ga K "rank") fd5 := cd.def_ 1 (d := dd 5 "rank" []) rfl
  have g5 : mg "rank" = some (.ref (He.ga K "rank")) := He.glo_ok X G (cd.fact 1 (f := .glo "rank") rfl)
  obtain ⟨fd9, F9⟩ : ∃ fd9, FnP K "is_entry" (top 9) (He.ga K "is_entry") fd9 := cd.def_ 2 (d := dd 9 "is_entry" []) rfl
  have g9 : mg "is_entry" = some (.ref (He.ga K "is_entry")) := He.glo_ok X G (cd.fact 2 (f := .glo "is_entry") rfl)
  obtain ⟨fd10, F10⟩ : ∃ fd10, FnP K "entry_rank" (top 10) (He.ga K "entry_rank") fd10 := cd.def_ 3 (d := dd 10 "entry_rank" []) rfl
  have g10 : mg "entry_rank" = some (.ref (He.ga K "entry_rank")) := He.glo_ok X G (cd.fact 3 (f := .glo "entry_rank") rfl)
  obtain ⟨fd11, F11⟩ : ∃ fd11, FnP K "stated_facts" (top 11) (He.ga K "stated_facts") fd11 := cd.def_ 4 (d := dd 11 "stated_facts" []) rfl
  have g11 : mg "stated_facts" = some (.ref (He.ga K "stated_facts")) := He.glo_ok X G (cd.fact 4 (f := .glo "stated_facts") rfl)
  obtain ⟨fd12, F12⟩ : ∃ fd12, FnP K "is_wrong_doubt" (top 12) (He.ga K "is_wrong_doubt") fd12 := cd.def_ 5 (d := dd 12 "is_wrong_doubt" []) rfl
  have g12 : mg "is_wrong_doubt" = some (.ref (He.ga K "is_wrong_doubt")) := He.glo_ok X G (cd.fact 5 (f := .glo "is_wrong_doubt") rfl)
  obtain ⟨fd13, F13⟩ : ∃ fd13, FnP K "run_reason" (top 13) (He.ga K "run_reason") fd13 := cd.def_ 6 (d := dd 13 "run_reason" []) rfl
  have g13 : mg "run_reason" = some (.ref (He.ga K "run_reason")) := He.glo_ok X G (cd.fact 6 (f := .glo "run_reason") rfl)
  obtain ⟨fd14, F14⟩ : ∃ fd14, FnP K "is_unsaid" (top 14) (He.ga K "is_unsaid") fd14 := cd.def_ 7 (d := dd 14 "is_unsaid" []) rfl
  have g14 : mg "is_unsaid" = some (.ref (He.ga K "is_unsaid")) := He.glo_ok X G (cd.fact 7 (f := .glo "is_unsaid") rfl)
  obtain ⟨fd15, F15⟩ : ∃ fd15, FnP K "run_reasons" (top 15) (He.ga K "run_reasons") fd15 := cd.def_ 8 (d := dd 15 "run_reasons" []) rfl
  have g15 : mg "run_reasons" = some (.ref (He.ga K "run_reasons")) := He.glo_ok X G (cd.fact 8 (f := .glo "run_reasons") rfl)
  obtain ⟨fd16, F16⟩ : ∃ fd16, FnK K "wrong_entries" (top 16) (kwA "wrong_entries" K) (He.ga K "wrong_entries") fd16 := cd.def_ 9 (d := dd 16 "wrong_entries" [("partial", .adr (kwA "wrong_entries"))]) rfl
  have g16 : mg "wrong_entries" = some (.ref (He.ga K "wrong_entries")) := He.glo_ok X G (cd.fact 9 (f := .glo "wrong_entries") rfl)
  obtain ⟨fd17, F17⟩ : ∃ fd17, FnK K "first_wrong" (top 17) (kwA "first_wrong" K) (He.ga K "first_wrong") fd17 := cd.def_ 10 (d := dd 17 "first_wrong" [("partial", .adr (kwA "first_wrong"))]) rfl
  have g17 : mg "first_wrong" = some (.ref (He.ga K "first_wrong")) := He.glo_ok X G (cd.fact 10 (f := .glo "first_wrong") rfl)
  obtain ⟨fd19, F19⟩ : ∃ fd19, FnP K "_law_pack" (top 19) (He.ga K "_law_pack") fd19 := cd.def_ 11 (d := dd 19 "_law_pack" []) rfl
  have g19 : mg "_law_pack" = some (.ref (He.ga K "_law_pack")) := He.glo_ok X G (cd.fact 11 (f := .glo "_law_pack") rfl)
  obtain ⟨fd20, F20⟩ : ∃ fd20, FnP K "_law_draw" (top 20) (He.ga K "_law_draw") fd20 := cd.def_ 12 (d := dd 20 "_law_draw" []) rfl
  have g20 : mg "_law_draw" = some (.ref (He.ga K "_law_draw")) := He.glo_ok X G (cd.fact 12 (f := .glo "_law_draw") rfl)
  obtain ⟨fd21, F21⟩ : ∃ fd21, FnP K "_law_pool" (top 21) (He.ga K "_law_pool") fd21 := cd.def_ 13 (d := dd 21 "_law_pool" []) rfl
  have g21 : mg "_law_pool" = some (.ref (He.ga K "_law_pool")) := He.glo_ok X G (cd.fact 13 (f := .glo "_law_pool") rfl)
  obtain ⟨fd22, F22⟩ : ∃ fd22, FnP K "_law_odd" (top 22) (He.ga K "_law_odd") fd22 := cd.def_ 14 (d := dd 22 "_law_odd" []) rfl
  have g22 : mg "_law_odd" = some (.ref (He.ga K "_law_odd")) := He.glo_ok X G (cd.fact 14 (f := .glo "_law_odd") rfl)
  obtain ⟨fd23, F23⟩ : ∃ fd23, FnP K "_law_whole" (top 23) (He.ga K "_law_whole") fd23 := cd.def_ 15 (d := dd 23 "_law_whole" []) rfl
  have g23 : mg "_law_whole" = some (.ref (He.ga K "_law_whole")) := He.glo_ok X G (cd.fact 15 (f := .glo "_law_whole") rfl)
  obtain ⟨fd24, F24⟩ : ∃ fd24, FnP K "_law_formed" (top 24) (He.ga K "_law_formed") fd24 := cd.def_ 16 (d := dd 24 "_law_formed" []) rfl
  have g24 : mg "_law_formed" = some (.ref (He.ga K "_law_formed")) := He.glo_ok X G (cd.fact 16 (f := .glo "_law_formed") rfl)
  obtain ⟨fd25, F25⟩ : ∃ fd25, FnP K "_law_rank" (top 25) (He.ga K "_law_rank") fd25 := cd.def_ 17 (d := dd 25 "_law_rank" []) rfl
  have g25 : mg "_law_rank" = some (.ref (He.ga K "_law_rank")) := He.glo_ok X G (cd.fact 17 (f := .glo "_law_rank") rfl)
  obtain ⟨fd26, F26⟩ : ∃ fd26, FnP K "_law_said" (top 26) (He.ga K "_law_said") fd26 := cd.def_ 18 (d := dd 26 "_law_said" []) rfl
  have g26 : mg "_law_said" = some (.ref (He.ga K "_law_said")) := He.glo_ok X G (cd.fact 18 (f := .glo "_law_said") rfl)
  obtain ⟨fd27, F27⟩ : ∃ fd27, FnP K "_law_last" (top 27) (He.ga K "_law_last") fd27 := cd.def_ 19 (d := dd 27 "_law_last" []) rfl
  have g27 : mg "_law_last" = some (.ref (He.ga K "_law_last")) := He.glo_ok X G (cd.fact 19 (f := .glo "_law_last") rfl)
  obtain ⟨fd28, F28⟩ : ∃ fd28, FnP K "_law_sourced" (top 28) (He.ga K "_law_sourced") fd28 := cd.def_ 20 (d := dd 28 "_law_sourced" []) rfl
  have g28 : mg "_law_sourced" = some (.ref (He.ga K "_law_sourced")) := He.glo_ok X G (cd.fact 20 (f := .glo "_law_sourced") rfl)
  obtain ⟨fd29, F29⟩ : ∃ fd29, FnP K "_law_doubtful" (top 29) (He.ga K "_law_doubtful") fd29 := cd.def_ 21 (d := dd 29 "_law_doubtful" []) rfl
  have g29 : mg "_law_doubtful" = some (.ref (He.ga K "_law_doubtful")) := He.glo_ok X G (cd.fact 21 (f := .glo "_law_doubtful") rfl)
  obtain ⟨fd30, F30⟩ : ∃ fd30, FnP K "_law_reason" (top 30) (He.ga K "_law_reason") fd30 := cd.def_ 22 (d := dd 30 "_law_reason" []) rfl
  have g30 : mg "_law_reason" = some (.ref (He.ga K "_law_reason")) := He.glo_ok X G (cd.fact 22 (f := .glo "_law_reason") rfl)
  obtain ⟨fd31, F31⟩ : ∃ fd31, FnP K "_law_due" (top 31) (He.ga K "_law_due") fd31 := cd.def_ 23 (d := dd 31 "_law_due" []) rfl
  have g31 : mg "_law_due" = some (.ref (He.ga K "_law_due")) := He.glo_ok X G (cd.fact 23 (f := .glo "_law_due") rfl)
  obtain ⟨fd32, F32⟩ : ∃ fd32, FnP K "_law_next_own" (top 32) (He.ga K "_law_next_own") fd32 := cd.def_ 24 (d := dd 32 "_law_next_own" []) rfl
  have g32 : mg "_law_next_own" = some (.ref (He.ga K "_law_next_own")) := He.glo_ok X G (cd.fact 24 (f := .glo "_law_next_own") rfl)
  obtain ⟨fd33, F33⟩ : ∃ fd33, FnP K "_law_heard" (top 33) (He.ga K "_law_heard") fd33 := cd.def_ 25 (d := dd 33 "_law_heard" []) rfl
  have g33 : mg "_law_heard" = some (.ref (He.ga K "_law_heard")) := He.glo_ok X G (cd.fact 25 (f := .glo "_law_heard") rfl)
  obtain ⟨fd34, F34⟩ : ∃ fd34, FnP K "_law_calmly" (top 34) (He.ga K "_law_calmly") fd34 := cd.def_ 26 (d := dd 34 "_law_calmly" []) rfl
  have g34 : mg "_law_calmly" = some (.ref (He.ga K "_law_calmly")) := He.glo_ok X G (cd.fact 26 (f := .glo "_law_calmly") rfl)
  obtain ⟨fd35, F35⟩ : ∃ fd35, FnP K "_law_behind" (top 35) (He.ga K "_law_behind") fd35 := cd.def_ 27 (d := dd 35 "_law_behind" []) rfl
  have g35 : mg "_law_behind" = some (.ref (He.ga K "_law_behind")) := He.glo_ok X G (cd.fact 27 (f := .glo "_law_behind") rfl)
  obtain ⟨fd36, F36⟩ : ∃ fd36, FnP K "_law_entry" (top 36) (He.ga K "_law_entry") fd36 := cd.def_ 28 (d := dd 36 "_law_entry" []) rfl
  have g36 : mg "_law_entry" = some (.ref (He.ga K "_law_entry")) := He.glo_ok X G (cd.fact 28 (f := .glo "_law_entry") rfl)
  obtain ⟨fd37, F37⟩ : ∃ fd37, FnP K "_law_scene" (top 37) (He.ga K "_law_scene") fd37 := cd.def_ 29 (d := dd 37 "_law_scene" []) rfl
  have g37 : mg "_law_scene" = some (.ref (He.ga K "_law_scene")) := He.glo_ok X G (cd.fact 29 (f := .glo "_law_scene") rfl)
  obtain ⟨fd38, F38⟩ : ∃ fd38, FnP K "_law_copied" (top 38) (He.ga K "_law_copied") fd38 := cd.def_ 30 (d := dd 38 "_law_copied" []) rfl
  have g38 : mg "_law_copied" = some (.ref (He.ga K "_law_copied")) := He.glo_ok X G (cd.fact 30 (f := .glo "_law_copied") rfl)
  obtain ⟨fd39, F39⟩ : ∃ fd39, FnP K "_law_thinned" (top 39) (He.ga K "_law_thinned") fd39 := cd.def_ 31 (d := dd 39 "_law_thinned" []) rfl
  have g39 : mg "_law_thinned" = some (.ref (He.ga K "_law_thinned")) := He.glo_ok X G (cd.fact 31 (f := .glo "_law_thinned") rfl)
  obtain ⟨fd40, F40⟩ : ∃ fd40, FnP K "_law_same_word" (top 40) (He.ga K "_law_same_word") fd40 := cd.def_ 32 (d := dd 40 "_law_same_word" []) rfl
  have g40 : mg "_law_same_word" = some (.ref (He.ga K "_law_same_word")) := He.glo_ok X G (cd.fact 32 (f := .glo "_law_same_word") rfl)
  obtain ⟨fd41, F41⟩ : ∃ fd41, FnP K "_law_same_list" (top 41) (He.ga K "_law_same_list") fd41 := cd.def_ 33 (d := dd 41 "_law_same_list" []) rfl
  have g41 : mg "_law_same_list" = some (.ref (He.ga K "_law_same_list")) := He.glo_ok X G (cd.fact 33 (f := .glo "_law_same_list") rfl)
  obtain ⟨fd42, F42⟩ : ∃ fd42, FnP K "_law_judged" (top 42) (He.ga K "_law_judged") fd42 := cd.def_ 34 (d := dd 42 "_law_judged" []) rfl
  have g42 : mg "_law_judged" = some (.ref (He.ga K "_law_judged")) := He.glo_ok X G (cd.fact 34 (f := .glo "_law_judged") rfl)
  obtain ⟨fd43, F43⟩ : ∃ fd43, FnP K "law" (top 43) (He.ga K "law") fd43 := cd.def_ 35 (d := dd 43 "law" []) rfl
  have g43 : mg "law" = some (.ref (He.ga K "law")) := He.glo_ok X G (cd.fact 35 (f := .glo "law") rfl)
  have e := hfa.symm.trans g43
  cases e
  have b := FunD.bindsA (ps := ["_law_script"]) F43 fun _ _ _ _ _ _ us hl => match us, hl with | [_], _ => rfl
  refine ⟨fd43, fun s v => b s [v] rfl, fun base _ _ => ?_⟩
  have C1 : Cal P w K mg base "whole" 1 ["value", "low", "high"] spWhole (He.ga K "whole") fd1 := FunD.cal F1 (ok_whole F1 T) g1 fun _ _ _ _ _ _ us hl => match us, hl with | [_, _, _], _ => rfl
  have C5 : Cal P w K mg base "rank" 1 ["saying"] spRank (He.ga K "rank") fd5 := FunD.cal F5 (ok_rank F5 T) g5 fun _ _ _ _ _ _ us hl => match us, hl with | [_], _ => rfl
  have C9 : Cal P w K mg base "is_entry" 2 ["entry"] spFormed (He.ga K "is_entry") fd9 := FunD.cal F9 (ok_is_entry F9 T C1) g9 fun _ _ _ _ _ _ us hl => match us, hl with | [_], _ => rfl
  have C10 : Cal P w K mg base "entry_rank" 2 ["entry"] spERank (He.ga K "entry_rank") fd10 := FunD.cal F10 (ok_entry_rank F10 T C5) g10 fun _ _ _ _ _ _ us hl => match us, hl with | [_], _ => rfl
  have C11 : Cal P w K mg base "stated_facts" 3 ["journals"] spFacts (He.ga K "stated_facts") fd11 := FunD.cal F11 (ok_stated_facts F11 T C9) g11 fun _ _ _ _ _ _ us hl => match us, hl with | [_], _ => rfl
  have C12 : Cal P w K mg base "is_wrong_doubt" 1 ["entry", "before", "lacking"] spDoubt (He.ga K "is_wrong_doubt") fd12 := FunD.cal F12 (ok_is_wrong_doubt F12 T) g12 fun _ _ _ _ _ _ us hl => match us, hl with | [_, _, _], _ => rfl
  have C13 : Cal P w K mg base "run_reason" 3 ["owner", "entry", "before", "sourced", "lacking"] spReason (He.ga K "run_reason") fd13 := FunD.cal F13 (ok_run_reason F13 T C10 C12) g13 fun _ _ _ _ _ _ us hl => match us, hl with | [_, _, _, _, _], _ => rfl
  have C14 : Cal P w K mg base "is_unsaid" 1 ["owner", "entry", "partial", "facts"] (spUnsaid K) (He.ga K "is_unsaid") fd14 := FunD.cal F14 (ok_is_unsaid F14 T) g14 fun _ _ _ _ _ _ us hl => match us, hl with | [_, _, _, _], _ => rfl
  have C15 : Cal P w K mg base "run_reasons" 4 ["owner", "run", "partial", "facts"] (spRuns K) (He.ga K "run_reasons") fd15 := FunD.cal F15 (ok_run_reasons F15 T C9 C13 C14) g15 fun _ _ _ _ _ _ us hl => match us, hl with | [_, _, _, _], _ => rfl
  have C16 : CalK P w K mg base "wrong_entries" 5 (spWrong K) (kwA "wrong_entries" K) (He.ga K "wrong_entries") fd16 := ⟨ok_wrong_entries F16 T C11 C15, g16, F16.kp, kbn_of F16 (fun _ _ _ _ _ _ _ _ => rfl), dbk_of F16 fun D _ _ _ _ _ us ks hu hk => match us, ks, hu, hk with | [_], [_], _, _ => ⟨_, _, _, _, _, _, rfl, rfl, rfl⟩⟩
  have C17 : CalK P w K mg base "first_wrong" 6 (spFirst K) (kwA "first_wrong" K) (He.ga K "first_wrong") fd17 := ⟨ok_first_wrong F17 T C16, g17, F17.kp, kbn_of F17 (fun _ _ _ _ _ _ _ _ => rfl), dbk_of F17 fun D _ _ _ _ _ us ks hu hk => match us, ks, hu, hk with | [_], [_], _, _ => ⟨_, _, _, _, _, _, rfl, rfl, rfl⟩⟩
  have C19 : Cal P w K mg base "_law_pack" 1 ["_law_script"] (spPack K) (He.ga K "_law_pack") fd19 := FunD.cal F19 (ok_law_pack F19 T) g19 fun _ _ _ _ _ _ us hl => match us, hl with | [_], _ => rfl
  have C20 : Cal P w K mg base "_law_draw" 1 ["_law_pack_here", "_law_many"] spDraw (He.ga K "_law_draw") fd20 := FunD.cal F20 (ok_law_draw F20 T) g20 fun _ _ _ _ _ _ us hl => match us, hl with | [_, _], _ => rfl
  have C21 : Cal P w K mg base "_law_pool" 2 ["_law_pack_here", "_law_count", "_law_span"] spPool (He.ga K "_law_pool") fd21 := FunD.cal F21 (ok_law_pool F21 T C20) g21 fun _ _ _ _ _ _ us hl => match us, hl with | [_, _, _], _ => rfl
  have C22 : Cal P w K mg base "_law_odd" 1 ["_law_pick", "_law_seat", "_law_age", "_law_mark"] spOdd (He.ga K "_law_odd") fd22 := FunD.cal F22 (ok_law_odd F22 T) g22 fun _ _ _ _ _ _ us hl => match us, hl with | [_, _, _, _], _ => rfl
  have C23 : Cal P w K mg base "_law_whole" 1 ["_law_number"] spLWhole (He.ga K "_law_whole") fd23 := FunD.cal F23 (ok_law_whole F23 T) g23 fun _ _ _ _ _ _ us hl => match us, hl with | [_], _ => rfl
  have C24 : Cal P w K mg base "_law_formed" 2 ["_law_entry_here"] spFormed (He.ga K "_law_formed") fd24 := FunD.cal F24 (ok_law_formed F24 T C23) g24 fun _ _ _ _ _ _ us hl => match us, hl with | [_], _ => rfl
  have C25 : Cal P w K mg base "_law_rank" 1 ["_law_entry_here"] spRank (He.ga K "_law_rank") fd25 := FunD.cal F25 (ok_law_rank F25 T) g25 fun _ _ _ _ _ _ us hl => match us, hl with | [_], _ => rfl
  have C26 : Cal P w K mg base "_law_said" 3 ["_law_journal", "_law_entry_here"] spSaid (He.ga K "_law_said") fd26 := FunD.cal F26 (ok_law_said F26 T C24) g26 fun _ _ _ _ _ _ us hl => match us, hl with | [_, _], _ => rfl
  have C27 : Cal P w K mg base "_law_last" 3 ["_law_run", "_law_at", "_law_seat"] spLast (He.ga K "_law_last") fd27 := FunD.cal F27 (ok_law_last F27 T C24) g27 fun _ _ _ _ _ _ us hl => match us, hl with | [_, _, _], _ => rfl
  have C28 : Cal P w K mg base "_law_sourced" 3 ["_law_run", "_law_at"] spSourced (He.ga K "_law_sourced") fd28 := FunD.cal F28 (ok_law_sourced F28 T C24) g28 fun _ _ _ _ _ _ us hl => match us, hl with | [_, _], _ => rfl
  have C29 : Cal P w K mg base "_law_doubtful" 1 ["_law_entry_here", "_law_last_here", "_law_lenient"] spDoubt (He.ga K "_law_doubtful") fd29 := FunD.cal F29 (ok_law_doubtful F29 T) g29 fun _ _ _ _ _ _ us hl => match us, hl with | [_, _, _], _ => rfl
  have C30 : Cal P w K mg base "_law_reason" 4 ["_law_journals", "_law_lacking", "_law_owner", "_law_run", "_law_at"] (spLReason K) (He.ga K "_law_reason") fd30 := FunD.cal F30 (ok_law_reason F30 T C24 C25 C26 C27 C28 C29) g30 fun _ _ _ _ _ _ us hl => match us, hl with | [_, _, _, _, _], _ => rfl
  have C31 : Cal P w K mg base "_law_due" 5 ["_law_journals", "_law_lacking"] (spWrong K) (He.ga K "_law_due") fd31 := FunD.cal F31 (ok_law_due F31 T C30) g31 fun _ _ _ _ _ _ us hl => match us, hl with | [_, _], _ => rfl
  have C32 : Cal P w K mg base "_law_next_own" 4 ["_law_pack_here", "_law_owner", "_law_run", "_law_lowest"] spNext (He.ga K "_law_next_own") fd32 := FunD.cal F32 (ok_law_next_own F32 T C20 C27) g32 fun _ _ _ _ _ _ us hl => match us, hl with | [_, _, _, _], _ => rfl
  have C33 : Cal P w K mg base "_law_heard" 5 ["_law_pack_here", "_law_scene_here", "_law_owner", "_law_run"] (spEnt fun _ => True) (He.ga K "_law_heard") fd33 := FunD.cal F33 (ok_law_heard F33 T C20 C27 C32 C24 C25) g33 fun _ _ _ _ _ _ us hl => match us, hl with | [_, _, _, _], _ => rfl
  have C34 : Cal P w K mg base "_law_calmly" 5 ["_law_pack_here", "_law_scene_here", "_law_owner", "_law_run"] (spEnt fun _ => True) (He.ga K "_law_calmly") fd34 := FunD.cal F34 (ok_law_calmly F34 T C20 C27 C32) g34 fun _ _ _ _ _ _ us hl => match us, hl with | [_, _, _, _], _ => rfl
  have C35 : Cal P w K mg base "_law_behind" 6 ["_law_pack_here", "_law_scene_here", "_law_owner", "_law_run"] (spEnt fun r => 0 < r.length ∧ (lastO r).isSome = true) (He.ga K "_law_behind") fd35 := FunD.cal F35 (ok_law_behind F35 T C20 C34) g35 fun _ _ _ _ _ _ us hl => match us, hl with | [_, _, _, _], _ => rfl
  have C36 : Cal P w K mg base "_law_entry" 7 ["_law_pack_here", "_law_scene_here", "_law_owner", "_law_run"] (spEnt fun _ => True) (He.ga K "_law_entry") fd36 := FunD.cal F36 (ok_law_entry F36 T C20 C27 C32 C24 C22 C35 C33) g36 fun _ _ _ _ _ _ us hl => match us, hl with | [_, _, _, _], _ => rfl
  have C37 : Cal P w K mg base "_law_scene" 8 ["_law_pack_here"] spScene (He.ga K "_law_scene") fd37 := FunD.cal F37 (ok_law_scene F37 T C20 C21 C36) g37 fun _ _ _ _ _ _ us hl => match us, hl with | [_], _ => rfl
  have C38 : Cal P w K mg base "_law_copied" 1 ["_law_journals", "_law_owners"] spCopied (He.ga K "_law_copied") fd38 := FunD.cal F38 (ok_law_copied F38 T) g38 fun _ _ _ _ _ _ us hl => match us, hl with | [_, _], _ => rfl
  have C39 : Cal P w K mg base "_law_thinned" 2 ["_law_pack_here", "_law_journals", "_law_lacking"] spThin (He.ga K "_law_thinned") fd39 := FunD.cal F39 (ok_law_thinned F39 T C20) g39 fun _ _ _ _ _ _ us hl => match us, hl with | [_, _, _], _ => rfl
  have C40 : Cal P w K mg base "_law_same_word" 1 ["_law_row", "_law_due_here"] spWord (He.ga K "_law_same_word") fd40 := FunD.cal F40 (ok_law_same_word F40 T) g40 fun _ _ _ _ _ _ us hl => match us, hl with | [_, _], _ => rfl
  have C41 : Cal P w K mg base "_law_same_list" 2 ["_law_rows", "_law_due_here"] spSame (He.ga K "_law_same_list") fd41 := FunD.cal F41 (ok_law_same_list F41 T C40) g41 fun _ _ _ _ _ _ us hl => match us, hl with | [_, _], _ => rfl
  have C42 : Cal P w K mg base "_law_judged" 7 ["_law_pack_here", "_law_journals", "_law_lacking"] spJudged (He.ga K "_law_judged") fd42 := FunD.cal F42 (ok_law_judged F42 T C20 C38 C31 C16 C41 C17 C40) g42 fun _ _ _ _ _ _ us hl => match us, hl with | [_, _, _], _ => rfl
  exact ok_law F43 T (emptyT_ok x5) C20 C38 C31 C16 C41 C19 C37 C42 C39
end Lr
open PySem PySem.W PySem.Calls PyProof.Rows
theorem PySem.Challenge.cw_livingroll_k58_whole_journals_judged_holds : PySem.Challenge.rw_livingroll_k58_whole_journals_judged.Holds := by
  w_on; o_law
  refine HandSHeadRun.head_any (r := OpenLaw.row PySem.Challenge.rw_livingroll_k58_whole_journals_judged) (q := view (OpenLaw.row PySem.Challenge.rw_livingroll_k58_whole_journals_judged).prog [43]) (H := Lr.hk) (ob := Lr.ob) (M := 2000) (loose := Lr.looseA ++ Lr.looseB) (d := HandSHeadRun.topDef (OpenLaw.row PySem.Challenge.rw_livingroll_k58_whole_journals_judged).prog 43) (kwd := []) Lr.ob_eq
    (by kernel_rfl) (fun s => by kernel_rfl) Lr.run (by kernel_rfl) (by kernel_rfl) (by kernel_rfl) (by rfl) (by first | assumption | decide +kernel) (by decide +kernel) ⟨rfl, rfl, rfl, rfl, rfl, by decide +kernel⟩ ?hw ?hc
  case hw => w_witness2
  case hc =>
    refine L2.walk_ofE (l := PySem.Challenge.rw_livingroll_k58_whole_journals_judged) (n := 63) (k := 9) (x := "_law_script") (CX := L2.CX0) rfl (by decide) (by kernel_rfl) ⟨rfl, by decide, by decide⟩ ?F (fun _ _ _ _ z => z)
    intro w mg fa h Y G hmg0
    obtain ⟨K, KX, c⟩ := Y
    have hmg : mg ("law" : PySem.Str) = some (.ref fa) := by
      have e : (HandSHeadRun.topDef (OpenLaw.row PySem.Challenge.rw_livingroll_k58_whole_journals_judged).prog 43).name = ("law" : PySem.Str) := by kernel_rfl
      rw [← e]
      exact hmg0
    obtain ⟨fd, hb, hF⟩ := Lr.facts (P := (PySem.Challenge.rw_livingroll_k58_whole_journals_judged).prog) (w := w) KX G hmg c
    exact ⟨K, fd, Lr.spLaw K, KX, hb, fun H a ns hl _ hS => ⟨a, ns, rfl, hS, Nat.le_trans hl (by decide), fun _ => rfl⟩, hF⟩
