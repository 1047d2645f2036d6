import PyProof.Rows.All
import Wide.All
import OpenK.AllK
import Wide.FinOn
import HandS.ForMost
import HandS.Codes
import HandS.TupAny
import HandS.TupMul
import HandS.Zip
import HandS.Style
import HandS.Small
import HandS.IsInst
import HandS.Conv
import HandS.ExcInit
import HandS.ExcField
import HandS.TryMany
import HandS.HeadHook2
import HandS.Walk
import KE.GoesNew
import KE.GoesEnum
import KE.GoesZip
import KE.GoesMore
import KE.KDictPairs
import KE.KEqSeq
import KE.KEqDeep
import HandS.Exc
import HandS.WordsExc
import KE.KExcSuper
import HandS.Ends
import HandS.HeadEnd
import HandS.RaiseMore
import HandS.FStrTup
import PyProof.ReprHeadsTuple
import PyProof.ReprRoads
import HandS.DeepEq
import HandS.Head0
import HandS.Head1
import HandS.Head2
import KE.KStateDown
import PySem.Challenge.RW_everycycle_k14_whole_machines_play_runs
set_option Elab.async false
set_option linter.all false
set_option maxRecDepth 100000
set_option pp.maxSteps 300
set_option maxHeartbeats 4000000
namespace K14
open PySem PySem.Spec PyProof.Rows L2
/-! ### the text by places -/
def st (i : Nat) : Stmt := PySem.Challenge.pw_everycycle_k14_whole_machines_play_runs.main.body.getD i (.Pass ⟨0, 0, 0, 0⟩)
def ms (i j : Nat) : Stmt := inClass (st i) j
/-! ### what the top leaves -/
structure HasDef (K : PySem.W.Frag) (mg : Str → Option Value) (x : Str) (s : Stmt) (ps : List Str) : Prop where
  ex : ∃ fd, C8.Def K mg x s (He.ga K x) fd ∧ Binds K fd ps []
theorem HasDef.mgf {K : PySem.W.Frag} {mg : Str → Option Value} {x : Str} {s : Stmt} {ps : List Str} (D : HasDef K mg x s ps) : mg x = some (.ref (He.ga K x)) := by
  obtain ⟨fd, F, _⟩ := D.ex
  exact F.mgf
structure HasMeth (K : PySem.W.Frag) (C m qual : Str) (s : Stmt) (ps : List Str) : Prop where
  ex : ∃ fd, C8.Fun K m qual s (He.ma K (He.ga K C) m) fd ∧ Binds K fd ps []
  me : Meth K (He.ga K C) m (He.ma K (He.ga K C) m)
structure HasMk (K : PySem.W.Frag) (C qual : Str) (s : Stmt) (ps : List Str) : Prop where
  ex : ∃ fd, C8.Fun K "__init__" qual s (He.ma K (He.ga K C) "__init__") fd ∧ Binds K fd ps []
  mkr : Mk K (He.ga K C) (He.ma K (He.ga K C) "__init__")
abbrev cBuilder (K : PySem.W.Frag) : Addr := He.ga K "Builder"
abbrev cGraph (K : PySem.W.Frag) : Addr := He.ga K "Graph"
abbrev cMachine (K : PySem.W.Frag) : Addr := He.ga K "Machine"

structure Top (K : PySem.W.Frag) (mg : Str → Option Value) : Prop where
  f_len : mg "len" = none
  f_abs : mg "abs" = none
  f_max : mg "max" = none
  f_min : mg "min" = none
  f_sum : mg "sum" = none
  f_all : mg "all" = none
  f_isinstance : mg "isinstance" = none
  f_repr : mg "repr" = none
  f_int : mg "int" = none
  f_str : mg "str" = none
  f_tuple : mg "tuple" = none
  f_list : mg "list" = none
  f_dict : mg "dict" = none
  f_bool : mg "bool" = none
  f_range : mg "range" = none
  f_zip : mg "zip" = none
  f_enumerate : mg "enumerate" = none
  d_is_count : HasDef K mg "is_count" (st 7) ["value"]
  d_is_literal : HasDef K mg "is_literal" (st 8) ["value", "nodes"]
  d_are_gates : HasDef K mg "are_gates" (st 9) ["leaves", "gates"]
  d_opposite : HasDef K mg "opposite" (st 11) ["literal"]
  d_is_bit : HasDef K mg "is_bit" (st 12) ["value"]
  d_are_bits : HasDef K mg "are_bits" (st 13) ["value", "many"]
  d_or_of : HasDef K mg "or_of" (st 15) ["builder", "one", "other"]
  d_xor_of : HasDef K mg "xor_of" (st 16) ["builder", "one", "other"]
  d_choice_of : HasDef K mg "choice_of" (st 17) ["builder", "c", "one", "other"]
  d_number_word : HasDef K mg "number_word" (st 21) ["width", "number"]
  d_number_bits : HasDef K mg "number_bits" (st 22) ["width", "number"]
  d_full_sum : HasDef K mg "full_sum" (st 23) ["builder", "a", "b", "c"]
  d_summed : HasDef K mg "summed" (st 24) ["builder", "one", "other", "carry"]
  d_negated : HasDef K mg "negated" (st 25) ["word"]
  d_difference : HasDef K mg "difference" (st 26) ["builder", "one", "other"]
  d_product : HasDef K mg "product" (st 27) ["builder", "one", "other"]
  d_is_below : HasDef K mg "is_below" (st 28) ["builder", "one", "other"]
  d_is_equal : HasDef K mg "is_equal" (st 29) ["builder", "one", "other"]
  d_chosen : HasDef K mg "chosen" (st 30) ["builder", "c", "one", "other"]
  d_bitwise : HasDef K mg "bitwise" (st 31) ["builder", "name", "one", "other"]
  d_pair_word : HasDef K mg "pair_word" (st 32) ["builder", "name", "one", "other"]
  d_moved_word : HasDef K mg "moved_word" (st 33) ["name", "word", "many"]
  d_joined_word : HasDef K mg "joined_word" (st 34) ["words"]
  d_expression_word : HasDef K mg "expression_word" (st 35) ["builder", "expression", "known"]
  d_word_table : HasDef K mg "word_table" (st 36) ["builder", "items"]
  d_machine_of : HasDef K mg "machine_of" (st 37) ["design", "wish"]
  d__law_pen : HasDef K mg "_law_pen" (st 39) ["_law_script"]
  d__law_draw : HasDef K mg "_law_draw" (st 40) ["_law_pen_here", "_law_many"]
  d__law_pick : HasDef K mg "_law_pick" (st 41) ["_law_pen_here", "_law_some"]
  d__law_values : HasDef K mg "_law_values" (st 42) ["_law_leaves", "_law_gates", "_law_bits"]
  d__law_bit : HasDef K mg "_law_bit" (st 43) ["_law_found", "_law_literal"]
  d__law_tick : HasDef K mg "_law_tick" (st 44) ["_law_machine", "_law_state", "_law_bits"]
  d__law_longer : HasDef K mg "_law_longer" (st 45) ["_law_rows", "_law_many"]
  d__law_word : HasDef K mg "_law_word" (st 46) ["_law_expression", "_law_names"]
  d__law_bitwise : HasDef K mg "_law_bitwise" (st 47) ["_law_kind", "_law_width", "_law_one", "_law_two"]
  d__law_drawn_expression : HasDef K mg "_law_drawn_expression" (st 48) ["_law_pen_here", "_law_width", "_law_names", "_law_deep"]
  d__law_reset : HasDef K mg "_law_reset" (st 49) ["_law_design", "_law_name"]
  d__law_module : HasDef K mg "_law_module" (st 50) ["_law_design", "_law_name"]
  d__law_cycle : HasDef K mg "_law_cycle" (st 51) ["_law_design", "_law_name", "_law_state", "_law_words"]
  d__law_input_rows : HasDef K mg "_law_input_rows" (st 52) ["_law_design"]
  d__law_drawn_module : HasDef K mg "_law_drawn_module" (st 53) ["_law_pen_here", "_law_name", "_law_inputs", "_law_registers", "_law_wires", "_law_ahead", "_law_memories"]
  d__law_counter : HasDef K mg "_law_counter" (st 54) ["_law_pen_here"]
  d__law_lock : HasDef K mg "_law_lock" (st 55) ["_law_pen_here"]
  d__law_bits_of : HasDef K mg "_law_bits_of" (st 56) ["_law_words", "_law_widths"]
  d__law_parts : HasDef K mg "_law_parts" (st 57) ["_law_design"]
  d__law_own : HasDef K mg "_law_own" (st 58) ["_law_machine"]
  d__law_wish_word : HasDef K mg "_law_wish_word" (st 59) ["_law_design", "_law_wish", "_law_state", "_law_words", "_law_signals"]
  d__law_cycle_right : HasDef K mg "_law_cycle_right" (st 60) ["_law_design", "_law_own_here", "_law_wish", "_law_state", "_law_words"]
  g_Graph : mg "Graph" = some (.ref (He.ga K "Graph"))
  c_Graph : Cls K (He.ga K "Graph")
  i_Graph : C8.InsC K (He.ga K "Graph")
  k_Graph : HasMk K "Graph" "Graph.__init__" (ms 10 0) ["self", "leaves", "gates"]
  g_Builder : mg "Builder" = some (.ref (He.ga K "Builder"))
  c_Builder : Cls K (He.ga K "Builder")
  i_Builder : C8.InsC K (He.ga K "Builder")
  k_Builder : HasMk K "Builder" "Builder.__init__" (ms 14 0) ["self", "leaves"]
  g_Machine : mg "Machine" = some (.ref (He.ga K "Machine"))
  c_Machine : Cls K (He.ga K "Machine")
  i_Machine : C8.InsC K (He.ga K "Machine")
  k_Machine : HasMk K "Machine" "Machine.__init__" (ms 19 0) ["self", "graph", "inputs", "resets", "nexts", "wish"]
  m_graph : HasMeth K "Builder" "graph" "Builder.graph" (ms 14 1) ["self"]
  m_and_of : HasMeth K "Builder" "and_of" "Builder.and_of" (ms 14 2) ["self", "one", "other"]
  n_Builder_leaves : NoAttr K (He.ga K "Builder") "leaves"
  n_Builder_gates : NoAttr K (He.ga K "Builder") "gates"
  n_Builder_places : NoAttr K (He.ga K "Builder") "places"
  n_Graph_leaves : NoAttr K (He.ga K "Graph") "leaves"
  n_Graph_gates : NoAttr K (He.ga K "Graph") "gates"
  n_Machine_graph : NoAttr K (He.ga K "Machine") "graph"
  n_Machine_inputs : NoAttr K (He.ga K "Machine") "inputs"
  n_Machine_resets : NoAttr K (He.ga K "Machine") "resets"
  n_Machine_nexts : NoAttr K (He.ga K "Machine") "nexts"
  n_Machine_wish : NoAttr K (He.ga K "Machine") "wish"
section
variable {P : Program} {w : World} {K : PySem.W.Frag} {mg : Str → Option Value} {base : Heap}
/-- a def by its body -/
theorem calD {x : Str} {s : Stmt} {N ps : List Str} {k : Nat} {sp : Sp} (D : HasDef K mg x s ps) (S : FnScope N ps (C8.fnScope s)) (len : ∀ vs H Q E, sp vs H Q E → vs.length = ps.length)
    (hbody : ∀ (f : Addr) (cdv : Value) (A : Around) (outer : List Env) (s0 : Shared) (H : Hp) (vs : List V) (Q : VK) (E : XK), Room k (A.deeper (envOfC x (C8.fnScope s) s0.heap.objs.size f cdv)) → sp vs H Q E →
      ∃ t, PSs (cxOf C8.CX0 P w K mg base N x (C8.fnScope s) f cdv A outer s0 H E).nox (C8.fnBody s) t ∧ t { nx := fun _ H' => Q .non H', rt := Q } (start N vs) H) : C8.Cal P w K mg base (k + 1) x sp [] := by
  obtain ⟨fd, F, b⟩ := D.ex
  exact C8.cal0 F b .nil S len fun cdv A outer s0 H vs Q E hr hs => hbody _ cdv A outer s0 H vs Q E hr hs
theorem metD {C m qual : Str} {s : Stmt} {N ps : List Str} {k : Nat} {sp : Sp} (c : Cls K (He.ga K C)) (D : HasMeth K C m qual s ps) (S : FnScope N ps (C8.fnScope s)) (len : ∀ vs H Q E, sp vs H Q E → vs.length = ps.length)
    (hbody : ∀ (f : Addr) (cdv : Value) (A : Around) (outer : List Env) (s0 : Shared) (H : Hp) (vs : List V) (Q : VK) (E : XK), Room k (A.deeper (envOfC qual (C8.fnScope s) s0.heap.objs.size f cdv)) → sp vs H Q E →
      ∃ t, PSs (cxOf C8.CX0 P w K mg base N qual (C8.fnScope s) f cdv A outer s0 H E).nox (C8.fnBody s) t ∧ t { nx := fun _ H' => Q .non H', rt := Q } (start N vs) H) : C8.Met P w K mg base (k + 1) (He.ga K C) m sp [] := by
  obtain ⟨fd, F, b⟩ := D.ex
  exact C8.met0 c D.me F b S len fun cdv A outer s0 H vs Q E hr hs => hbody _ cdv A outer s0 H vs Q E hr hs
theorem makD {C qual : Str} {s : Stmt} {N ps : List Str} {k : Nat} {sp : Sp} (g : mg C = some (.ref (He.ga K C))) (D : HasMk K C qual s ps) (S : FnScope N ps (C8.fnScope s)) (len : ∀ vs H Q E, sp vs H Q E → vs.length = ps.length)
    (hbody : ∀ (f : Addr) (cdv : Value) (A : Around) (outer : List Env) (s0 : Shared) (H : Hp) (vs : List V) (Q : VK) (E : XK), Room k (A.deeper (envOfC qual (C8.fnScope s) s0.heap.objs.size f cdv)) → sp vs H Q E →
      ∃ t, PSs (cxOf C8.CX0 P w K mg base N qual (C8.fnScope s) f cdv A outer s0 H E).nox (C8.fnBody s) t ∧ t { nx := fun _ H' => Q .non H', rt := Q } (start N vs) H) : C8.Mak P w K mg base (k + 1) C (He.ga K C) sp [] := by
  obtain ⟨fd, F, b⟩ := D.ex
  exact C8.mak0 D.mkr g F b .nil S len fun cdv A outer s0 H vs Q E hr hs => hbody _ cdv A outer s0 H vs Q E hr hs
end
/-! ### heaps: all but S is kept, tuples are, and what is tracked stays tracked -/
structure Kp (S : List Addr) (H H' : Hp) : Prop where
  at_ : ∀ b o, H b = some o → b ∉ S → H' b = some o
  tup : ∀ b xs, H b = some (.tup xs) → H' b = some (.tup xs)
  frz : ∀ b o u, H b = some (.frz o u) → H' b = some (.frz o u)
  free : ∀ {b}, H' b = none → H b = none
section
variable {K : PySem.W.Frag} {S S' : List Addr} {H H1 H2 : Hp} {p a : Addr} {o : HO}
theorem Kp.refl : Kp S H H := ⟨fun _ _ h _ => h, fun _ _ h => h, fun _ _ _ h => h, fun h => h⟩
theorem Kp.trans (x : Kp S H H1) (y : Kp S H1 H2) : Kp S H H2 :=
  ⟨fun b o h n => y.at_ b o (x.at_ b o h n) n, fun b xs h => y.tup b xs (x.tup b xs h), fun b o u h => y.frz b o u (x.frz b o u h), fun h => x.free (y.free h)⟩
theorem Kp.mono (x : Kp S H H1) (h : ∀ b ∈ S, b ∈ S') : Kp S' H H1 := ⟨fun b o e n => x.at_ b o e fun z => n (h b z), x.tup, x.frz, x.free⟩
theorem Kp.nil (x : Kp [] H H1) : Kp S H H1 := x.mono fun _ z => nomatch z
/-- a new object -/
theorem Kp.new (x : Kp S H H1) (np : H1 p = none) : Kp S H (upd H1 p o) := by
  have n0 := x.free np
  refine ⟨fun b u h n => ?_, fun b u h => ?_, fun b u v h => ?_, fun {b} h => ?_⟩
  · rw [upd_ne (ne_of_none h n0)]; exact x.at_ b u h n
  · rw [upd_ne (ne_of_none h n0)]; exact x.tup b u h
  · rw [upd_ne (ne_of_none h n0)]; exact x.frz b u v h
  · by_cases e : b = p
    · rw [e]; exact n0
    · rw [upd_ne e] at h; exact x.free h
/-- a store to what is new since H -/
theorem Kp.put (x : Kp S H H1) (n0 : H p = none) : Kp S H (upd H1 p o) := by
  refine ⟨fun b u h n => ?_, fun b u h => ?_, fun b u v h => ?_, fun {b} h => ?_⟩
  · rw [upd_ne (ne_of_none h n0)]; exact x.at_ b u h n
  · rw [upd_ne (ne_of_none h n0)]; exact x.tup b u h
  · rw [upd_ne (ne_of_none h n0)]; exact x.frz b u v h
  · by_cases e : b = p
    · rw [e]; exact n0
    · rw [upd_ne e] at h; exact x.free h
/-- a store to what is in S -/
theorem Kp.putS (x : Kp S H H1) (m : p ∈ S) (nt : ∀ xs, H p ≠ some (.tup xs)) (nf : ∀ o u, H p ≠ some (.frz o u)) (t : ∃ o, H1 p = some o) : Kp S H (upd H1 p o) := by
  refine ⟨fun b u h n => ?_, fun b u h => ?_, fun b u v h => ?_, fun {b} h => ?_⟩
  · rw [upd_ne fun e => n (by rw [e]; exact m)]; exact x.at_ b u h n
  · rw [upd_ne fun e => nt u (by rw [← e]; exact h)]; exact x.tup b u h
  · rw [upd_ne fun e => nf u v (by rw [← e]; exact h)]; exact x.frz b u v h
  · by_cases e : b = p
    · rw [e, upd_same] at h; cases h
    · rw [upd_ne e] at h; exact x.free h
theorem Kp.sqT {xs : List V} (x : Kp S H H1) (h : SqT K H a xs) : SqT K H1 a xs := by
  rcases h with (h | ⟨o, h⟩) | h
  · exact .inl (.inl (x.tup _ _ h))
  · exact .inl (.inr ⟨o, x.frz _ _ _ h⟩)
  · exact .inr h
theorem Kp.sqL {xs : List V} (x : Kp S H H1) (h : SqL K H a xs) (n : a ∉ S) : SqL K H1 a xs := by
  rcases h with (h | ⟨o, h⟩) | h
  · exact .inl (.inl (x.at_ _ _ h n))
  · exact .inl (.inr ⟨o, x.frz _ _ _ h⟩)
  · exact .inr h
theorem Kp.sqL0 {xs : List V} (x : Kp [] H H1) (h : SqL K H a xs) : SqL K H1 a xs := x.sqL h fun z => nomatch z
theorem Kp.same (x : Kp [] H H1) : Same H H1 := fun b o h => x.at_ b o h fun z => nomatch z
theorem not2 {x y : Addr} (h1 : a ≠ x) (h2 : a ≠ y) : a ∉ [x, y] := by
  intro z
  rcases List.mem_cons.mp z with z | z
  · exact h1 z
  · exact h2 (List.mem_singleton.mp z)
theorem not1 {x : Addr} (h1 : a ≠ x) : a ∉ [x] := fun z => h1 (List.mem_singleton.mp z)
end
end K14
set_option maxHeartbeats 200000
/-! node meanings: a graph's nodes as functions of the leaves' bits -/
namespace K14
abbrev Bits := List Bool
abbrev M := Bits → Bool
def zeroM : M := fun _ => false
def leafM (i : Nat) : M := fun b => b.getD i false
/-- the meaning of a literal -/
def lm (ms : List M) (l : Nat) : M := fun b => ((ms.getD (l / 2) zeroM) b) != (l % 2 == 1)
def base0 (n : Nat) : List M := zeroM :: (List.range n).map leafM
def stepM (ms : List M) (g : Nat × Nat) : List M := ms ++ [fun b => lm ms g.1 b && lm ms g.2 b]
/-- the nodes' meanings: n leaves, the gates -/
def nodes (n : Nat) (gs : List (Nat × Nat)) : List M := gs.foldl stepM (base0 n)
theorem base0_len (n : Nat) : (base0 n).length = n + 1 := by simp [base0]
theorem nodes_snoc (n : Nat) (gs : List (Nat × Nat)) (g : Nat × Nat) : nodes n (gs ++ [g]) = nodes n gs ++ [fun b => lm (nodes n gs) g.1 b && lm (nodes n gs) g.2 b] := by
  unfold nodes; rw [List.foldl_append]; rfl
theorem foldl_len : ∀ (gs : List (Nat × Nat)) (ms : List M), (gs.foldl stepM ms).length = ms.length + gs.length
  | [], ms => rfl
  | g :: gs, ms => by
    rw [List.foldl_cons, foldl_len gs]
    unfold stepM
    rw [List.length_append, List.length_singleton, List.length_cons]; omega
theorem nodes_len (n : Nat) (gs : List (Nat × Nat)) : (nodes n gs).length = n + 1 + gs.length := by
  unfold nodes; rw [foldl_len, base0_len]
theorem foldl_pre : ∀ (gs : List (Nat × Nat)) (ms : List M), ms <+: gs.foldl stepM ms
  | [], ms => List.prefix_refl ms
  | g :: gs, ms => by
    rw [List.foldl_cons]
    exact List.IsPrefix.trans ⟨_, rfl⟩ (foldl_pre gs (stepM ms g))
theorem nodes_pre {n : Nat} {gs gs' : List (Nat × Nat)} (h : gs <+: gs') : nodes n gs <+: nodes n gs' := by
  obtain ⟨r, rfl⟩ := h
  unfold nodes
  rw [List.foldl_append]
  exact foldl_pre r _
theorem lm_pre {ms ms' : List M} (h : ms <+: ms') {l : Nat} (hl : l / 2 < ms.length) : lm ms' l = lm ms l := by
  obtain ⟨r, rfl⟩ := h
  unfold lm
  have e : (ms ++ r).getD (l / 2) zeroM = ms.getD (l / 2) zeroM := by
    rw [List.getD_eq_getElem?_getD, List.getD_eq_getElem?_getD, List.getElem?_append_left hl]
  rw [e]
/-- a literal of the graph so far -/
def Ok (n : Nat) (gs : List (Nat × Nat)) (l : Nat) : Prop := l < 2 * (1 + n + gs.length)
theorem Ok.mono {n l : Nat} {gs gs' : List (Nat × Nat)} (o : Ok n gs l) (h : gs <+: gs') : Ok n gs' l := by
  have := h.length_le
  unfold Ok at *
  omega
theorem Ok.lm {n l : Nat} {gs gs' : List (Nat × Nat)} (o : Ok n gs l) (h : gs <+: gs') : lm (nodes n gs') l = lm (nodes n gs) l :=
  lm_pre (nodes_pre h) (by rw [nodes_len]; unfold Ok at o; omega)
theorem lm_zero (n : Nat) (gs : List (Nat × Nat)) : lm (nodes n gs) 0 = fun _ => false := by
  have h : base0 n <+: nodes n gs := foldl_pre gs _
  rw [lm_pre h (by rw [base0_len]; omega)]
  funext b
  simp [lm, base0, zeroM]
theorem lm_one (n : Nat) (gs : List (Nat × Nat)) : lm (nodes n gs) 1 = fun _ => true := by
  have h : base0 n <+: nodes n gs := foldl_pre gs _
  rw [lm_pre h (by rw [base0_len]; omega)]
  funext b
  simp [lm, base0, zeroM]
theorem lm_leaf {n i : Nat} (gs : List (Nat × Nat)) (hi : i < n) : lm (nodes n gs) (2 * (1 + i)) = fun b => b.getD i false := by
  have h : base0 n <+: nodes n gs := foldl_pre gs _
  have e2 : 2 * (1 + i) / 2 = i + 1 := by omega
  rw [lm_pre h (by rw [base0_len, e2]; omega)]
  funext b
  have e3 : 2 * (1 + i) % 2 = 0 := by omega
  unfold lm
  rw [e2, e3]
  simp [base0, leafM, hi]
/-- the opposite -/
def opp (l : Nat) : Nat := if l % 2 = 0 then l + 1 else l - 1
theorem lm_opp (ms : List M) (l : Nat) : lm ms (opp l) = fun b => !(lm ms l b) := by
  funext b
  unfold lm opp
  by_cases h : l % 2 = 0
  · rw [if_pos h]
    have e1 : (l + 1) / 2 = l / 2 := by omega
    have e2 : (l + 1) % 2 = 1 := by omega
    rw [e1, e2, h]
    cases (ms.getD (l / 2) zeroM b) <;> rfl
  · rw [if_neg h]
    have e1 : (l - 1) / 2 = l / 2 := by omega
    have e2 : (l - 1) % 2 = 0 := by omega
    have e3 : l % 2 = 1 := by omega
    rw [e1, e2, e3]
    cases (ms.getD (l / 2) zeroM b) <;> rfl
theorem opp_ok {n l : Nat} {gs : List (Nat × Nat)} (o : Ok n gs l) : Ok n gs (opp l) := by
  unfold Ok at *
  unfold opp
  split <;> omega
/-- a new gate -/
theorem lm_gate (n : Nat) (gs : List (Nat × Nat)) (a b : Nat) : lm (nodes n (gs ++ [(a, b)])) (2 * (1 + n + gs.length)) = fun x => lm (nodes n gs) a x && lm (nodes n gs) b x := by
  rw [nodes_snoc]
  funext x
  have e1 : 2 * (1 + n + gs.length) / 2 = (nodes n gs).length := by rw [nodes_len]; omega
  have e2 : 2 * (1 + n + gs.length) % 2 = 0 := by omega
  show ((((nodes n gs) ++ [_]).getD (2 * (1 + n + gs.length) / 2) zeroM) x != (2 * (1 + n + gs.length) % 2 == 1)) = _
  rw [e1, e2, List.getD_eq_getElem?_getD, List.getElem?_append_right (Nat.le_refl _), Nat.sub_self]
  simp
/-- a gate that stands -/
theorem lm_at {n k a b : Nat} {gs : List (Nat × Nat)} (h : gs[k]? = some (a, b)) (ha : Ok n (gs.take k) a) (hb : Ok n (gs.take k) b) : lm (nodes n gs) (2 * (1 + n + k)) = fun x => lm (nodes n gs) a x && lm (nodes n gs) b x := by
  have hk : k < gs.length := (List.getElem?_eq_some_iff.mp h).1
  have e : gs = gs.take k ++ (a, b) :: gs.drop (k + 1) := by
    have e0 : gs[k] = (a, b) := (List.getElem?_eq_some_iff.mp h).2
    rw [← e0, ← List.drop_eq_getElem_cons hk, List.take_append_drop]
  have p1 : gs.take k ++ [(a, b)] <+: gs := ⟨gs.drop (k + 1), by rw [List.append_assoc]; exact e.symm⟩
  have p0 : gs.take k <+: gs := List.take_prefix k gs
  have l1 : (gs.take k).length = k := by rw [List.length_take]; omega
  have q := lm_gate n (gs.take k) a b
  rw [l1] at q
  have o1 : Ok n (gs.take k ++ [(a, b)]) (2 * (1 + n + k)) := by unfold Ok; rw [List.length_append, l1, List.length_singleton]; omega
  rw [o1.lm p1, q, ha.lm p0, hb.lm p0]
end K14
set_option maxHeartbeats 4000000
/-! the builder: its gates and their places -/
namespace K14
open PySem PySem.Spec PyProof.Rows L2
/-! ### the builder's object -/
def bF (n : Nat) (g d : Addr) : List (Str × V) := [("leaves", .int n), ("gates", .ref g), ("places", .ref d)]
/-- gates' literals stand ahead of them -/
def GOk (n : Nat) (gs : List (Nat × Nat)) : Prop := ∀ k a b, gs[k]? = some (a, b) → a < 2 * (1 + n + k) ∧ b < 2 * (1 + n + k)
/-- the gates' own tuples -/
def GT (H : Hp) (ts : List Addr) (gs : List (Nat × Nat)) : Prop := Paired (fun t (g : Nat × Nat) => H t = some (.tup [.int (g.1 : Int), .int (g.2 : Int)])) ts gs
def PlOk (n : Nat) (gs : List (Nat × Nat)) (kvs : List (List Key × V)) : Prop := ∀ (a b : Nat) v, valV kvs [Sum.inl (a : Int), Sum.inl (b : Int)] = some v → ∃ k, gs[k]? = some (a, b) ∧ v = .int (2 * (1 + n + k) : Nat)
structure BAt (K : PySem.W.Frag) (H : Hp) (b g d : Addr) (n : Nat) (gs : List (Nat × Nat)) : Prop where
  ins : ∃ dx, H b = some (.ins (cBuilder K) dx (bF n g d))
  gts : ∃ ts, H g = some (.lst (ts.map V.ref)) ∧ GT H ts gs
  pls : ∃ kvs, H d = some (.dT kvs) ∧ PlOk n gs kvs ∧ kvs.length ≤ gs.length
  ok : GOk n gs
theorem Paired.mapP2 {α β : Type} {F G : α → β → Prop} {l₁ : List α} {l₂ : List β} (p : Paired F l₁ l₂) (f : ∀ a b, F a b → G a b) : Paired G l₁ l₂ := Paired.mapP p f
theorem Paired.app {α β : Type} {F : α → β → Prop} : ∀ {l₁ m₁ : List α} {l₂ m₂ : List β}, Paired F l₁ l₂ → Paired F m₁ m₂ → Paired F (l₁ ++ m₁) (l₂ ++ m₂)
  | _, _, _, _, .nil, q => q
  | _, _, _, _, .cons h t, q => .cons h (Paired.app t q)
theorem GT.kp {S : List Addr} {H H' : Hp} {ts : List Addr} {gs : List (Nat × Nat)} (x : GT H ts gs) (k : Kp S H H') : GT H' ts gs := Paired.mapP x fun _ _ e => k.tup _ _ e
section
variable {P : Program} {w : World} {K : PySem.W.Frag} {mg : Str → Option Value} {base : Heap}
theorem bF_leaves (n : Nat) (g d : Addr) : (bF n g d).lookup ("leaves" : Str) = some (V.int n) := by rfl
theorem bF_gates (n : Nat) (g d : Addr) : (bF n g d).lookup ("gates" : Str) = some (V.ref g) := by rfl
theorem bF_places (n : Nat) (g d : Addr) : (bF n g d).lookup ("places" : Str) = some (V.ref d) := by rfl
theorem bF_and (n : Nat) (g d : Addr) : (bF n g d).lookup ("and_of" : Str) = none := by rfl
theorem bF_graph (n : Nat) (g d : Addr) : (bF n g d).lookup ("graph" : Str) = none := by rfl
/-- a step of the builder: more gates, at most c -/
structure BSt (K : PySem.W.Frag) (H H' : Hp) (b g d : Addr) (n : Nat) (gs gs' : List (Nat × Nat)) (c : Nat) : Prop where
  kp : Kp [g, d] H H'
  at_ : BAt K H' b g d n gs'
  pre : gs <+: gs'
  len : gs'.length ≤ gs.length + c
theorem BSt.refl {H : Hp} {b g d : Addr} {n : Nat} {gs : List (Nat × Nat)} (x : BAt K H b g d n gs) (c : Nat) : BSt K H H b g d n gs gs c := ⟨.refl, x, List.prefix_refl _, Nat.le_add_right _ _⟩
theorem BSt.trans {H H1 H2 : Hp} {b g d : Addr} {n c c' : Nat} {gs gs1 gs2 : List (Nat × Nat)} (x : BSt K H H1 b g d n gs gs1 c) (y : BSt K H1 H2 b g d n gs1 gs2 c') : BSt K H H2 b g d n gs gs2 (c + c') :=
  ⟨x.kp.trans y.kp, y.at_, x.pre.trans y.pre, by have := x.len; have := y.len; omega⟩
theorem BSt.mono {H H1 : Hp} {b g d : Addr} {n c c' : Nat} {gs gs1 : List (Nat × Nat)} (x : BSt K H H1 b g d n gs gs1 c) (h : c ≤ c') : BSt K H H1 b g d n gs gs1 c' := ⟨x.kp, x.at_, x.pre, by have := x.len; omega⟩
/-- the builder stands behind what keeps its three objects -/
theorem BAt.kp {S : List Addr} {H H' : Hp} {b g d : Addr} {n : Nat} {gs : List (Nat × Nat)} (x : BAt K H b g d n gs) (k : Kp S H H') (hb : b ∉ S) (hg : g ∉ S) (hd : d ∉ S) : BAt K H' b g d n gs := by
  obtain ⟨⟨dx, h1⟩, ⟨ts, h2, h3⟩, ⟨kvs, h4, h5⟩, h6⟩ := x
  exact ⟨⟨dx, k.at_ _ _ h1 hb⟩, ⟨ts, k.at_ _ _ h2 hg, h3.kp k⟩, ⟨kvs, k.at_ _ _ h4 hd, h5⟩, h6⟩
theorem BAt.kp0 {H H' : Hp} {b g d : Addr} {n : Nat} {gs : List (Nat × Nat)} (x : BAt K H b g d n gs) (k : Kp [] H H') : BAt K H' b g d n gs := x.kp k (fun z => nomatch z) (fun z => nomatch z) (fun z => nomatch z)
/-- a promise of a literal out of the builder: c gates at most; F its meaning -/
def PLit (K : PySem.W.Frag) (H : Hp) (Q : VK) (b g d : Addr) (n : Nat) (gs : List (Nat × Nat)) (c : Nat) (F : M) : Prop :=
  ∀ H' gs' (r : Nat), BSt K H H' b g d n gs gs' c → Ok n gs' r → lm (nodes n gs') r = F → Q (.int (r : Int)) H'
def big : Nat := 16000000
theorem big_lt : big < sizeLine := by decide
/-! ### opposite -/
def spOpp : Sp := fun vs H Q _ => ∃ l : Nat, vs = [.int (l : Int)] ∧ Q (.int (opp l : Nat)) H
abbrev nm_opposite : List Str := ["literal"]
theorem sc_opposite : FnScope nm_opposite ["literal"] (C8.fnScope (st 11)) := C8.fnScope_by (by decide +kernel)
theorem cal_opposite (T : Top K mg) : C8.Cal P w K mg base (1) "opposite" (spOpp) [] := by
  refine calD T.d_opposite sc_opposite (fun vs H Q E h => ?_) (fun f cdv A outer s0 H vs Q E hr h => ?_)
  ·
    obtain ⟨l, rfl, _⟩ := h; rfl
  ·
    obtain ⟨l, rfl, q⟩ := h
    have hu := hu_of hr
    refine ⟨_, (pss_one (ps_ret (pe_ifExp (pt_cmpR op_eq (pe_op op_mod (pv 0) pe_int) pe_int (nomark _)) (pe_op op_add (pv 0) pe_int) (pe_op op_sub (pv 0) pe_int)))), ?_⟩
    refine ⟨_, rfl, _, _, rfl, rfl, (by decide : (0 : Int) < 2), rfl, _, rfl, ite2 (fun e => ?_) (fun e => ?_)⟩
    · have e1 : (l : Int) % 2 = 0 := V.int.inj (of_decide_eq_true e)
      have e2 : (l : Int) + 1 = ((opp l : Nat) : Int) := by unfold opp; rw [if_pos (by omega)]; omega
      refine ⟨_, rfl, _, _, rfl, rfl, ?_⟩
      show Q (.int ((l : Int) + 1)) H
      rw [e2]; exact q
    · have e1 : ¬ (l : Int) % 2 = 0 := fun z => e (decide_eq_true (congrArg V.int z))
      have e2 : (l : Int) - 1 = ((opp l : Nat) : Int) := by unfold opp; rw [if_neg (by omega)]; omega
      refine ⟨_, rfl, _, _, rfl, rfl, ?_⟩
      show Q (.int ((l : Int) - 1)) H
      rw [e2]; exact q
/-! ### and_of -/
def spAnd (K : PySem.W.Frag) : Sp := fun vs H Q _ => ∃ (b g d : Addr) (n : Nat) (gs : List (Nat × Nat)) (x y : Nat), vs = [.ref b, .int (x : Int), .int (y : Int)] ∧ BAt K H b g d n gs ∧ Ok n gs x ∧ Ok n gs y ∧ gs.length < big ∧
  PLit K H Q b g d n gs 1 fun z => lm (nodes n gs) x z && lm (nodes n gs) y z
theorem valV_int {n : Nat} {gs : List (Nat × Nat)} {kvs : List (List Key × V)} (h : PlOk n gs kvs) (a b : Nat) : PlOk n (gs ++ [(a, b)]) (putK kvs [Sum.inl (a : Int), Sum.inl (b : Int)] (.int ((2 * (1 + n + gs.length) : Nat) : Int))) := by
  intro x y v e
  rw [valV_put] at e
  split at e
  · rename_i q
    injection e with e
    injection q with q1 q2
    injection q2 with q2 _
    have q1 := Int.ofNat.inj (Sum.inl.inj q1)
    have q2 := Int.ofNat.inj (Sum.inl.inj q2)
    subst q1 q2 e
    exact ⟨gs.length, by rw [List.getElem?_append_right (Nat.le_refl _), Nat.sub_self]; rfl, rfl⟩
  · obtain ⟨k, e1, e2⟩ := h x y v e
    exact ⟨k, by rw [List.getElem?_append_left (List.getElem?_eq_some_iff.mp e1).1]; exact e1, e2⟩
theorem GOk.take {n : Nat} {gs : List (Nat × Nat)} (h : GOk n gs) {k a b : Nat} (e : gs[k]? = some (a, b)) : Ok n (gs.take k) a ∧ Ok n (gs.take k) b := by
  have hk := (List.getElem?_eq_some_iff.mp e).1
  obtain ⟨h1, h2⟩ := h k a b e
  unfold Ok
  rw [List.length_take, Nat.min_eq_left (by omega)]
  exact ⟨h1, h2⟩
theorem GOk.snoc {n : Nat} {gs : List (Nat × Nat)} (h : GOk n gs) {a b : Nat} (ha : Ok n gs a) (hb : Ok n gs b) : GOk n (gs ++ [(a, b)]) := by
  intro k x y e
  by_cases hk : k < gs.length
  · rw [List.getElem?_append_left hk] at e
    exact h k x y e
  · have hk2 : k = gs.length := by
      have := (List.getElem?_eq_some_iff.mp e).1
      rw [List.length_append, List.length_singleton] at this
      omega
    subst hk2
    rw [List.getElem?_append_right (Nat.le_refl _), Nat.sub_self] at e
    injection e with e
    injection e with e1 e2
    subst e1 e2
    unfold Ok at ha hb
    exact ⟨ha, hb⟩
/-- the sorted pair says the same -/
theorem and_sort (ms : List M) (x y : Nat) : (fun z => lm ms (max x y) z && lm ms (min x y) z) = fun z => lm ms x z && lm ms y z := by
  funext z
  by_cases h : x ≤ y
  · rw [Nat.max_eq_right h, Nat.min_eq_left h, Bool.and_comm]
  · rw [Nat.max_eq_left (by omega), Nat.min_eq_right (by omega)]
theorem and_opp (ms : List M) {x y : Nat} (h : max x y = min x y + 1) (h2 : min x y % 2 = 0) : (fun z => lm ms x z && lm ms y z) = fun _ => false := by
  rw [← and_sort]
  have e : max x y = opp (min x y) := by unfold opp; rw [if_pos h2]; exact h
  rw [e, lm_opp]
  funext z
  show ((!lm ms (min x y) z) && lm ms (min x y) z) = false
  cases lm ms (min x y) z <;> rfl
theorem cast_min (x y : Nat) : (if (y : Int) < (x : Int) then (y : Int) else (x : Int)) = ((min x y : Nat) : Int) := by split <;> omega
theorem cast_max (x y : Nat) : (if (y : Int) > (x : Int) then (y : Int) else (x : Int)) = ((max x y : Nat) : Int) := by split <;> omega
theorem dec_int {a b : Int} (h : decide (V.int a = V.int b) = true) : a = b := V.int.inj (of_decide_eq_true h)
theorem dec_intN {a b : Int} (h : ¬ decide (V.int a = V.int b) = true) : a ≠ b := fun z => h (decide_eq_true (congrArg V.int z))
abbrev nm_Builder_and_of : List Str := ["self", "one", "other", "low", "high"]
theorem sc_Builder_and_of : FnScope nm_Builder_and_of ["self", "one", "other"] (C8.fnScope (ms 14 2)) := C8.fnScope_by (by decide +kernel)
theorem met_and_of (T : Top K mg) : C8.Met P w K mg base (1) (He.ga K "Builder") "and_of" (spAnd K) [] := by
  refine metD T.c_Builder T.m_and_of sc_Builder_and_of (fun vs H Q E h => ?_) (fun f cdv A outer s0 H vs Q E hr h => ?_)
  ·
    obtain ⟨b, g, d, n, gs, x, y, rfl, _⟩ := h; rfl
  ·
    obtain ⟨b, g, d, n, gs, x, y, rfl, hB, hx, hy, hlen, q⟩ := h
    have hu := hu_of hr
    refine ⟨_, (pss_cons (ps_par (i := 3) (j := 4) (by rfl) sc_Builder_and_of.nd rfl rfl (by decide) rfl rfl (pa_cons (pe_callB (call_min2 rfl) (by rfl) T.f_min PyProof.Rows.boot_min (pa_cons (pv 1) (pa_cons (pv 2) pa_nil))) (pa_cons (pe_callB (call_max2 rfl) (by rfl) T.f_max PyProof.Rows.boot_max (pa_cons (pv 1) (pa_cons (pv 2) pa_nil))) pa_nil)) (by rfl))
      (C8.pss_cut (ps_if (PW.pt (pw_or (pt_cmpR op_eq (pv 3) pe_int (nomark _)) (pw_or1 (PW.pt (pw_and (pt_cmpR op_eq (pv 4) (pe_op op_add (pv 3) pe_int) (nomark _)) (pw_and1 (pt_cmpR op_eq (pe_op op_mod (pv 3) pe_int) pe_int (nomark _)))))))) (pss_one (ps_ret pe_int)) pss_nil)
      (C8.pss_cut (ps_if (PW.pt (pw_or (pt_cmpR op_eq (pv 3) pe_int (nomark _)) (pw_or1 (pt_cmpR op_eq (pv 3) (pv 4) (nomark _))))) (pss_one (ps_ret (pv 4))) pss_nil)
      (C8.pss_cut (ps_if (pt_cmp (pc_dnotin hu (pe_tup (pa_cons (pv 4) (pa_cons (pv 3) pa_nil))) (pe_fld (pv 0) rfl))) (pss_cons (ps_dput hu (pe_fld (pv 0) rfl) (pe_tup (pa_cons (pv 4) (pa_cons (pv 3) pa_nil))) (pe_op op_mul pe_int (pe_op op_add (pe_op op_add pe_int (pe_fld (pv 0) rfl)) (pe_callB call_len_seq (by rfl) T.f_len PySem.boot_len (pa_cons (pe_fld (pv 0) rfl) pa_nil)))) rfl)
      (pss_one (ps_expr (pe_bm PySem.F.plainAttrs_list PySem.F.slot_list_append PySem.F.type_list_append mt_append (pe_fld (pv 0) rfl) (pa_cons (pe_tup (pa_cons (pv 4) (pa_cons (pv 3) pa_nil))) pa_nil))))) pss_nil)
      (pss_one (ps_ret (pe_dget hu (pe_fld (pv 0) rfl) (pe_tup (pa_cons (pv 4) (pa_cons (pv 3) pa_nil))) (fun _ _ => rfl)))))))), ?_⟩
    obtain ⟨⟨dx, h1⟩, ⟨ts, h2, hT⟩, ⟨kvs, h3, hP, hl⟩, hO⟩ := id hB
    -- low, high = ..
    refine ⟨_, rfl, _, rfl, _, _, rfl, _, rfl, _, rfl, _, _, rfl, _, _, rfl, ?_⟩
    rw [cast_min, cast_max]
    have oh : Ok n gs (max x y) := by unfold Ok at *; omega
    have ol : Ok n gs (min x y) := by unfold Ok at *; omega
    -- low == 0 or ..
    refine ⟨fun σ' H' => σ' = [some (.ref b), some (.int x), some (.int y), some (.int (min x y : Nat)), some (.int (max x y : Nat))] ∧ H = H' ∧ min x y ≠ 0, ?_, ?_⟩
    · refine ⟨_, rfl, rfl, _, rfl, ite2 (fun e => iteT ?_) (fun e => ?_)⟩
      · have e1 : min x y = 0 := by have := dec_int e; omega
        refine q H gs 0 (.refl hB 1) (by unfold Ok; omega) ?_
        rw [← and_sort, e1, lm_zero]
        funext z
        exact (Bool.and_false _).symm
      · have e1 : min x y ≠ 0 := by have := dec_intN e; omega
        refine ⟨_, rfl, _, rfl, _, _, rfl, rfl, rfl, _, rfl, ite2 (fun e2 => ?_) (fun e2 => iteF ⟨rfl, rfl, e1⟩)⟩
        refine ⟨_, rfl, _, _, rfl, rfl, (by decide : (0 : Int) < 2), rfl, _, rfl, ite2 (fun e3 => ?_) (fun e3 => ⟨rfl, rfl, e1⟩)⟩
        have e4 : max x y = min x y + 1 := by have := dec_int e2; omega
        have e5 : min x y % 2 = 0 := by have := dec_int e3; omega
        refine q H gs 0 (.refl hB 1) (by unfold Ok; omega) ?_
        rw [and_opp _ e4 e5, lm_zero]
    · rintro σ' H' ⟨rfl, rfl, hz⟩
      -- low == 1 or low == high
      refine ⟨fun σ' H' => σ' = [some (.ref b), some (.int x), some (.int y), some (.int (min x y : Nat)), some (.int (max x y : Nat))] ∧ H = H', ?_, ?_⟩
      · refine ⟨_, rfl, rfl, _, rfl, ite2 (fun e => iteT ?_) (fun e => ?_)⟩
        · have e1 : min x y = 1 := by have := dec_int e; omega
          refine ⟨_, rfl, q H gs (max x y) (.refl hB 1) oh ?_⟩
          rw [← and_sort, e1, lm_one]
          funext z
          exact (Bool.and_true _).symm
        · refine ⟨_, rfl, _, rfl, rfl, _, rfl, ite2 (fun e2 => ?_) (fun e2 => ⟨rfl, rfl⟩)⟩
          have e3 : min x y = max x y := by have := dec_int e2; omega
          refine ⟨_, rfl, q H gs (max x y) (.refl hB 1) oh ?_⟩
          rw [← and_sort, e3]
          funext z
          exact (Bool.and_self _).symm
      · rintro σ' H' ⟨rfl, rfl⟩
        -- (high, low) not in self.places
        refine ⟨fun σ' H' => σ' = [some (.ref b), some (.int x), some (.int y), some (.int (min x y : Nat)), some (.int (max x y : Nat))] ∧ ∃ gs' kvs' k, BSt K H H' b g d n gs gs' 1 ∧ (∃ dx, H' b = some (.ins (cBuilder K) dx (bF n g d))) ∧ H' d = some (.dT kvs') ∧ gs'[k]? = some (max x y, min x y) ∧ valV kvs' [Sum.inl ((max x y : Nat) : Int), Sum.inl ((min x y : Nat) : Int)] = some (.int (2 * (1 + n + k) : Nat)), ?_, ?_⟩
        · refine ⟨_, rfl, _, rfl, (by show 2 ≤ sizeLine; decide), fun t nt => ?_⟩
          have nbt : b ≠ t := ne_of_none h1 nt
          have ngt : g ≠ t := ne_of_none h2 nt
          have ndt : d ≠ t := ne_of_none h3 nt
          have kt : Kp [] H (upd H t (.tup [.int (max x y : Nat), .int (min x y : Nat)])) := Kp.refl.new nt
          refine ⟨_, rfl, b, _, dx, _, _, rfl, kt.at_ _ _ h1 (by simp), T.c_Builder, T.n_Builder_places, bF_places _ _ _, d, _, rfl, DGet.t (k := [Sum.inl ((max x y : Nat) : Int), Sum.inl ((min x y : Nat) : Int)]) (kt.at_ _ _ h3 (by simp)) upd_same, _, rfl, ?_⟩
          cases e : valV kvs [Sum.inl ((max x y : Nat) : Int), Sum.inl ((min x y : Nat) : Int)] with
          | some v =>
            refine iteF ⟨rfl, gs, kvs, ?_⟩
            obtain ⟨k, ek, ev⟩ := hP _ _ _ e
            subst ev
            exact ⟨k, ⟨kt.nil, hB.kp0 kt, List.prefix_refl _, by omega⟩, ⟨dx, kt.at_ _ _ h1 (by simp)⟩, kt.at_ _ _ h3 (by simp), ek, e⟩
          | none =>
            refine iteT ?_
            -- self.places[..] = 2 * (1 + self.leaves + len(self.gates))
            have nbg : b ≠ g := ne_of h1 h2 (by intro z; cases z)
            have nbd : b ≠ d := ne_of h1 h3 (by intro z; cases z)
            have ngd : g ≠ d := ne_of h2 h3 (by intro z; cases z)
            have i1 := kt.at_ _ _ h1 (by simp)
            have g1 := kt.at_ _ _ h2 (by simp)
            refine ⟨_, rfl, b, _, dx, _, _, rfl, i1, T.c_Builder, T.n_Builder_leaves, bF_leaves _ _ _, _, _, rfl, rfl, _, rfl, b, _, dx, _, _, rfl, i1, T.c_Builder, T.n_Builder_gates, bF_gates _ _ _, g, _, rfl, .inl (SqL.of g1), _, _, rfl, rfl, _, _, rfl, rfl, .inl ⟨by decide, by decide⟩, ?_⟩
            refine ⟨_, rfl, b, _, dx, _, _, rfl, i1, T.c_Builder, T.n_Builder_places, bF_places _ _ _, _, rfl, _, rfl, (by show 2 ≤ sizeLine; decide), fun t2 nt2 => ?_⟩
            have k2 : Kp [] H _ := kt.new nt2 (o := .tup [.int (max x y : Nat), .int (min x y : Nat)])
            have d2 := k2.at_ _ _ h3 (by simp)
            have elen : (2 : Int) * (1 + (n : Int) + ((ts.map V.ref).length : Int)) = ((2 * (1 + n + gs.length) : Nat) : Int) := by
              have := hT.length
              rw [List.length_map]; omega
            refine ⟨d, _, rfl, DPut.t (k := [Sum.inl ((max x y : Nat) : Int), Sum.inl ((min x y : Nat) : Int)]) d2 upd_same (Nat.lt_of_le_of_lt hl (Nat.lt_trans hlen big_lt)), ?_⟩
            dsimp only
            rw [elen]
            have k3 : Kp [g, d] H _ := k2.nil.putS (p := d) (o := .dT (putK kvs [Sum.inl ((max x y : Nat) : Int), Sum.inl ((min x y : Nat) : Int)] (.int ((2 * (1 + n + gs.length) : Nat) : Int)))) (by simp) (fun xs z => by rw [h3] at z; cases z) (fun o u z => by rw [h3] at z; cases z) ⟨_, d2⟩
            have i3 := k3.at_ _ _ h1 (not2 nbg nbd)
            have g3 : upd (upd (upd H t (.tup [.int (max x y : Nat), .int (min x y : Nat)])) t2 (.tup [.int (max x y : Nat), .int (min x y : Nat)])) d (.dT (putK kvs [Sum.inl ((max x y : Nat) : Int), Sum.inl ((min x y : Nat) : Int)] (.int ((2 * (1 + n + gs.length) : Nat) : Int)))) g = _ := (upd_ne ngd).trans (k2.at_ _ _ h2 (by simp))
            -- self.gates.append((high, low))
            refine ⟨_, rfl, b, _, dx, _, _, rfl, i3, T.c_Builder, T.n_Builder_gates, bF_gates _ _ _, .inl ⟨rfl, _, SqL.of g3⟩, _, rfl, _, rfl, (by show 2 ≤ sizeLine; decide), fun t3 nt3 => ?_⟩
            have k4 : Kp [g, d] H _ := k3.new nt3 (o := .tup [.int (max x y : Nat), .int (min x y : Nat)])
            have ng3 : g ≠ t3 := ne_of_none g3 nt3
            have nd3 : d ≠ t3 := ne_of_none (show _ = some (HO.dT _) from upd_same) nt3
            have g4 := (upd_ne (o := .tup [.int (max x y : Nat), .int (min x y : Nat)]) ng3).trans g3
            refine ⟨g, _, _, rfl, rfl, g4, (by rw [List.length_map, hT.length]; exact Nat.lt_trans hlen big_lt), ?_⟩
            have k5 : Kp [g, d] H _ := k4.putS (p := g) (o := .lst (ts.map V.ref ++ [.ref t3])) (by simp) (fun xs z => by rw [h2] at z; cases z) (fun o u z => by rw [h2] at z; cases z) ⟨_, g4⟩
            have i5 := k5.at_ _ _ h1 (not2 nbg nbd)
            have d5 : upd (upd (upd (upd (upd H t (.tup [.int (max x y : Nat), .int (min x y : Nat)])) t2 (.tup [.int (max x y : Nat), .int (min x y : Nat)])) d (.dT (putK kvs [Sum.inl ((max x y : Nat) : Int), Sum.inl ((min x y : Nat) : Int)] (.int ((2 * (1 + n + gs.length) : Nat) : Int))))) t3 (.tup [.int (max x y : Nat), .int (min x y : Nat)])) g (.lst (ts.map V.ref ++ [.ref t3])) d = some (.dT (putK kvs [Sum.inl ((max x y : Nat) : Int), Sum.inl ((min x y : Nat) : Int)] (.int ((2 * (1 + n + gs.length) : Nat) : Int)))) := (upd_ne ngd.symm).trans ((upd_ne nd3).trans upd_same)
            have nt3g : t3 ≠ g := ng3.symm
            refine ⟨rfl, gs ++ [(max x y, min x y)], _, gs.length, ⟨k5, ⟨⟨dx, i5⟩, ⟨ts ++ [t3], ?_, ?_⟩, ⟨_, d5, valV_int hP _ _, ?_⟩, hO.snoc oh ol⟩, List.prefix_append _ _, by simp⟩, ⟨dx, i5⟩, d5, by simp, ?_⟩
            · rw [List.map_append]; exact upd_same
            · exact Paired.app (hT.kp k5) (.cons ((upd_ne nt3g).trans upd_same) .nil)
            · have := length_putK kvs [Sum.inl ((max x y : Nat) : Int), Sum.inl ((min x y : Nat) : Int)] (V.int ((2 * (1 + n + gs.length) : Nat) : Int))
              rw [List.length_append, List.length_singleton]; omega
            · rw [valV_put, if_pos rfl]
        · rintro σ' H' ⟨rfl, gs', kvs', k, hS, ⟨dx', i'⟩, d', ek, ev⟩
          refine ⟨_, rfl, b, _, dx', _, _, rfl, i', T.c_Builder, T.n_Builder_places, bF_places _ _ _, _, rfl, _, rfl, (by show 2 ≤ sizeLine; decide), fun t nt => ?_⟩
          have kt : Kp [] H' _ := Kp.refl.new nt (o := .tup [.int (max x y : Nat), .int (min x y : Nat)])
          have dg := DGet.t (k := [Sum.inl ((max x y : Nat) : Int), Sum.inl ((min x y : Nat) : Int)]) (kt.at_ _ _ d' (by simp)) (b := t) upd_same
          rw [ev] at dg
          refine ⟨d, _, rfl, dg, ?_⟩
          have hS2 : BSt K H _ b g d n gs gs' 1 := hS.trans (c' := 0) ⟨kt.nil, hS.at_.kp0 kt, List.prefix_refl _, Nat.le_refl _⟩
          refine q _ gs' _ hS2 ?_ ?_
          · have := (List.getElem?_eq_some_iff.mp ek).1
            unfold Ok; omega
          · obtain ⟨o1, o2⟩ := hS.at_.ok.take ek
            rw [lm_at ek o1 o2, oh.lm hS.pre, ol.lm hS.pre, and_sort]
end
end K14
/-! or, xor, choice -/
namespace K14
open PySem PySem.Spec PyProof.Rows L2
section
variable {P : Program} {w : World} {K : PySem.W.Frag} {mg : Str → Option Value} {base : Heap}
theorem BAt.insE {H : Hp} {b g d : Addr} {n : Nat} {gs : List (Nat × Nat)} (x : BAt K H b g d n gs) : ∃ dx, H b = some (.ins (cBuilder K) dx (bF n g d)) := x.ins
def spBin (K : PySem.W.Frag) (c : Nat) (F : Bool → Bool → Bool) : Sp := fun vs H Q _ => ∃ (b g d : Addr) (n : Nat) (gs : List (Nat × Nat)) (x y : Nat), vs = [.ref b, .int (x : Int), .int (y : Int)] ∧ BAt K H b g d n gs ∧ Ok n gs x ∧ Ok n gs y ∧ gs.length + c ≤ big ∧
  PLit K H Q b g d n gs c fun z => F (lm (nodes n gs) x z) (lm (nodes n gs) y z)
abbrev nm_or_of : List Str := ["builder", "one", "other"]
theorem sc_or_of : FnScope nm_or_of ["builder", "one", "other"] (C8.fnScope (st 15)) := C8.fnScope_by (by decide +kernel)
theorem cal_or_of (T : Top K mg) : C8.Cal P w K mg base (2) "or_of" (spBin K 1 or) [] := by
  refine calD T.d_or_of sc_or_of (fun vs H Q E h => ?_) (fun f cdv A outer s0 H vs Q E hr h => ?_)
  ·
    obtain ⟨b, g, d, n, gs, x, y, rfl, _⟩ := h; rfl
  ·
    obtain ⟨b, g, d, n, gs, x, y, rfl, hB, hx, hy, hlen, q⟩ := h
    have hu := hu_of hr
    refine ⟨_, (pss_one (ps_ret (C8.pe_c (cal_opposite T) hr (by decide) rfl (pa_cons (C8.pe_mt (met_and_of T) hr (by decide) (pv 0) (pa_cons (C8.pe_c (cal_opposite T) hr (by decide) rfl (pa_cons (pv 1) pa_nil)) (pa_cons (C8.pe_c (cal_opposite T) hr (by decide) rfl (pa_cons (pv 2) pa_nil)) pa_nil))) pa_nil)))), ?_⟩
    obtain ⟨dx, h1⟩ := hB.ins
    refine ⟨_, rfl, b, dx, _, rfl, h1, bF_and _ _ _, _, rfl, x, rfl, _, rfl, y, rfl, b, g, d, n, gs, opp x, opp y, rfl, hB, opp_ok hx, opp_ok hy, by omega, fun H' gs' r S o m => ?_⟩
    refine ⟨r, rfl, q H' gs' (opp r) S (opp_ok o) ?_⟩
    rw [lm_opp, m, lm_opp, lm_opp]
    funext z; dsimp only
    cases lm (nodes n gs) x z <;> cases lm (nodes n gs) y z <;> rfl
abbrev nm_xor_of : List Str := ["builder", "one", "other"]
theorem sc_xor_of : FnScope nm_xor_of ["builder", "one", "other"] (C8.fnScope (st 16)) := C8.fnScope_by (by decide +kernel)
theorem cal_xor_of (T : Top K mg) : C8.Cal P w K mg base (3) "xor_of" (spBin K 3 xor) [] := by
  refine calD T.d_xor_of sc_xor_of (fun vs H Q E h => ?_) (fun f cdv A outer s0 H vs Q E hr h => ?_)
  ·
    obtain ⟨b, g, d, n, gs, x, y, rfl, _⟩ := h; rfl
  ·
    obtain ⟨b, g, d, n, gs, x, y, rfl, hB, hx, hy, hlen, q⟩ := h
    have hu := hu_of hr
    refine ⟨_, (pss_one (ps_ret (C8.pe_mt (met_and_of T) hr (by decide) (pv 0) (pa_cons (C8.pe_c (cal_or_of T) hr (by decide) rfl (pa_cons (pv 0) (pa_cons (pv 1) (pa_cons (pv 2) pa_nil)))) (pa_cons (C8.pe_c (cal_opposite T) hr (by decide) rfl (pa_cons (C8.pe_mt (met_and_of T) hr (by decide) (pv 0) (pa_cons (pv 1) (pa_cons (pv 2) pa_nil))) pa_nil)) pa_nil))))), ?_⟩
    obtain ⟨dx, h1⟩ := hB.ins
    refine ⟨_, rfl, b, dx, _, rfl, h1, bF_and _ _ _, _, rfl, _, rfl, _, rfl, b, g, d, n, gs, x, y, rfl, hB, hx, hy, by omega, fun H1 gs1 r1 S1 o1 m1 => ?_⟩
    obtain ⟨dx1, i1⟩ := S1.at_.ins
    have l1 := S1.len
    refine ⟨_, rfl, b, dx1, _, rfl, i1, bF_and _ _ _, _, rfl, _, rfl, b, g, d, n, gs1, x, y, rfl, S1.at_, hx.mono S1.pre, hy.mono S1.pre, by omega, fun H2 gs2 r2 S2 o2 m2 => ?_⟩
    have l2 := S2.len
    refine ⟨r2, rfl, b, g, d, n, gs2, r1, opp r2, rfl, S2.at_, o1.mono S2.pre, opp_ok o2, by omega, fun H3 gs3 r3 S3 o3 m3 => ?_⟩
    refine q H3 gs3 r3 ((S1.trans S2).trans S3) o3 ?_
    rw [m3, o1.lm S2.pre, m1, lm_opp, m2, hx.lm S1.pre, hy.lm S1.pre]
    funext z; dsimp only
    cases lm (nodes n gs) x z <;> cases lm (nodes n gs) y z <;> rfl
def spChoice (K : PySem.W.Frag) : Sp := fun vs H Q _ => ∃ (b g d : Addr) (n : Nat) (gs : List (Nat × Nat)) (c x y : Nat), vs = [.ref b, .int (c : Int), .int (x : Int), .int (y : Int)] ∧ BAt K H b g d n gs ∧ Ok n gs c ∧ Ok n gs x ∧ Ok n gs y ∧ gs.length + 3 ≤ big ∧
  PLit K H Q b g d n gs 3 fun z => if lm (nodes n gs) c z = true then lm (nodes n gs) x z else lm (nodes n gs) y z
abbrev nm_choice_of : List Str := ["builder", "c", "one", "other"]
theorem sc_choice_of : FnScope nm_choice_of ["builder", "c", "one", "other"] (C8.fnScope (st 17)) := C8.fnScope_by (by decide +kernel)
theorem cal_choice_of (T : Top K mg) : C8.Cal P w K mg base (3) "choice_of" (spChoice K) [] := by
  refine calD T.d_choice_of sc_choice_of (fun vs H Q E h => ?_) (fun f cdv A outer s0 H vs Q E hr h => ?_)
  ·
    obtain ⟨b, g, d, n, gs, c, x, y, rfl, _⟩ := h; rfl
  ·
    obtain ⟨b, g, d, n, gs, c, x, y, rfl, hB, hc, hx, hy, hlen, q⟩ := h
    have hu := hu_of hr
    refine ⟨_, (pss_one (ps_ret (C8.pe_c (cal_or_of T) hr (by decide) rfl (pa_cons (pv 0) (pa_cons (C8.pe_mt (met_and_of T) hr (by decide) (pv 0) (pa_cons (pv 1) (pa_cons (pv 2) pa_nil))) (pa_cons (C8.pe_mt (met_and_of T) hr (by decide) (pv 0) (pa_cons (C8.pe_c (cal_opposite T) hr (by decide) rfl (pa_cons (pv 1) pa_nil)) (pa_cons (pv 3) pa_nil))) pa_nil)))))), ?_⟩
    obtain ⟨dx, h1⟩ := hB.ins
    refine ⟨_, rfl, _, rfl, b, dx, _, rfl, h1, bF_and _ _ _, _, rfl, _, rfl, b, g, d, n, gs, c, x, rfl, hB, hc, hx, by omega, fun H1 gs1 r1 S1 o1 m1 => ?_⟩
    obtain ⟨dx1, i1⟩ := S1.at_.ins
    have l1 := S1.len
    refine ⟨_, rfl, b, dx1, _, rfl, i1, bF_and _ _ _, _, rfl, c, rfl, _, rfl, b, g, d, n, gs1, opp c, y, rfl, S1.at_, opp_ok (hc.mono S1.pre), hy.mono S1.pre, by omega, fun H2 gs2 r2 S2 o2 m2 => ?_⟩
    have l2 := S2.len
    refine ⟨b, g, d, n, gs2, r1, r2, rfl, S2.at_, o1.mono S2.pre, o2, by omega, fun H3 gs3 r3 S3 o3 m3 => ?_⟩
    refine q H3 gs3 r3 ((S1.trans S2).trans S3) o3 ?_
    rw [m3, o1.lm S2.pre, m1, m2, lm_opp, hc.lm S1.pre, hy.lm S1.pre]
    funext z; dsimp only
    cases lm (nodes n gs) c z <;> cases lm (nodes n gs) x z <;> cases lm (nodes n gs) y z <;> rfl
end
end K14
set_option maxHeartbeats 200000
/-! words of literals and their numbers -/
namespace K14
/-- the number of a word of literals, the lowest bit first -/
def wn (ms : List M) : List Nat → Bits → Nat
  | [], _ => 0
  | l :: r, b => (lm ms l b).toNat + 2 * wn ms r b
def WOk (n : Nat) (gs : List (Nat × Nat)) (ws : List Nat) : Prop := ∀ l ∈ ws, Ok n gs l
theorem WOk.mono {n : Nat} {gs gs' : List (Nat × Nat)} {ws : List Nat} (o : WOk n gs ws) (h : gs <+: gs') : WOk n gs' ws := fun l m => (o l m).mono h
theorem WOk.num {n : Nat} {gs gs' : List (Nat × Nat)} (h : gs <+: gs') : ∀ {ws : List Nat}, WOk n gs ws → wn (nodes n gs') ws = wn (nodes n gs) ws
  | [], _ => rfl
  | l :: r, o => by
    funext b
    show (lm (nodes n gs') l b).toNat + 2 * wn (nodes n gs') r b = (lm (nodes n gs) l b).toNat + 2 * wn (nodes n gs) r b
    rw [(o l (List.mem_cons_self)).lm h, WOk.num h fun x m => o x (List.mem_cons_of_mem _ m)]
theorem wn_lt (ms : List M) (b : Bits) : ∀ ws : List Nat, wn ms ws b < 2 ^ ws.length
  | [] => by show 0 < 2 ^ 0; decide
  | l :: r => by
    have ih := wn_lt ms b r
    show (lm ms l b).toNat + 2 * wn ms r b < 2 ^ (r.length + 1)
    rw [Nat.pow_succ]
    cases lm ms l b <;> simp <;> omega
theorem wn_app (ms : List M) (b : Bits) : ∀ a c : List Nat, wn ms (a ++ c) b = wn ms a b + 2 ^ a.length * wn ms c b
  | [], c => by simp [wn]
  | l :: r, c => by
    show (lm ms l b).toNat + 2 * wn ms (r ++ c) b = (lm ms l b).toNat + 2 * wn ms r b + 2 ^ (r.length + 1) * wn ms c b
    rw [wn_app ms b r c, Nat.pow_succ, Nat.mul_add, Nat.mul_comm (2 ^ r.length) 2, Nat.mul_assoc]
    omega
/-- the bits of a number -/
def nb (w v : Nat) : List Nat := (List.range w).map fun k => v / 2 ^ k % 2
theorem nb_len (w v : Nat) : (nb w v).length = w := by simp [nb]
theorem nb_succ (w v : Nat) : nb (w + 1) v = v % 2 :: nb w (v / 2) := by
  unfold nb
  rw [List.range_succ_eq_map, List.map_cons, List.map_map]
  congr 1
  · rw [Nat.pow_zero, Nat.div_one]
  · apply List.map_congr_left
    intro k _
    show v / 2 ^ (k + 1) % 2 = v / 2 / 2 ^ k % 2
    rw [Nat.pow_succ, Nat.mul_comm, Nat.div_div_eq_div_mul]
theorem nb_take (w v : Nat) {i : Nat} (h : i ≤ w) : (nb w v).take i = nb i v := by
  unfold nb
  rw [← List.map_take, List.take_range, Nat.min_eq_left h]
theorem nb_snoc (i v : Nat) : nb (i + 1) v = nb i v ++ [v / 2 ^ i % 2] := by
  unfold nb
  rw [List.range_succ, List.map_append]; rfl
theorem nb_le (w v : Nat) : ∀ l ∈ nb w v, l < 2 := by
  intro l m
  unfold nb at m
  obtain ⟨k, _, rfl⟩ := List.mem_map.mp m
  omega
theorem nb_ok (w v n : Nat) (gs : List (Nat × Nat)) : WOk n gs (nb w v) := fun l m => by
  have := nb_le w v l m
  unfold Ok; omega
theorem lm_bit (n : Nat) (gs : List (Nat × Nat)) {l : Nat} (h : l < 2) (b : Bits) : (lm (nodes n gs) l b).toNat = l := by
  have : l = 0 ∨ l = 1 := by omega
  rcases this with rfl | rfl
  · rw [lm_zero]; rfl
  · rw [lm_one]; rfl
theorem wn_nb (n : Nat) (gs : List (Nat × Nat)) (b : Bits) : ∀ w v : Nat, wn (nodes n gs) (nb w v) b = v % 2 ^ w
  | 0, v => by simp [nb, wn, Nat.mod_one]
  | w + 1, v => by
    rw [nb_succ]
    show (lm (nodes n gs) (v % 2) b).toNat + 2 * wn (nodes n gs) (nb w (v / 2)) b = _
    rw [lm_bit n gs (by omega), wn_nb n gs b w (v / 2), Nat.pow_succ, Nat.mul_comm (2 ^ w) 2, Nat.mod_mul]
/-- opposites -/
theorem wn_neg (ms : List M) (b : Bits) : ∀ ws : List Nat, wn ms (ws.map opp) b + wn ms ws b + 1 = 2 ^ ws.length
  | [] => rfl
  | l :: r => by
    have ih := wn_neg ms b r
    have e : (lm ms (opp l) b).toNat + (lm ms l b).toNat = 1 := by
      rw [lm_opp]; dsimp only
      cases lm ms l b <;> rfl
    show (lm ms (opp l) b).toNat + 2 * wn ms (r.map opp) b + ((lm ms l b).toNat + 2 * wn ms r b) + 1 = 2 ^ (r.length + 1)
    rw [Nat.pow_succ]
    omega
theorem WOk.neg {n : Nat} {gs : List (Nat × Nat)} {ws : List Nat} (o : WOk n gs ws) : WOk n gs (ws.map opp) := fun l m => by
  obtain ⟨x, hx, rfl⟩ := List.mem_map.mp m
  exact opp_ok (o x hx)
/-- sums bit by bit -/
def maj (a b c : Bool) : Bool := (a && b) || ((a != b) && c)
theorem add_bit (a b c : Bool) : a.toNat + b.toNat + c.toNat = ((a != b) != c).toNat + 2 * (maj a b c).toNat := by cases a <;> cases b <;> cases c <;> rfl
theorem wn_take_succ (ms : List M) (b : Bits) {ws : List Nat} {i l : Nat} (h : ws[i]? = some l) : wn ms (ws.take (i + 1)) b = wn ms (ws.take i) b + 2 ^ i * (lm ms l b).toNat := by
  have hi := (List.getElem?_eq_some_iff.mp h).1
  rw [List.take_add_one, h, wn_app, List.length_take, Nat.min_eq_left (by omega)]
  simp [wn]
theorem wn_ext {ms ms' : List M} {ws : List Nat} (h : ∀ l ∈ ws, lm ms l = lm ms' l) : wn ms ws = wn ms' ws := by
  induction ws with
  | nil => rfl
  | cons l r ih =>
    funext b
    show (lm ms l b).toNat + 2 * wn ms r b = (lm ms' l b).toNat + 2 * wn ms' r b
    rw [h l List.mem_cons_self, ih fun x m => h x (List.mem_cons_of_mem _ m)]
end K14
set_option maxHeartbeats 4000000
/-! words: numbers, sums -/
namespace K14
open PySem PySem.Spec PyProof.Rows L2
def lit (l : Nat) : V := .int (l : Int)
def WAt (K : PySem.W.Frag) (H : Hp) (a : Addr) (ws : List Nat) : Prop := SqT K H a (ws.map lit)
theorem WAt.kp {K : PySem.W.Frag} {S : List Addr} {H H' : Hp} {a : Addr} {ws : List Nat} (x : WAt K H a ws) (k : Kp S H H') : WAt K H' a ws := k.sqT x
theorem get_map {α β : Type} {f : α → β} {l : List α} {i : Nat} {y : β} (h : (l.map f)[i]? = some y) : ∃ x, l[i]? = some x ∧ y = f x := by
  rw [List.getElem?_map] at h
  cases e : l[i]? with
  | none => rw [e] at h; cases h
  | some x => rw [e] at h; exact ⟨x, rfl, (Option.some.inj h).symm⟩
theorem put_map {α β : Type} {f : α → β} {l : List α} {i : Nat} {x : α} (h : l[i]? = some x) : (l.map f)[i]? = some (f x) := by rw [List.getElem?_map, h]; rfl
theorem wo_get {n : Nat} {gs : List (Nat × Nat)} {ws : List Nat} (o : WOk n gs ws) {i l : Nat} (h : ws[i]? = some l) : Ok n gs l := o l (List.mem_of_getElem? h)
theorem WOk.app {n : Nat} {gs : List (Nat × Nat)} {a b : List Nat} (x : WOk n gs a) (y : WOk n gs b) : WOk n gs (a ++ b) := fun l m => (List.mem_append.mp m).elim (x l) (y l)
theorem WOk.one {n : Nat} {gs : List (Nat × Nat)} {a : Nat} (x : Ok n gs a) : WOk n gs [a] := fun l m => by rw [List.mem_singleton.mp m]; exact x
theorem WOk.take {n : Nat} {gs : List (Nat × Nat)} {a : List Nat} (x : WOk n gs a) (i : Nat) : WOk n gs (a.take i) := fun l m => x l (List.mem_of_mem_take m)
theorem WOk.drop {n : Nat} {gs : List (Nat × Nat)} {a : List Nat} (x : WOk n gs a) (i : Nat) : WOk n gs (a.drop i) := fun l m => x l (List.mem_of_mem_drop m)
theorem small (n : Nat) (h : n ≤ 1000000) : n < sizeLine := Nat.lt_of_le_of_lt h (by decide)
section
variable {P : Program} {w : World} {K : PySem.W.Frag} {mg : Str → Option Value} {base : Heap}
theorem BSt.new {H H1 : Hp} {b g d p : Addr} {n c : Nat} {gs gs' : List (Nat × Nat)} {o : HO} (x : BSt K H H1 b g d n gs gs' c) (np : H1 p = none) : BSt K H (upd H1 p o) b g d n gs gs' c :=
  ⟨x.kp.new np, x.at_.kp0 (Kp.refl.new np), x.pre, x.len⟩
theorem noTup {H : Hp} {p : Addr} {l : List V} (e : H p = some (.lst l)) (xs : List V) : H p ≠ some (.tup xs) := fun z => by rw [e] at z; cases z
theorem BSt.put {H H1 : Hp} {b g d p : Addr} {n c : Nat} {gs gs' : List (Nat × Nat)} {o : HO} {l : List V} (x : BSt K H H1 b g d n gs gs' c) (hB : BAt K H b g d n gs) (n0 : H p = none) (e : H1 p = some (.lst l)) : BSt K H (upd H1 p o) b g d n gs gs' c := by
  obtain ⟨⟨dx, h1⟩, ⟨ts, h2, _⟩, ⟨kvs, h3, _⟩, _⟩ := hB
  obtain ⟨⟨dx', i1⟩, ⟨ts', i2, i3⟩, ⟨kvs', i4, i5⟩, i6⟩ := x.at_
  refine ⟨x.kp.put n0, ⟨⟨dx', (upd_ne (ne_of_none h1 n0)).trans i1⟩, ⟨ts', (upd_ne (ne_of_none h2 n0)).trans i2, Paired.mapP i3 fun t q z => ?_⟩, ⟨kvs', (upd_ne (ne_of_none h3 n0)).trans i4, i5⟩, i6⟩, x.pre, x.len⟩
  rw [upd_ne fun y => noTup e _ (by rw [← y]; exact z)]
  exact z
/-! ### number_bits -/
def spNumBits (K : PySem.W.Frag) : Sp := fun vs H Q _ => ∃ wd v : Nat, vs = [.int (wd : Int), .int (v : Int)] ∧ wd ≤ 1000 ∧ ∀ H' a, Kp [] H H' → WAt K H' a (nb wd v) → Q (.ref a) H'
theorem shr_bit (v i : Nat) : Builtin.bitAnd ((v : Int) / 2 ^ (0 + (i : Int)).toNat) 1 = ((v / 2 ^ i % 2 : Nat) : Int) := by
  have e0 : (0 + (i : Int)).toNat = i := by omega
  have e1 : (v : Int) / 2 ^ i = ((v / 2 ^ i : Nat) : Int) := by
    rw [Int.natCast_ediv, Int.natCast_pow]; rfl
  rw [e0, e1]
  unfold Builtin.bitAnd
  rw [show decide ((0 : Int) ≤ ((v / 2 ^ i : Nat) : Int)) = true from decide_eq_true (Int.natCast_nonneg _), show decide ((0 : Int) ≤ 1) = true from rfl]
  show (((((v / 2 ^ i : Nat) : Int).toNat) &&& (1 : Int).toNat : Nat) : Int) = _
  rw [Int.toNat_natCast]
  show (((v / 2 ^ i) &&& 1 : Nat) : Int) = _
  rw [Nat.and_one_is_mod]
abbrev nm_number_bits : List Str := ["width", "number", "k"]
theorem sc_number_bits : FnScope nm_number_bits ["width", "number"] (C8.fnScope (st 22)) := C8.fnScope_by (by decide +kernel)
theorem cal_number_bits (T : Top K mg) : C8.Cal P w K mg base (1) "number_bits" (spNumBits K) [] := by
  refine calD T.d_number_bits sc_number_bits (fun vs H Q E h => ?_) (fun f cdv A outer s0 H vs Q E hr h => ?_)
  ·
    obtain ⟨wd, v, rfl, _⟩ := h; rfl
  ·
    obtain ⟨wd, v, rfl, hw, q⟩ := h
    have hu := hu_of hr
    refine ⟨_, (pss_one (ps_ret (pe_callTy call_tuple_of (by rfl) T.f_tuple PyProof.Rows.boot_tuple (pa_cons (pe_lc (own := [("k", 2)]) (g := (gName 2)) (tt := tYes)  rfl sc_number_bits.nd (pi_range1 (by rfl) T.f_range (pa_cons (pv 0) pa_nil)) (blkOk_by (own := [("k", 2)]) (N := nm_number_bits) (sc := C8.fnScope (st 22)) (by decide +kernel)) (fun _ _ _ _ _ => (pg_name (i := 2) sc_number_bits.nd rfl (Or.inl rfl))) (fun _ _ _ _ _ => pts_nil) (fun _ _ _ _ _ => (pe_op op_and (pe_op op_shr (pv 1) (pv 2)) pe_int))) pa_nil)))), ?_⟩
    refine ⟨_, rfl, _, rfl, by omega, by omega, fun D nD => lc_range (lo := 0) (n := wd) (fun i H' => H' D = some (.lst ((nb i v).map lit)) ∧ Kp [] H H') ⟨upd_same, Kp.refl.new nD⟩ (fun i H' hi ⟨eD, k⟩ => ?_) (fun H' ⟨eD, k⟩ => ?_)⟩
    · refine ⟨rfl, ?_⟩
      refine ⟨_, rfl, _, rfl, _, _, rfl, rfl, by omega, _, _, rfl, rfl, _, eD, small _ (by rw [List.length_map, nb_len]; omega), ?_, k.put nD⟩
      rw [upd_same, nb_snoc, List.map_append]
      dsimp only
      rw [shr_bit]; rfl
    · refine ⟨_, _, rfl, .inl ⟨SqL.of eD, fun p np => ?_⟩⟩
      exact q _ p (k.new np) (SqT.of upd_same)
abbrev nm_number_word : List Str := ["width", "number"]
theorem sc_number_word : FnScope nm_number_word ["width", "number"] (C8.fnScope (st 21)) := C8.fnScope_by (by decide +kernel)
theorem cal_number_word (T : Top K mg) : C8.Cal P w K mg base (2) "number_word" (spNumBits K) [] := by
  refine calD T.d_number_word sc_number_word (fun vs H Q E h => ?_) (fun f cdv A outer s0 H vs Q E hr h => ?_)
  ·
    obtain ⟨wd, v, rfl, _⟩ := h; rfl
  ·
    obtain ⟨wd, v, rfl, hw, q⟩ := h
    have hu := hu_of hr
    refine ⟨_, (pss_one (ps_ret (C8.pe_c (cal_number_bits T) hr (by decide) rfl (pa_cons (pv 0) (pa_cons (pv 1) pa_nil))))), ?_⟩
    exact ⟨_, rfl, _, rfl, wd, v, rfl, hw, fun H' a k x => q H' a k x⟩
/-! ### full_sum -/
def spFull (K : PySem.W.Frag) : Sp := fun vs H Q _ => ∃ (b g d : Addr) (n : Nat) (gs : List (Nat × Nat)) (x y c : Nat), vs = [.ref b, .int (x : Int), .int (y : Int), .int (c : Int)] ∧ BAt K H b g d n gs ∧ Ok n gs x ∧ Ok n gs y ∧ Ok n gs c ∧ gs.length + 9 ≤ big ∧
  ∀ H' gs' t (r1 r2 : Nat), BSt K H H' b g d n gs gs' 9 → SqT K H' t [lit r1, lit r2] → Ok n gs' r1 → Ok n gs' r2 → (∀ z, lm (nodes n gs') r1 z = ((lm (nodes n gs) x z != lm (nodes n gs) y z) != lm (nodes n gs) c z)) →
    (∀ z, lm (nodes n gs') r2 z = maj (lm (nodes n gs) x z) (lm (nodes n gs) y z) (lm (nodes n gs) c z)) → Q (.ref t) H'
abbrev nm_full_sum : List Str := ["builder", "a", "b", "c", "first", "carry"]
theorem sc_full_sum : FnScope nm_full_sum ["builder", "a", "b", "c"] (C8.fnScope (st 23)) := C8.fnScope_by (by decide +kernel)
theorem cal_full_sum (T : Top K mg) : C8.Cal P w K mg base (4) "full_sum" (spFull K) [] := by
  refine calD T.d_full_sum sc_full_sum (fun vs H Q E h => ?_) (fun f cdv A outer s0 H vs Q E hr h => ?_)
  ·
    obtain ⟨b, g, d, n, gs, x, y, c, rfl, _⟩ := h; rfl
  ·
    obtain ⟨b, g, d, n, gs, x, y, c, rfl, hB, hx, hy, hc, hlen, q⟩ := h
    have hu := hu_of hr
    refine ⟨_, (pss_cons (ps_set (i := 4) sc_full_sum.nd rfl (Or.inl rfl) (C8.pe_c (cal_xor_of T) hr (by decide) rfl (pa_cons (pv 0) (pa_cons (pv 1) (pa_cons (pv 2) pa_nil)))))
      (pss_cons (ps_set (i := 5) sc_full_sum.nd rfl (Or.inl rfl) (C8.pe_c (cal_or_of T) hr (by decide) rfl (pa_cons (pv 0) (pa_cons (C8.pe_mt (met_and_of T) hr (by decide) (pv 0) (pa_cons (pv 1) (pa_cons (pv 2) pa_nil))) (pa_cons (C8.pe_mt (met_and_of T) hr (by decide) (pv 0) (pa_cons (pv 4) (pa_cons (pv 3) pa_nil))) pa_nil)))))
      (pss_one (ps_ret (pe_tup (pa_cons (C8.pe_c (cal_xor_of T) hr (by decide) rfl (pa_cons (pv 0) (pa_cons (pv 4) (pa_cons (pv 3) pa_nil)))) (pa_cons (pv 5) pa_nil))))))), ?_⟩
    refine ⟨_, rfl, _, rfl, _, rfl, b, g, d, n, gs, x, y, rfl, hB, hx, hy, by omega, fun H1 gs1 r1 S1 o1 m1 => ?_⟩
    obtain ⟨dx1, i1⟩ := S1.at_.ins
    have l1 := S1.len
    refine ⟨_, rfl, _, rfl, b, dx1, _, rfl, i1, bF_and _ _ _, _, rfl, _, rfl, b, g, d, n, gs1, x, y, rfl, S1.at_, hx.mono S1.pre, hy.mono S1.pre, by omega, fun H2 gs2 r2 S2 o2 m2 => ?_⟩
    obtain ⟨dx2, i2⟩ := S2.at_.ins
    have l2 := S2.len
    have p12 := S1.pre.trans S2.pre
    refine ⟨_, rfl, b, dx2, _, rfl, i2, bF_and _ _ _, _, rfl, _, rfl, b, g, d, n, gs2, r1, c, rfl, S2.at_, o1.mono S2.pre, hc.mono p12, by omega, fun H3 gs3 r3 S3 o3 m3 => ?_⟩
    have l3 := S3.len
    refine ⟨b, g, d, n, gs3, r2, r3, rfl, S3.at_, o2.mono S3.pre, o3, by omega, fun H4 gs4 r4 S4 o4 m4 => ?_⟩
    have l4 := S4.len
    have p24 := S3.pre.trans S4.pre
    have p14 := S2.pre.trans p24
    refine ⟨_, rfl, _, rfl, _, rfl, b, g, d, n, gs4, r1, c, rfl, S4.at_, o1.mono p14, hc.mono (S1.pre.trans p14), by omega, fun H5 gs5 r5 S5 o5 m5 => ?_⟩
    refine ⟨_, rfl, (by show 2 ≤ sizeLine; decide), fun t nt => ?_⟩
    have S := (((S1.trans S2).trans S3).trans S4).trans S5
    refine q _ gs5 t r5 r4 ((S.new nt).mono (by omega)) (SqT.of upd_same) o5 (o4.mono S5.pre) (fun z => ?_) (fun z => ?_)
    · rw [m5, o1.lm p14, m1, hc.lm (S1.pre.trans p14)]
    · rw [o4.lm S5.pre, m4, o2.lm S3.pre, m2, m3, o1.lm S2.pre, m1, hc.lm p12, hx.lm S1.pre, hy.lm S1.pre]
      rfl
end
end K14
/-! rules of my own: enumerate of a tuple, zip of a tuple and a list, a tuple times 0, 1, .. -/
namespace K14
open PySem PySem.Spec PyProof.Rows L2
open AutoSeq1 (wpAny_loadPart')
/-! ### enumerate of a tuple -/
theorem meets_enumT (l : Addr) (items : Array Value) (n : Nat) (dct : Option Addr) (sl : Array (Option Value)) :
    Meets (Builtin.«enumerate.__new__» ⟨[.type "enumerate", .ref l], []⟩) (fun _ R s => s.heap.get? l = some { cls := .type "tuple", dict := dct, data := .seq items n, slots := sl } ∧
      R (.ok (.ret (.ref (s.heap.push { cls := .type "tuple_iterator", data := .fields #[.ref l, .int 0 0] }).objs.size)))
        { s with heap := (s.heap.push { cls := .type "tuple_iterator", data := .fields #[.ref l, .int 0 0] }).push { cls := .type "enumerate", data := .fields #[.none, .bool false, .ref s.heap.objs.size, rawInt 0, .none, .none] } }) :=
  .of_wp fun prog w A R s h => by
    obtain ⟨hp, g, d, tk, os⟩ := s; obtain ⟨hl, h⟩ := h
    have hsub := sub_enumerate
    have hL : Heap.IsTuple (Shared.heap ⟨hp, g, d, tk, os⟩) l items := ⟨_, hl, rfl, n, rfl⟩
    wp_walk using wpAny_loadPart' hl
    refine wpAny_stack_any fun st => wpAny_pure ?_
    split
    · rename_i c _ _ _ _ _
      cases (c == Value.type "enumerate")
      · wp_walk using wpAny_loadPart' hl, wpAny_pyIter_tuple hL
        exact ⟨_, rfl, h⟩
      · wp_walk using wpAny_loadPart' hl, wpAny_pyIter_tuple hL
        exact ⟨_, rfl, h⟩
    · wp_walk using wpAny_loadPart' hl, wpAny_pyIter_tuple hL
      exact ⟨_, rfl, h⟩
theorem call_enumT {prog : Program} {w : World} {A : Around} {E : Value → Shared → Prop} {s : Shared} {l : Addr} {items : Array Value} {Q : Value → Shared → Prop} (hL : s.heap.IsTuple l items)
    (h : ∀ h', IsEnum h' (s.heap.objs.size + 1) s.heap.objs.size 0 .none → h'.IsTupleIter s.heap.objs.size l 0 → h'.objs.size = s.heap.objs.size + 2 →
      (∀ b o, s.heap.get? b = some o → h'.get? b = some o) → Q (.ref (s.heap.objs.size + 1)) { s with heap := h' }) :
    wpAny (model prog w) A (call (.type "enumerate") [.ref l]) Q E s := by
  obtain ⟨⟨c, dct, dt, sl⟩, hl, hc, n, hd⟩ := hL
  replace hc : c = .type "tuple" := hc
  replace hd : dt = .seq items n := hd
  subst hc hd
  refine callType_new F.called_enumerate (by decide) (F.typeCall_enumerate_1 _) (F.newCall_enumerate_1 _) (fun obj => F.args_object_init_2 obj _) F.entry_enumerate_new
    (meets_enumT l items n dct sl) ⟨hl, ?_⟩
  have hz : (s.heap.push { cls := .type "tuple_iterator", data := .fields #[.ref l, .int 0 0] }).objs.size = s.heap.objs.size + 1 := Heap.size_push ..
  show _ ∧ _
  rw [hz]
  have he : IsEnum ((s.heap.push { cls := .type "tuple_iterator", data := .fields #[.ref l, .int 0 0] }).push
      { cls := .type "enumerate", data := .fields #[.none, .bool false, .ref s.heap.objs.size, rawInt 0, .none, .none] }) (s.heap.objs.size + 1) s.heap.objs.size 0 .none := by
    have := Heap.get?_push_size (s.heap.push { cls := .type "tuple_iterator", data := .fields #[.ref l, .int 0 0] })
      (o := { cls := .type "enumerate", data := .fields #[.none, .bool false, .ref s.heap.objs.size, rawInt 0, .none, .none] }) rfl
    rw [hz] at this; exact this
  refine ⟨⟨_, he, rfl⟩, h _ he ⟨_, Heap.get?_push_of_some _ (Heap.get?_push_size _ rfl), rfl, rfl⟩ (by rw [Heap.size_push, hz]) fun b o x => Heap.get?_push_of_some _ (Heap.get?_push_of_some _ x)⟩
theorem enumT_end {prog : Program} {w : World} {A : Around} {E : Value → Shared → Prop} {s : Shared} {e it l : Addr} {i : Nat} {items : Array Value} {old : Value} {Q : Option Value → Shared → Prop} (hh : A.handled = none)
    (he : IsEnum s.heap e it i old) (hit : s.heap.IsTupleIter it l i) (hl : s.heap.IsTuple l items) (hx : items[i]? = none)
    (hQ : ∀ h', Heap.ExtBut it s.heap h' → Q none { s with heap := h' }) : wpAny (model prog w) A (pyNext (.ref e)) Q E s := by
  have hT : s.TypeIs (.ref e) "enumerate" := ⟨_, he, rfl⟩
  unfold pyNext
  refine wpAny_bind (wpAny_attempt (wpAny_callSpecial?_slot (name := Str.ofString "__next__") hT F.slot_enumerate_next
    (wpAny_call_entry F.slot_enumerate_next hT F.entry_enumerate_next ?_ (F.args_enumerate_next_1 _))))
  show wpAny _ _ (field (.ref e) 2 >>= _) _ _ _
  refine wpAny_bind (wpAny_field he rfl (x := .ref it) rfl ?_)
  refine wpAny_bind (wpAny_nextOf_tuple_end (show A.in1.handled = none from hh) hit hl hx fun h' x he' hx' => ?_)
  obtain ⟨o, ho, hc⟩ := hx'
  refine wpAny_bind (wpAny_isInstance (T := "StopIteration") (b := true) ⟨o, ho, hc⟩ isSubtype_stop ?_)
  exact wpAny_pure (hQ _ he')
def IteT (K : PySem.W.Frag) (a : Addr) : It :=
  ⟨fun i H => ∃ (xs : List V) (x : V), SqT K H a xs ∧ xs[i]? = some x, fun i H v H' => ∃ T x, v = .ref T ∧ H T = none ∧ H' = upd H T (.tup [.int (i : Nat), x]) ∧ ∀ xs, SqT K H a xs → xs[i]? = some x, fun i H => ∃ xs : List V, SqT K H a xs ∧ xs.length ≤ i⟩
theorem turn_enumT {P : Program} {w : World} {K : PySem.W.Frag} {elts : List Expr} {kk : Nat} {tpos : Pos} (a e it : Addr) :
    Turn P w K (.Tuple elts kk tpos) (IteT K a) [e, it] e (fun i h => (∃ old, IsEnum h e it ((i : Nat) : Int) old) ∧ h.IsTupleIter it a i ∧ e ≠ it ∧ a ≠ it ∧ a ≠ e) where
  mem := by simp
  obj := fun i h st b hb => by
    obtain ⟨⟨old, he⟩, ⟨o, ho, hc, hd⟩, _⟩ := st
    have e' : b = e ∨ b = it := by simpa using hb
    rcases e' with z | z
    · rw [z]; exact ⟨_, he, fun v q => nomatch q⟩
    · rw [z]; exact ⟨o, ho, fun v q => by rw [hd] at q; cases q⟩
  keep := fun i h h' st k => let ⟨⟨old, he⟩, hi, hne⟩ := st; ⟨⟨old, k e (by simp) _ he⟩, hi.at fun o q => k it (by simp) o q, hne⟩
  item := by
    intro X hP hw hK hc i pins s σ H E I hf st hg
    subst hP hw hK
    obtain ⟨⟨old, he⟩, hit, hne, hat, hae⟩ := st
    obtain ⟨xs, x, hq, hx⟩ := hg
    obtain ⟨its, rv, p, hz⟩ := I.tuple hq
    obtain ⟨u, hu, ru⟩ := rv.get hx
    have hel : e < s.heap.objs.size := Heap.lt_size he
    have hil : it < s.heap.objs.size := by obtain ⟨_, q, _⟩ := hit; exact Heap.lt_size q
    have hlt : i < its.toArray.size := by
      have := (List.getElem?_eq_some_iff.mp hu).1
      simpa using this
    refine wpAny_pyNext_enum_itemD (Draws.tuple (show X.A.in1.handled = none from I.ok.hd hc) it a hat its.toArray) he ⟨hit, p⟩ hlt hne (by simp [hne, hae.symm]) fun y h' tk hP ho hs' hT hsz hk => ?_
    have ey : y = u := by
      have h1 : its.toArray[i]? = some y := hP
      rw [show its.toArray[i]? = its[i]? by simp, hu] at h1
      exact (Option.some.inj h1).symm
    subst ey
    refine ⟨_, rfl, wpAny_letOwnedTupleGo_enum (s := { s with heap := h', toks := tk + 1 }) ho fun h'' he' sb => ?_⟩
    have hT2 : h''.get? s.heap.objs.size = some { cls := .type "tuple", data := .seq #[.int i tk, y] } := (sb.2 _ (Nat.ne_of_gt hel)).trans hT
    have new : ObjOk X.prog X.w (upd H s.heap.objs.size (.tup [.int (i : Nat), x])) h'' s.heap.objs.size (.tup [.int (i : Nat), x]) :=
      ⟨by show 2 ≤ sizeLine; decide, [.int i tk, y], .cons ⟨_, rfl⟩ (.cons ru .nil), ⟨_, hT2, rfl, _, rfl⟩⟩
    have I1 : Inv X pins σ (upd H s.heap.objs.size (.tup [.int (i : Nat), x])) { s with heap := h'', toks := tk + 1 } :=
      I.turnedNew (ch := [e, it]) (fun b ob hb q => (sb.2 b (fun z => hb (by simp [z]))).trans (hk b ob (fun z => hb (by simp [z])) (fun z => hb (by simp [z])) q)) hf (Nat.le_refl _) new
    refine ⟨.ref s.heap.objs.size, _, I1, rfl, ⟨_, x, rfl, I.hok.fresh (Nat.le_refl _), rfl, fun ys hy => by rw [I.tuple_inj hy hq]; exact hx⟩, ⟨⟨y, ?_⟩, hs'.1.at fun o q => (sb.2 it (Ne.symm hne)).trans q, hne, hat, hae⟩, fun b hb => ?_⟩
    · have e1 : ((i + 1 : Nat) : Int) = (i : Int) + 1 := by omega
      rw [e1]; exact he'
    · have hb' : b < s.heap.objs.size := by
        have e' : b = e ∨ b = it := by simpa using hb
        rcases e' with z | z
        · rw [z]; exact hel
        · rw [z]; exact hil
      rw [upd_ne (Nat.ne_of_lt hb')]
      exact (hf b hb).1
  done := by
    intro X hP hw hK hc i pins s σ H E I hf st hg
    subst hP hw hK
    obtain ⟨⟨old, he⟩, hit, hne, hat, hae⟩ := st
    obtain ⟨xs, hq, hx⟩ := hg
    obtain ⟨its, rv, p, hz⟩ := I.tuple hq
    obtain ⟨f0, f1, f2, f3, f4, f5⟩ := hf it (by simp)
    have hl := rv.length
    have hii : its.toArray[i]? = none := by
      rw [Array.getElem?_eq_none_iff]
      simp; omega
    exact enumT_end (I.ok.hd hc) he hit p hii fun h' eb => ⟨rfl, I.turned (t' := s.toks) (fun b o hb q => eb b o hb q) f0 f1 f3 f4 f5⟩
  self := fun A i s Q E st h => let ⟨⟨_, he⟩, _⟩ := st; wpAny_pyIter_enum he h
def iEnumT (K : PySem.W.Frag) (ta : TA) : TI := fun σ H R => ta σ H fun vs H1 => ∃ a xs, vs = [.ref a] ∧ SqT K H1 a xs ∧ R (IteT K a) H1
theorem pi_enumT {X : Cx} {e : Expr} {ta : TA} {p pos tpos : Pos} {elts : List Expr} {kk : Nat} (hg : Gl X "enumerate") (hm : X.mg "enumerate" = none) (ha : PA X [e] ta) (hs : starEach [e] X.env = [(false, eval e X.env)] := by rfl) :
    PI X (.Tuple elts kk tpos) (.Call (.Name "enumerate" p) [e] [] pos) (iEnumT X.K ta) := by
  refine ⟨fun pins s σ H R I h => ?_⟩
  refine Call_ (ld_blt I hg hm boot_enumerate (PyProof.Rows.callWith_type1 (thn (ha.run pos pins s σ H _ I h) fun us s1 ⟨vs, H1, I1, r1, q1⟩ => ?_) hs rfl))
  obtain ⟨a, xs, ex, hq, q⟩ := q1
  subst ex
  cases r1 with
  | cons r rr =>
    cases rr
    cases r
    obtain ⟨its, rv, p', hz⟩ := I1.tuple hq
    have hlt : a < s1.heap.objs.size := p'.lt
    refine call_enumT (show s1.heap.IsTuple a its.toArray from p') fun h' he hit hsz hk => wpAny_pyIter_enum he ?_
    have I2 : Inv X pins σ H1 { s1 with heap := h' } := I1.kept (t' := s1.toks) hk
    refine ⟨s1.heap.objs.size + 1, [s1.heap.objs.size + 1, s1.heap.objs.size], _, _, H1, rfl, I2, turn_enumT a (s1.heap.objs.size + 1) s1.heap.objs.size, ⟨⟨.none, he⟩, hit, Nat.succ_ne_self _, Nat.ne_of_lt hlt, Nat.ne_of_lt (Nat.lt_succ_of_lt hlt)⟩, fun b hb => ?_, q⟩
    have e' : b = s1.heap.objs.size + 1 ∨ b = s1.heap.objs.size := by simpa using hb
    have hle : s1.heap.objs.size ≤ b := by
      rcases e' with z | z
      · rw [z]; exact Nat.le_add_right _ _
      · rw [z]; exact Nat.le_refl _
    exact I1.fpOk hle (I1.hok.fresh hle)
theorem walk_enumT {K : PySem.W.Frag} {a : Addr} {xs : List V} : Walk (IteT K a) xs.length (fun H => SqT K H a xs) (YPair (fun i => some (.int (i : Nat))) (fun i => xs[i]?)) := by
  refine ⟨fun i H hi h => ⟨xs, xs[i], h, List.getElem?_eq_getElem hi⟩, fun H h => ⟨xs, h, Nat.le_refl _⟩, fun i H x H' hi h y => ?_⟩
  obtain ⟨T, z, rfl, hT, rfl, f⟩ := y
  exact ⟨T, _, z, rfl, hT, rfl, rfl, f xs h⟩
theorem walk_zipT {K : PySem.W.Frag} {a b : Addr} {xs ys : List V} (hl : xs.length = ys.length) : Walk (RZ.ItzT K a b) xs.length (fun H => SqT K H a xs ∧ SqT K H b ys) (YPair (fun i => xs[i]?) (fun i => ys[i]?)) := by
  refine ⟨fun i H hi h => ⟨xs, ys, xs[i], ys[i], h.1, h.2, List.getElem?_eq_getElem hi, List.getElem?_eq_getElem (by omega)⟩, fun H h => ⟨xs, ys, h.1, h.2, .inl (Nat.le_refl _)⟩, fun i H x H' hi h y => ?_⟩
  obtain ⟨T, z, z', rfl, hT, rfl, f, f'⟩ := y
  exact ⟨T, z, z', rfl, hT, rfl, f xs h.1, f' ys h.2⟩
end K14
/-! words: sums, comparisons, choices -/
namespace K14
open PySem PySem.Spec PyProof.Rows L2
section
variable {P : Program} {w : World} {K : PySem.W.Frag} {mg : Str → Option Value} {base : Heap}
theorem BAt.ne {H : Hp} {b g d l : Addr} {n : Nat} {gs : List (Nat × Nat)} (x : BAt K H b g d n gs) (n0 : H l = none) : l ≠ b ∧ l ≠ g ∧ l ≠ d := by
  obtain ⟨⟨dx, h1⟩, ⟨ts, h2, _⟩, ⟨kvs, h3, _⟩, _⟩ := x
  exact ⟨(ne_of_none h1 n0).symm, (ne_of_none h2 n0).symm, (ne_of_none h3 n0).symm⟩
theorem BSt.keepL {H1 H2 : Hp} {b g d l : Addr} {n c : Nat} {gs gs' : List (Nat × Nat)} {o : HO} (x : BSt K H1 H2 b g d n gs gs' c) (e : H1 l = some o) (h : l ≠ b ∧ l ≠ g ∧ l ≠ d) : H2 l = some o := x.kp.at_ _ _ e (not2 h.2.1 h.2.2)
/-! ### summed -/
def spSummed (K : PySem.W.Frag) : Sp := fun vs H Q _ => ∃ (b g d : Addr) (n : Nat) (gs : List (Nat × Nat)) (p1 p2 : Addr) (a1 a2 : List Nat) (c : Nat), vs = [.ref b, .ref p1, .ref p2, lit c] ∧ BAt K H b g d n gs ∧ WAt K H p1 a1 ∧ WAt K H p2 a2 ∧ WOk n gs a1 ∧ WOk n gs a2 ∧ a1.length = a2.length ∧ Ok n gs c ∧
  a1.length ≤ 1000 ∧ gs.length + 9 * a1.length ≤ big ∧
  ∀ H' gs' t p ws (r : Nat), BSt K H H' b g d n gs gs' (9 * a1.length) → SqT K H' t [.ref p, lit r] → WAt K H' p ws → WOk n gs' ws → ws.length = a1.length → Ok n gs' r →
    (∀ z, wn (nodes n gs') ws z + 2 ^ a1.length * (lm (nodes n gs') r z).toNat = wn (nodes n gs) a1 z + wn (nodes n gs) a2 z + (lm (nodes n gs) c z).toNat) → Q (.ref t) H'
abbrev nm_summed : List Str := ["builder", "one", "other", "carry", "found", "a", "b", "bit"]
theorem sc_summed : FnScope nm_summed ["builder", "one", "other", "carry"] (C8.fnScope (st 24)) := C8.fnScope_by (by decide +kernel)
theorem cal_summed (T : Top K mg) : C8.Cal P w K mg base (5) "summed" (spSummed K) [] := by
  refine calD T.d_summed sc_summed (fun vs H Q E h => ?_) (fun f cdv A outer s0 H vs Q E hr h => ?_)
  ·
    obtain ⟨b, g, d, n, gs, p1, p2, a1, a2, c, rfl, _⟩ := h; rfl
  ·
    obtain ⟨b, g, d, n, gs, p1, p2, a1, a2, c, rfl, hB, h1, h2, k1, k2, hl, hc, hz, hlen, q⟩ := h
    have hu := hu_of hr
    refine ⟨_, (pss_cons (ps_set (i := 4) sc_summed.nd rfl (Or.inl rfl) (pe_lst pa_nil))
      (pss_cons (ps_for PassesOwn.never rfl (RZ.pi_zipA (by rfl) T.f_zip (pa_cons (pv 1) (pa_cons (pv 2) pa_nil))) (pg_tup rfl (pgs_cons (pg_name (i := 5) sc_summed.nd rfl (Or.inl rfl)) (pgs_cons (pg_name (i := 6) sc_summed.nd rfl (Or.inl rfl)) pgs_nil))) (pss_cons (ps_asg (C8.pe_c (cal_full_sum T) hr (by decide) rfl (pa_cons (pv 0) (pa_cons (pv 5) (pa_cons (pv 6) (pa_cons (pv 3) pa_nil))))) (pg_tup rfl (pgs_cons (pg_name (i := 7) sc_summed.nd rfl (Or.inl rfl)) (pgs_cons (pg_name (i := 3) sc_summed.nd rfl (Or.inl rfl)) pgs_nil))))
      (pss_one (ps_expr (pe_bm PySem.F.plainAttrs_list PySem.F.slot_list_append PySem.F.type_list_append mt_append (pv 4) (pa_cons (pv 7) pa_nil))))))
      (pss_one (ps_ret (pe_tup (pa_cons (pe_callTy call_tuple_of (by rfl) T.f_tuple PyProof.Rows.boot_tuple (pa_cons (pv 4) pa_nil)) (pa_cons (pv 3) pa_nil))))))), ?_⟩
    refine ⟨by show 0 ≤ sizeLine; decide, fun l nl => ?_⟩
    have nel := hB.ne nl
    have S0 : BSt K H (upd H l (.lst [])) b g d n gs gs 0 := (BSt.refl hB 0).new nl
    refine ⟨_, rfl, _, rfl, p1, p2, a1.map lit, a2.map lit, rfl, .inr ⟨S0.kp.sqT h1, S0.kp.sqT h2, for_it (walk_zipT (by rw [List.length_map, List.length_map, hl]))
      (fun i σ H' => ∃ (r : Nat) (gs' : List (Nat × Nat)) (ws : List Nat) (x5 x6 x7 : Option V), σ = [some (.ref b), some (.ref p1), some (.ref p2), some (lit r), some (.ref l), x5, x6, x7] ∧ BSt K H H' b g d n gs gs' (9 * i) ∧ H' l = some (.lst (ws.map lit)) ∧ ws.length = i ∧ WOk n gs' ws ∧ Ok n gs' r ∧
        ∀ z, wn (nodes n gs') ws z + 2 ^ i * (lm (nodes n gs') r z).toNat = wn (nodes n gs) (a1.take i) z + wn (nodes n gs) (a2.take i) z + (lm (nodes n gs) c z).toNat)
      ⟨c, gs, [], none, none, none, rfl, S0, upd_same, rfl, (fun _ m => nomatch m), hc, fun z => by simp [wn]⟩ (fun i σ H' _ ⟨r, gs', ws, x5, x6, x7, _, S, _⟩ => ⟨S.kp.sqT h1, S.kp.sqT h2⟩) ?_ ?_⟩⟩
    · rintro i v σ H1 H2 hi ⟨r, gs1, ws, x5, x6, x7, rfl, S1, eL, el, ow, orr, hv⟩ ⟨T0, x, y, rfl, nT, rfl, gx, gy⟩
      rw [List.length_map] at hi
      obtain ⟨la, ga, rfl⟩ := get_map gx
      obtain ⟨lb, gb, rfl⟩ := get_map gy
      have oa := wo_get k1 ga
      have ob := wo_get k2 gb
      have S2 : BSt K H (upd H1 T0 (.tup [lit la, lit lb])) b g d n gs gs1 (9 * i) := S1.new nT
      have eL2 : upd H1 T0 (.tup [lit la, lit lb]) l = _ := (upd_ne (ne_of_none eL nT)).trans eL
      have b1 := S1.len
      refine ⟨T0, _, rfl, SqT.of upd_same, rfl, _, _, rfl, _, _, rfl, rfl, ?_⟩
      refine ⟨_, rfl, _, rfl, _, rfl, _, rfl, b, g, d, n, gs1, la, lb, r, rfl, S2.at_, oa.mono S1.pre, ob.mono S1.pre, orr, by omega, fun H3 gs3 t r1 r2 S3 ht o1 o2 m1 m2 => ?_⟩
      have S4 := S2.trans S3
      have eL3 := S3.keepL eL2 nel
      refine ⟨t, _, rfl, ht, rfl, _, _, rfl, _, _, rfl, rfl, ?_⟩
      refine ⟨_, rfl, .inl ⟨rfl, _, SqL.of eL3⟩, _, rfl, l, _, _, rfl, rfl, eL3, small _ (by rw [List.length_map, el]; omega), ?_⟩
      refine ⟨r2, gs3, ws ++ [r1], _, _, _, rfl, (S4.put hB nl eL3).mono (by omega), ?_, by rw [List.length_append, el]; rfl, (ow.mono S3.pre).app (.one o1), o2, fun z => ?_⟩
      · rw [upd_same, List.map_append]; rfl
      · have e1 := hv z
        rw [wn_app, el, ow.num S3.pre, wn_take_succ _ _ ga, wn_take_succ _ _ gb]
        have e2 : wn (nodes n gs3) [r1] z = (lm (nodes n gs3) r1 z).toNat := by simp [wn]
        have e3 := add_bit (lm (nodes n gs) la z) (lm (nodes n gs) lb z) (lm (nodes n gs1) r z)
        rw [← oa.lm S1.pre, ← ob.lm S1.pre] at e3
        rw [oa.lm S1.pre, ob.lm S1.pre] at m1 m2
        rw [oa.lm S1.pre, ob.lm S1.pre] at e3
        rw [e2, m1, m2, Nat.pow_succ]
        generalize (((lm (nodes n gs) la z != lm (nodes n gs) lb z) != lm (nodes n gs1) r z)).toNat = s at *
        generalize (maj (lm (nodes n gs) la z) (lm (nodes n gs) lb z) (lm (nodes n gs1) r z)).toNat = m at *
        generalize (lm (nodes n gs) la z).toNat = u at *
        generalize (lm (nodes n gs) lb z).toNat = v at *
        generalize (lm (nodes n gs1) r z).toNat = ww at *
        have e4 : 2 ^ i * (u + v + ww) = 2 ^ i * (s + 2 * m) := by rw [e3]
        rw [Nat.mul_add, Nat.mul_add, Nat.mul_add] at e4
        have e5 : 2 ^ i * 2 * m = 2 ^ i * (2 * m) := Nat.mul_assoc _ _ _
        omega
    · rintro σ H1 ⟨r, gs1, ws, x5, x6, x7, rfl, S1, eL, el, ow, orr, hv⟩
      rw [List.length_map] at *
      refine ⟨_, rfl, _, _, rfl, .inl ⟨SqL.of eL, fun p np => ?_⟩⟩
      have S2 := S1.new (o := .tup (ws.map lit)) np
      refine ⟨_, rfl, (by show 2 ≤ sizeLine; decide), fun t nt => ?_⟩
      have S3 := S2.new (o := .tup [.ref p, lit r]) nt
      refine q _ gs1 t p ws r S3 (SqT.of upd_same) ((Kp.refl (S := [])).new nt |>.sqT (SqT.of upd_same)) ow el orr fun z => ?_
      have := hv z
      rw [List.take_length, hl, List.take_length] at this
      rw [hl]; exact this
end
end K14
namespace K14
open PySem PySem.Spec PyProof.Rows L2
open AutoSeq1 (wpAny_loadPart')
/-! ### a tuple times 0, 1, .. -/
theorem tup_mul0 (l : Addr) (items : Array Value) (n : Nat) (sl : Array (Option Value)) (dd : Option Addr) (u : Tok) (c1 : items.isEmpty = false) :
    Meets (Builtin.«tuple.__mul__» ⟨[.ref l, .int 0 u], []⟩) (fun _ R s => s.heap.get? l = some { cls := .type "tuple", dict := dd, data := .seq items n, slots := sl } ∧
      R (.ok (.ret (Value.ref s.heap.objs.size))) { s with heap := s.heap.push { cls := Value.type "tuple", data := Data.seq #[] }, toks := s.toks }) :=
  .of_wp fun prog w A R s h => by
    obtain ⟨hp, g, d, tk, os⟩ := s
    obtain ⟨hl, h⟩ := h
    have f1 := AutoSeq1.idx_int
    wp_walk using wpAny_loadPart' hl
    repeat (first
      | (refine wpAny_ite_false (decide_eq_false (by rw [c1]; exact Bool.false_ne_true)) ?_; wp_walk using wpAny_loadPart' hl)
      | (refine wpAny_ite_false (by rw [c1]; decide) ?_; wp_walk using wpAny_loadPart' hl)
      | (refine wpAny_ite_true (by rw [c1]; decide) ?_; wp_walk using wpAny_loadPart' hl))
    exact ⟨_, rfl, h⟩
theorem tup_mul1 (l : Addr) (items : Array Value) (n : Nat) (sl : Array (Option Value)) (dd : Option Addr) (u : Tok) :
    Meets (Builtin.«tuple.__mul__» ⟨[.ref l, .int 1 u], []⟩) (fun _ R s => s.heap.get? l = some { cls := .type "tuple", dict := dd, data := .seq items n, slots := sl } ∧ R (.ok (.ret (Value.ref l))) s) :=
  .of_wp fun prog w A R s h => by
    obtain ⟨hp, g, d, tk, os⟩ := s
    obtain ⟨hl, h⟩ := h
    have f1 := AutoSeq1.idx_int
    wp_walk using wpAny_loadPart' hl
    repeat (first
      | (refine wpAny_ite_true (by rw [Bool.or_true]) ?_; wp_walk using wpAny_loadPart' hl)
      | (refine wpAny_ite_true (by simp) ?_; wp_walk using wpAny_loadPart' hl))
    exact ⟨_, rfl, h⟩
def rRepZ (K : PySem.W.Frag) : R2 := fun x y H Q => ∃ l k xs, x = .ref l ∧ y = .int k ∧ SqT K H l xs ∧ xs ≠ [] ∧ 0 ≤ k ∧ k ≤ 1000 ∧ xs.length ≤ 1000 ∧ (k = 1 → Q (.ref l) H) ∧ (k ≠ 1 → ∀ p, H p = none → Q (.ref p) (upd H p (.tup (List.replicate k.toNat xs).flatten)))
theorem op_repZ {X : Cx} : OpR X (binaryOp .Mult) (rRepZ X.K) := by
  intro pins s σ H x y v u Q I rx ry h
  obtain ⟨l, k, xs, hx, hy, hT, hne, h0, h1, hz, q1, q2⟩ := h
  by_cases hk : 2 ≤ k
  · exact op_repT pins s σ H x y v u Q I rx ry ⟨l, k, xs, hx, hy, hT, hne, hk, h1, hz, q2 (by omega)⟩
  subst hx hy
  cases rx
  obtain ⟨t, rfl⟩ := ry
  obtain ⟨its, r, ⟨⟨cls, dd, data, sl⟩, ho, hc, n, hd⟩, hs⟩ := I.tuple hT
  simp only at hc hd
  subst hc hd
  have hle : its.length = xs.length := r.length.symm
  have hn : its ≠ [] := fun e => hne (by
    rw [e] at hle
    exact List.eq_nil_of_length_eq_zero hle.symm)
  have hi : its.toArray.isEmpty = false := by
    cases its with
    | nil => exact absurd rfl hn
    | cons a b => rfl
  have hk2 : k = 0 ∨ k = 1 := by omega
  rcases hk2 with rfl | rfl
  · refine wpAny_binaryOp_repeat_ref (T := "tuple") (U := "int") (by decide) ⟨_, ho, rfl⟩ (fun s' => typeIs_int s' 0 t) noFill_tuple_mul F.fills_int_mul F.slot_int_rmul repeat_tuple F.slot_int_index.lookup
      (call_meets F.slot_int_rmul (typeIs_int s 0 t) F.entry_int_rmul (F.args_int_rmul_2 _ _) (int_rmul_tuple 0 t l its.toArray n dd sl)
        ⟨ho, rfl, ⟨_, ho, rfl⟩, call_meets F.slot_tuple_mul ⟨_, ho, rfl⟩ F.entry_tuple_mul (F.args_tuple_mul_2 _ _) (tup_mul0 l its.toArray n sl dd t hi) ⟨ho, ?_⟩⟩)
    refine ⟨.ref s.heap.objs.size, _, I.laid (t' := s.toks) (o := .tup []) (fun b ob q => Heap.get?_push_of_some _ q) (Nat.le_refl _) ?_, rfl, q2 (by decide) _ (I.hok.fresh (Nat.le_refl _))⟩
    exact ⟨Nat.zero_le _, [], .nil, IsTup.new _ _⟩
  · refine wpAny_binaryOp_repeat_ref (T := "tuple") (U := "int") (by decide) ⟨_, ho, rfl⟩ (fun s' => typeIs_int s' 1 t) noFill_tuple_mul F.fills_int_mul F.slot_int_rmul repeat_tuple F.slot_int_index.lookup
      (call_meets F.slot_int_rmul (typeIs_int s 1 t) F.entry_int_rmul (F.args_int_rmul_2 _ _) (int_rmul_tuple 1 t l its.toArray n dd sl)
        ⟨ho, rfl, ⟨_, ho, rfl⟩, call_meets F.slot_tuple_mul ⟨_, ho, rfl⟩ F.entry_tuple_mul (F.args_tuple_mul_2 _ _) (tup_mul1 l its.toArray n sl dd t) ⟨ho, ?_⟩⟩)
    exact ⟨.ref l, H, I, rfl, q1 rfl⟩
end K14
set_option maxHeartbeats 200000
/-! words bit by bit, compared -/
namespace K14
/-- bit by bit -/
def bwn (f : Bool → Bool → Bool) : Nat → Nat → Nat → Nat
  | 0, _, _ => 0
  | w + 1, x, y => (f (x % 2 == 1) (y % 2 == 1)).toNat + 2 * bwn f w (x / 2) (y / 2)
theorem wn_mod (ms : List M) (b : Bits) (l : Nat) (r : List Nat) : (wn ms (l :: r) b % 2 == 1) = lm ms l b := by
  have e : wn ms (l :: r) b % 2 = (lm ms l b).toNat := by
    show ((lm ms l b).toNat + 2 * wn ms r b) % 2 = _
    cases lm ms l b <;> simp <;> omega
  rw [e]; cases lm ms l b <;> rfl
theorem wn_div (ms : List M) (b : Bits) (l : Nat) (r : List Nat) : wn ms (l :: r) b / 2 = wn ms r b := by
  show ((lm ms l b).toNat + 2 * wn ms r b) / 2 = _
  cases lm ms l b <;> simp <;> omega
/-- a word whose bits are f of two words' -/
theorem wn_bw (f : Bool → Bool → Bool) (ms ms' : List M) (b : Bits) : ∀ {ws a1 a2 : List Nat}, ws.length = a1.length → a1.length = a2.length →
    (∀ (i l x y : Nat), ws[i]? = some l → a1[i]? = some x → a2[i]? = some y → lm ms' l b = f (lm ms x b) (lm ms y b)) → wn ms' ws b = bwn f a1.length (wn ms a1 b) (wn ms a2 b)
  | [], [], [], _, _, _ => rfl
  | l :: ws, x :: a1, y :: a2, h1, h2, h => by
    have e0 := h 0 l x y rfl rfl rfl
    have ih := wn_bw f ms ms' b (ws := ws) (a1 := a1) (a2 := a2) (by simpa using h1) (by simpa using h2) fun i l x y e1 e2 e3 => h (i + 1) l x y e1 e2 e3
    show (lm ms' l b).toNat + 2 * wn ms' ws b = (f (wn ms (x :: a1) b % 2 == 1) (wn ms (y :: a2) b % 2 == 1)).toNat + 2 * bwn f a1.length (wn ms (x :: a1) b / 2) (wn ms (y :: a2) b / 2)
    rw [wn_mod, wn_mod, wn_div, wn_div, ih, e0]
theorem eq_step {p a b : Nat} {u v : Bool} (ha : a < p) (hb : b < p) : (a + p * u.toNat = b + p * v.toNat) ↔ (a = b ∧ u = v) := by
  cases u <;> cases v <;> simp <;> omega
theorem eq_fin {p a b : Nat} {u v : Bool} (ha : a < p) (hb : b < p) : (decide (a = b) && !(xor u v)) = decide (a + p * u.toNat = b + p * v.toNat) := by
  have e := eq_step (u := u) (v := v) ha hb
  by_cases h : a + p * u.toNat = b + p * v.toNat
  · obtain ⟨h1, h2⟩ := e.mp h
    rw [decide_eq_true h, decide_eq_true h1, h2]
    cases v <;> rfl
  · rw [decide_eq_false h]
    by_cases h1 : a = b
    · rw [decide_eq_true h1]
      have h2 : u ≠ v := fun z => h (e.mpr ⟨h1, z⟩)
      cases u <;> cases v <;> first | rfl | exact absurd rfl h2
    · rw [decide_eq_false h1]; rfl
/-- differences -/
theorem sub_mod {p x y s : Nat} {r : Bool} (hy : y < p) (hx : x < p) (hs : s < p) (h : s + p * r.toNat = x + (p - y)) : s = (x + (p - y)) % p := by
  cases r with
  | false =>
    have e : s = x + (p - y) := by simpa using h
    rw [← e, Nat.mod_eq_of_lt hs]
  | true =>
    have e : s + p = x + (p - y) := by simpa using h
    rw [← e, Nat.add_mod_right, Nat.mod_eq_of_lt hs]
theorem sub_carry {p x y s : Nat} {r : Bool} (hy : y < p) (hx : x < p) (hs : s < p) (h : s + p * r.toNat = x + (p - y)) : (!r) = decide (x < y) := by
  cases r with
  | false =>
    have e : s = x + (p - y) := by simpa using h
    have : x < y := by omega
    simp [this]
  | true =>
    have e : s + p = x + (p - y) := by simpa using h
    have : ¬ x < y := by omega
    simp [this]
end K14
set_option maxHeartbeats 4000000
/-! words: differences, comparisons, choices, bit by bit -/
namespace K14
open PySem PySem.Spec PyProof.Rows L2
section
variable {P : Program} {w : World} {K : PySem.W.Frag} {mg : Str → Option Value} {base : Heap}
/-! ### negated -/
def spNeg (K : PySem.W.Frag) : Sp := fun vs H Q _ => ∃ (a : Addr) (ws : List Nat), vs = [.ref a] ∧ WAt K H a ws ∧ ws.length ≤ 1000 ∧ ∀ H' p, Kp [] H H' → WAt K H' p (ws.map opp) → Q (.ref p) H'
abbrev nm_negated : List Str := ["word", "bit"]
theorem sc_negated : FnScope nm_negated ["word"] (C8.fnScope (st 25)) := C8.fnScope_by (by decide +kernel)
theorem cal_negated (T : Top K mg) : C8.Cal P w K mg base (2) "negated" (spNeg K) [] := by
  refine calD T.d_negated sc_negated (fun vs H Q E h => ?_) (fun f cdv A outer s0 H vs Q E hr h => ?_)
  ·
    obtain ⟨a, ws, rfl, _⟩ := h; rfl
  ·
    obtain ⟨a, ws, rfl, hW, hz, q⟩ := h
    have hu := hu_of hr
    refine ⟨_, (pss_one (ps_ret (pe_callTy call_tuple_of (by rfl) T.f_tuple PyProof.Rows.boot_tuple (pa_cons (pe_lc (own := [("bit", 1)]) (g := (gName 1)) (tt := tYes)  rfl sc_negated.nd (pi_tup (pv 0)) (blkOk_by (own := [("bit", 1)]) (N := nm_negated) (sc := C8.fnScope (st 25)) (by decide +kernel)) (fun _ _ _ _ _ => (pg_name (i := 1) sc_negated.nd rfl (Or.inl rfl))) (fun _ _ _ _ _ => pts_nil) (fun _ _ _ _ _ => (C8.pe_c (cal_opposite T) hr (by decide) rfl (pa_cons (pv 1) pa_nil)))) pa_nil)))), ?_⟩
    refine ⟨_, rfl, _, rfl, ⟨_, hW⟩, fun D nD => lc_it walk_tup (fun i H' => H' D = some (.lst (((ws.take i).map opp).map lit)) ∧ Kp [] H H') ⟨upd_same, Kp.refl.new nD⟩ (fun i H' _ ⟨_, k⟩ => k.sqT hW) ?_ ?_⟩
    · rintro i x H1 H2 hi ⟨eD, k⟩ ⟨rfl, gx⟩
      rw [List.length_map] at hi
      obtain ⟨l, gl, rfl⟩ := get_map gx
      refine ⟨rfl, ?_⟩
      refine ⟨_, rfl, l, rfl, _, eD, small _ (by rw [List.length_map, List.length_map, List.length_take]; omega), ?_, k.put nD⟩
      rw [upd_same, List.take_add_one, gl]
      simp [lit]
    · rintro H1 ⟨eD, k⟩
      rw [List.length_map, List.take_length] at eD
      exact ⟨_, _, rfl, .inl ⟨SqL.of eD, fun p np => q _ p (k.new np) (SqT.of upd_same)⟩⟩
/-! ### a word out of the builder -/
def PWord (K : PySem.W.Frag) (H : Hp) (Q : VK) (b g d : Addr) (n : Nat) (gs : List (Nat × Nat)) (c len : Nat) (F : Bits → Nat) : Prop :=
  ∀ H' gs' p ws, BSt K H H' b g d n gs gs' c → WAt K H' p ws → WOk n gs' ws → ws.length = len → (∀ z, wn (nodes n gs') ws z = F z) → Q (.ref p) H'
/-- two words of one length -/
structure W2 (K : PySem.W.Frag) (H : Hp) (b g d : Addr) (n : Nat) (gs : List (Nat × Nat)) (p1 p2 : Addr) (a1 a2 : List Nat) : Prop where
  at_ : BAt K H b g d n gs
  w1 : WAt K H p1 a1
  w2 : WAt K H p2 a2
  k1 : WOk n gs a1
  k2 : WOk n gs a2
  len : a1.length = a2.length
  small : a1.length ≤ 1000
def spDiff (K : PySem.W.Frag) : Sp := fun vs H Q _ => ∃ (b g d : Addr) (n : Nat) (gs : List (Nat × Nat)) (p1 p2 : Addr) (a1 a2 : List Nat), vs = [.ref b, .ref p1, .ref p2] ∧ W2 K H b g d n gs p1 p2 a1 a2 ∧ gs.length + 9 * a1.length ≤ big ∧
  PWord K H Q b g d n gs (9 * a1.length) a1.length fun z => (wn (nodes n gs) a1 z + (2 ^ a1.length - wn (nodes n gs) a2 z)) % 2 ^ a1.length
abbrev nm_difference : List Str := ["builder", "one", "other"]
theorem sc_difference : FnScope nm_difference ["builder", "one", "other"] (C8.fnScope (st 26)) := C8.fnScope_by (by decide +kernel)
theorem cal_difference (T : Top K mg) : C8.Cal P w K mg base (6) "difference" (spDiff K) [] := by
  refine calD T.d_difference sc_difference (fun vs H Q E h => ?_) (fun f cdv A outer s0 H vs Q E hr h => ?_)
  ·
    obtain ⟨b, g, d, n, gs, p1, p2, a1, a2, rfl, _⟩ := h; rfl
  ·
    obtain ⟨b, g, d, n, gs, p1, p2, a1, a2, rfl, hW, hlen, q⟩ := h
    have hu := hu_of hr
    refine ⟨_, (pss_one (ps_ret (pe_ix ix_tup (C8.pe_c (cal_summed T) hr (by decide) rfl (pa_cons (pv 0) (pa_cons (pv 1) (pa_cons (C8.pe_c (cal_negated T) hr (by decide) rfl (pa_cons (pv 2) pa_nil)) (pa_cons pe_int pa_nil))))) pe_int (fun _ _ => rfl)))), ?_⟩
    refine ⟨_, rfl, _, rfl, _, rfl, p2, a2, rfl, hW.w2, by rw [← hW.len]; exact hW.small, fun H1 p3 k1 hn => ?_⟩
    have S0 : BSt K H H1 b g d n gs gs 0 := ⟨k1.nil, hW.at_.kp0 k1, List.prefix_refl _, Nat.le_refl _⟩
    refine ⟨b, g, d, n, gs, p1, p3, a1, a2.map opp, 1, rfl, S0.at_, hW.w1.kp k1, hn, hW.k1, hW.k2.neg, by rw [List.length_map]; exact hW.len, by unfold Ok; omega, hW.small, hlen, fun H2 gs2 t p ws r S2 ht hp ow el orr hv => ?_⟩
    refine ⟨t, _, 0, _, rfl, rfl, ht, atI_nat (j := 0) rfl, ?_⟩
    refine q H2 gs2 p ws ((S0.trans S2).mono (by omega)) hp ow el fun z => ?_
    have e1 := hv z
    have e2 := wn_neg (nodes n gs) z a2
    have e3 := wn_lt (nodes n gs) z a2
    have e4 := wn_lt (nodes n gs) z a1
    have e5 := wn_lt (nodes n gs2) z ws
    rw [← hW.len] at e2 e3
    rw [el] at e5
    have e6 : lm (nodes n gs) 1 z = true := by rw [lm_one]
    rw [e6] at e1
    refine sub_mod (r := lm (nodes n gs2) r z) e3 e4 e5 ?_
    rw [e1]; simp; omega
def spBelow (K : PySem.W.Frag) : Sp := fun vs H Q _ => ∃ (b g d : Addr) (n : Nat) (gs : List (Nat × Nat)) (p1 p2 : Addr) (a1 a2 : List Nat), vs = [.ref b, .ref p1, .ref p2] ∧ W2 K H b g d n gs p1 p2 a1 a2 ∧ gs.length + 9 * a1.length ≤ big ∧
  PLit K H Q b g d n gs (9 * a1.length) fun z => decide (wn (nodes n gs) a1 z < wn (nodes n gs) a2 z)
abbrev nm_is_below : List Str := ["builder", "one", "other"]
theorem sc_is_below : FnScope nm_is_below ["builder", "one", "other"] (C8.fnScope (st 28)) := C8.fnScope_by (by decide +kernel)
theorem cal_is_below (T : Top K mg) : C8.Cal P w K mg base (6) "is_below" (spBelow K) [] := by
  refine calD T.d_is_below sc_is_below (fun vs H Q E h => ?_) (fun f cdv A outer s0 H vs Q E hr h => ?_)
  ·
    obtain ⟨b, g, d, n, gs, p1, p2, a1, a2, rfl, _⟩ := h; rfl
  ·
    obtain ⟨b, g, d, n, gs, p1, p2, a1, a2, rfl, hW, hlen, q⟩ := h
    have hu := hu_of hr
    refine ⟨_, (pss_one (ps_ret (C8.pe_c (cal_opposite T) hr (by decide) rfl (pa_cons (pe_ix ix_tup (C8.pe_c (cal_summed T) hr (by decide) rfl (pa_cons (pv 0) (pa_cons (pv 1) (pa_cons (C8.pe_c (cal_negated T) hr (by decide) rfl (pa_cons (pv 2) pa_nil)) (pa_cons pe_int pa_nil))))) pe_int (fun _ _ => rfl)) pa_nil)))), ?_⟩
    refine ⟨_, rfl, _, rfl, _, rfl, p2, a2, rfl, hW.w2, by rw [← hW.len]; exact hW.small, fun H1 p3 k1 hn => ?_⟩
    have S0 : BSt K H H1 b g d n gs gs 0 := ⟨k1.nil, hW.at_.kp0 k1, List.prefix_refl _, Nat.le_refl _⟩
    refine ⟨b, g, d, n, gs, p1, p3, a1, a2.map opp, 1, rfl, S0.at_, hW.w1.kp k1, hn, hW.k1, hW.k2.neg, by rw [List.length_map]; exact hW.len, by unfold Ok; omega, hW.small, hlen, fun H2 gs2 t p ws r S2 ht hp ow el orr hv => ?_⟩
    refine ⟨t, _, 1, _, rfl, rfl, ht, atI_nat (j := 1) rfl, r, rfl, ?_⟩
    refine q H2 gs2 (opp r) ((S0.trans S2).mono (by omega)) (opp_ok orr) ?_
    rw [lm_opp]
    funext z
    have e1 := hv z
    have e2 := wn_neg (nodes n gs) z a2
    have e3 := wn_lt (nodes n gs) z a2
    have e4 := wn_lt (nodes n gs) z a1
    have e5 := wn_lt (nodes n gs2) z ws
    rw [← hW.len] at e2 e3
    rw [el] at e5
    have e6 : lm (nodes n gs) 1 z = true := by rw [lm_one]
    rw [e6] at e1
    refine sub_carry (r := lm (nodes n gs2) r z) e3 e4 e5 ?_
    rw [e1]; simp; omega
def spEqual (K : PySem.W.Frag) : Sp := fun vs H Q _ => ∃ (b g d : Addr) (n : Nat) (gs : List (Nat × Nat)) (p1 p2 : Addr) (a1 a2 : List Nat), vs = [.ref b, .ref p1, .ref p2] ∧ W2 K H b g d n gs p1 p2 a1 a2 ∧ gs.length + 4 * a1.length ≤ big ∧
  PLit K H Q b g d n gs (4 * a1.length) fun z => decide (wn (nodes n gs) a1 z = wn (nodes n gs) a2 z)
abbrev nm_is_equal : List Str := ["builder", "one", "other", "found", "a", "b"]
theorem sc_is_equal : FnScope nm_is_equal ["builder", "one", "other"] (C8.fnScope (st 29)) := C8.fnScope_by (by decide +kernel)
theorem cal_is_equal (T : Top K mg) : C8.Cal P w K mg base (4) "is_equal" (spEqual K) [] := by
  refine calD T.d_is_equal sc_is_equal (fun vs H Q E h => ?_) (fun f cdv A outer s0 H vs Q E hr h => ?_)
  ·
    obtain ⟨b, g, d, n, gs, p1, p2, a1, a2, rfl, _⟩ := h; rfl
  ·
    obtain ⟨b, g, d, n, gs, p1, p2, a1, a2, rfl, hW, hlen, q⟩ := h
    have hu := hu_of hr
    refine ⟨_, (pss_cons (ps_set (i := 3) sc_is_equal.nd rfl (Or.inl rfl) pe_int)
      (pss_cons (ps_for PassesOwn.never rfl (RZ.pi_zipA (by rfl) T.f_zip (pa_cons (pv 1) (pa_cons (pv 2) pa_nil))) (pg_tup rfl (pgs_cons (pg_name (i := 4) sc_is_equal.nd rfl (Or.inl rfl)) (pgs_cons (pg_name (i := 5) sc_is_equal.nd rfl (Or.inl rfl)) pgs_nil))) (pss_one (ps_set (i := 3) sc_is_equal.nd rfl (Or.inl rfl) (C8.pe_mt (met_and_of T) hr (by decide) (pv 0) (pa_cons (pv 3) (pa_cons (C8.pe_c (cal_opposite T) hr (by decide) rfl (pa_cons (C8.pe_c (cal_xor_of T) hr (by decide) rfl (pa_cons (pv 0) (pa_cons (pv 4) (pa_cons (pv 5) pa_nil)))) pa_nil)) pa_nil))))))
      (pss_one (ps_ret (pv 3))))), ?_⟩
    refine ⟨_, rfl, _, rfl, p1, p2, a1.map lit, a2.map lit, rfl, .inr ⟨hW.w1, hW.w2, for_it (walk_zipT (by rw [List.length_map, List.length_map, hW.len]))
      (fun i σ H' => ∃ (r : Nat) (gs' : List (Nat × Nat)) (x4 x5 : Option V), σ = [some (.ref b), some (.ref p1), some (.ref p2), some (lit r), x4, x5] ∧ BSt K H H' b g d n gs gs' (4 * i) ∧ Ok n gs' r ∧
        ∀ z, lm (nodes n gs') r z = decide (wn (nodes n gs) (a1.take i) z = wn (nodes n gs) (a2.take i) z))
      ⟨1, gs, none, none, rfl, .refl hW.at_ _, by unfold Ok; omega, fun z => by rw [lm_one]; rfl⟩ (fun i σ H' _ ⟨r, gs', x4, x5, _, S, _⟩ => ⟨S.kp.sqT hW.w1, S.kp.sqT hW.w2⟩) ?_ ?_⟩⟩
    · rintro i v σ H1 H2 hi ⟨r, gs1, x4, x5, rfl, S1, orr, hv⟩ ⟨T0, x, y, rfl, nT, rfl, gx, gy⟩
      rw [List.length_map] at hi
      obtain ⟨la, ga, rfl⟩ := get_map gx
      obtain ⟨lb, gb, rfl⟩ := get_map gy
      have oa := wo_get hW.k1 ga
      have ob := wo_get hW.k2 gb
      have S2 : BSt K H (upd H1 T0 (.tup [lit la, lit lb])) b g d n gs gs1 (4 * i) := S1.new nT
      have b1 := S1.len
      obtain ⟨dx2, i2⟩ := S2.at_.ins
      refine ⟨T0, _, rfl, SqT.of upd_same, rfl, _, _, rfl, _, _, rfl, rfl, ?_⟩
      refine ⟨_, rfl, b, dx2, _, rfl, i2, bF_and _ _ _, _, rfl, _, rfl, _, rfl, _, rfl, b, g, d, n, gs1, la, lb, rfl, S2.at_, oa.mono S1.pre, ob.mono S1.pre, by omega, fun H3 gs3 r1 S3 o1 m1 => ?_⟩
      have b3 := S3.len
      refine ⟨r1, rfl, b, g, d, n, gs3, r, opp r1, rfl, S3.at_, orr.mono S3.pre, opp_ok o1, by omega, fun H4 gs4 r2 S4 o2 m2 => ?_⟩
      refine ⟨r2, gs4, _, _, rfl, ((S2.trans S3).trans S4).mono (by omega), o2, fun z => ?_⟩
      rw [m2, lm_opp, m1, orr.lm S3.pre, wn_take_succ _ _ ga, wn_take_succ _ _ gb, oa.lm S1.pre, ob.lm S1.pre]
      dsimp only
      rw [hv z]
      have l1 := wn_lt (nodes n gs) z (a1.take i)
      have l2 := wn_lt (nodes n gs) z (a2.take i)
      rw [List.length_take, Nat.min_eq_left (by omega)] at l1
      rw [List.length_take, Nat.min_eq_left (by have := hW.len; omega)] at l2
      exact eq_fin l1 l2
    · rintro σ H1 ⟨r, gs1, x4, x5, rfl, S1, orr, hv⟩
      rw [List.length_map] at *
      refine ⟨_, rfl, q H1 gs1 r S1 orr ?_⟩
      funext z
      have := hv z
      rw [List.take_length, hW.len, List.take_length] at this
      exact this
def spChosen (K : PySem.W.Frag) : Sp := fun vs H Q _ => ∃ (b g d : Addr) (n : Nat) (gs : List (Nat × Nat)) (c : Nat) (p1 p2 : Addr) (a1 a2 : List Nat), vs = [.ref b, lit c, .ref p1, .ref p2] ∧ Ok n gs c ∧ W2 K H b g d n gs p1 p2 a1 a2 ∧ gs.length + 3 * a1.length ≤ big ∧
  PWord K H Q b g d n gs (3 * a1.length) a1.length fun z => if lm (nodes n gs) c z = true then wn (nodes n gs) a1 z else wn (nodes n gs) a2 z
abbrev nm_chosen : List Str := ["builder", "c", "one", "other", "a", "b"]
theorem sc_chosen : FnScope nm_chosen ["builder", "c", "one", "other"] (C8.fnScope (st 30)) := C8.fnScope_by (by decide +kernel)
theorem cal_chosen (T : Top K mg) : C8.Cal P w K mg base (4) "chosen" (spChosen K) [] := by
  refine calD T.d_chosen sc_chosen (fun vs H Q E h => ?_) (fun f cdv A outer s0 H vs Q E hr h => ?_)
  ·
    obtain ⟨b, g, d, n, gs, c, p1, p2, a1, a2, rfl, _⟩ := h; rfl
  ·
    obtain ⟨b, g, d, n, gs, c, p1, p2, a1, a2, rfl, hc, hW, hlen, q⟩ := h
    have hu := hu_of hr
    refine ⟨_, (pss_one (ps_ret (pe_callTy call_tuple_of (by rfl) T.f_tuple PyProof.Rows.boot_tuple (pa_cons (pe_lc (own := [("a", 4), ("b", 5)]) (g := (gTup _ 2 (gCons (gName 4) (gCons (gName 5) gNil)))) (tt := tYes)  rfl sc_chosen.nd (RZ.pi_zipA (by rfl) T.f_zip (pa_cons (pv 2) (pa_cons (pv 3) pa_nil))) (blkOk_by (own := [("a", 4), ("b", 5)]) (N := nm_chosen) (sc := C8.fnScope (st 30)) (by decide +kernel)) (fun _ _ _ _ _ => (pg_tup rfl (pgs_cons (pg_name (i := 4) sc_chosen.nd rfl (Or.inl rfl)) (pgs_cons (pg_name (i := 5) sc_chosen.nd rfl (Or.inl rfl)) pgs_nil)))) (fun _ _ _ _ _ => pts_nil) (fun _ _ _ _ _ => (C8.pe_c (cal_choice_of T) hr (by decide) rfl (pa_cons (pv 0) (pa_cons (pv 1) (pa_cons (pv 4) (pa_cons (pv 5) pa_nil))))))) pa_nil)))), ?_⟩
    refine ⟨_, rfl, _, rfl, p1, p2, a1.map lit, a2.map lit, rfl, .inr ⟨hW.w1, hW.w2, fun D nD => lc_it (walk_zipT (by rw [List.length_map, List.length_map, hW.len]))
      (fun i H' => ∃ (gs' : List (Nat × Nat)) (ws : List Nat), BSt K H H' b g d n gs gs' (3 * i) ∧ H' D = some (.lst (ws.map lit)) ∧ ws.length = i ∧ WOk n gs' ws ∧
        ∀ z, wn (nodes n gs') ws z = if lm (nodes n gs) c z = true then wn (nodes n gs) (a1.take i) z else wn (nodes n gs) (a2.take i) z)
      ⟨gs, [], (BSt.refl hW.at_ 0).new nD, upd_same, rfl, (fun _ m => nomatch m), fun z => by simp [wn]⟩ (fun i H' _ ⟨gs', ws, S, _⟩ => ⟨S.kp.sqT hW.w1, S.kp.sqT hW.w2⟩) ?_ ?_⟩⟩
    · rintro i v H1 H2 hi ⟨gs1, ws, S1, eD, el, ow, hv⟩ ⟨T0, x, y, rfl, nT, rfl, gx, gy⟩
      rw [List.length_map] at hi
      obtain ⟨la, ga, rfl⟩ := get_map gx
      obtain ⟨lb, gb, rfl⟩ := get_map gy
      have oa := wo_get hW.k1 ga
      have ob := wo_get hW.k2 gb
      have S2 : BSt K H (upd H1 T0 (.tup [lit la, lit lb])) b g d n gs gs1 (3 * i) := S1.new nT
      have eD2 : upd H1 T0 (.tup [lit la, lit lb]) D = _ := (upd_ne (ne_of_none eD nT)).trans eD
      have b1 := S1.len
      refine ⟨T0, _, rfl, SqT.of upd_same, rfl, _, _, rfl, _, _, rfl, rfl, ?_⟩
      refine ⟨rfl, ?_⟩
      refine ⟨_, rfl, _, rfl, _, rfl, _, rfl, b, g, d, n, gs1, c, la, lb, rfl, S2.at_, hc.mono S1.pre, oa.mono S1.pre, ob.mono S1.pre, by omega, fun H3 gs3 r1 S3 o1 m1 => ?_⟩
      have eD3 := S3.keepL eD2 (hW.at_.ne nD)
      refine ⟨_, eD3, small _ (by rw [List.length_map, el]; have := hW.small; omega), gs3, ws ++ [r1], ((S2.trans S3).put hW.at_ nD eD3).mono (by omega), ?_, by rw [List.length_append, el]; rfl, (ow.mono S3.pre).app (.one o1), fun z => ?_⟩
      · rw [upd_same, List.map_append]; rfl
      · have e2 : wn (nodes n gs3) [r1] z = (lm (nodes n gs3) r1 z).toNat := by simp [wn]
        rw [wn_app, el, ow.num S3.pre, hv z, e2, m1, wn_take_succ _ _ ga, wn_take_succ _ _ gb, hc.lm S1.pre, oa.lm S1.pre, ob.lm S1.pre]
        dsimp only
        cases lm (nodes n gs) c z <;> simp
    · rintro H1 ⟨gs1, ws, S1, eD, el, ow, hv⟩
      rw [List.length_map] at *
      refine ⟨_, _, rfl, .inl ⟨SqL.of eD, fun p np => ?_⟩⟩
      refine q _ gs1 p ws (S1.new np) (SqT.of upd_same) ow el fun z => ?_
      have := hv z
      rw [List.take_length, hW.len, List.take_length] at this
      exact this
end
end K14
/-! words: bit by bit, products, moves, joins -/
namespace K14
open PySem PySem.Spec PyProof.Rows L2
theorem ifStrT {A B : Prop} {x y : Str} (h : x = y) (a : A) : if decide (V.str x = V.str y) = true then A else B := by rw [if_pos (decide_eq_true (congrArg V.str h))]; exact a
theorem ifStrF {A B : Prop} {x y : Str} (h : ¬ x = y) (b : B) : if decide (V.str x = V.str y) = true then A else B := by rw [if_neg (fun z => h (V.str.inj (of_decide_eq_true z)))]; exact b
inductive Bop where
  | and | or | xor | plus | times | equal | below
def Bop.nm : Bop → Str
  | .and => "and" | .or => "or" | .xor => "xor" | .plus => "plus" | .times => "times" | .equal => "equal" | .below => "below"
/-- bit by bit: which -/
def Bop.bf : Bop → Option (Bool → Bool → Bool)
  | .and => some Bool.and | .or => some Bool.or | .xor => some Bool.xor | _ => none
section
variable {P : Program} {w : World} {K : PySem.W.Frag} {mg : Str → Option Value} {base : Heap}
theorem calAt_of {k : Nat} {x : Str} {f : Addr} {sp : Sp} (c : C8.Cal P w K mg base k x sp []) (h : mg x = some (.ref f)) : C8.CalAt P w K mg base k f sp := by
  obtain ⟨f', fd, ps, ds, F, hm, kp, b, d⟩ := c.ex
  cases d
  rw [h] at hm
  cases hm
  exact ⟨fd, ps, F, kp, b⟩
theorem cat_or_of (T : Top K mg) : C8.CalAt P w K mg base 2 (He.ga K "or_of") (spBin K 1 or) := calAt_of (cal_or_of T) T.d_or_of.mgf
theorem cat_xor_of (T : Top K mg) : C8.CalAt P w K mg base 3 (He.ga K "xor_of") (spBin K 3 xor) := calAt_of (cal_xor_of T) T.d_xor_of.mgf
/-- between the turns of a word made bit by bit -/
def BwI (K : PySem.W.Frag) (H : Hp) (b g d : Addr) (n : Nat) (gs : List (Nat × Nat)) (a1 a2 : List Nat) (f : Bool → Bool → Bool) (D : Addr) (i : Nat) (H' : Hp) : Prop :=
  ∃ (gs' : List (Nat × Nat)) (ws : List Nat), BSt K H H' b g d n gs gs' (3 * i) ∧ H' D = some (.lst (ws.map lit)) ∧ ws.length = i ∧ WOk n gs' ws ∧
    ∀ z (j l x y : Nat), ws[j]? = some l → a1[j]? = some x → a2[j]? = some y → lm (nodes n gs') l z = f (lm (nodes n gs) x z) (lm (nodes n gs) y z)
theorem BwI.start {H : Hp} {b g d p1 p2 D : Addr} {n : Nat} {gs : List (Nat × Nat)} {a1 a2 : List Nat} {f : Bool → Bool → Bool} (hW : W2 K H b g d n gs p1 p2 a1 a2) (nD : H D = none) : BwI K H b g d n gs a1 a2 f D 0 (upd H D (.lst [])) :=
  ⟨gs, [], (BSt.refl hW.at_ 0).new nD, upd_same, rfl, (fun _ m => nomatch m), fun z j l x y e => by simp at e⟩
theorem BwI.next {H H1 H3 : Hp} {b g d p1 p2 D : Addr} {n i la lb r1 : Nat} {gs gs1 gs3 : List (Nat × Nat)} {a1 a2 ws : List Nat} {f : Bool → Bool → Bool} (hW : W2 K H b g d n gs p1 p2 a1 a2) (nD : H D = none) (S1 : BSt K H H1 b g d n gs gs1 (3 * i)) (S3 : BSt K H1 H3 b g d n gs1 gs3 3)
    (eD3 : H3 D = some (.lst (ws.map lit))) (el : ws.length = i) (ow : WOk n gs1 ws) (hv : ∀ z (j l x y : Nat), ws[j]? = some l → a1[j]? = some x → a2[j]? = some y → lm (nodes n gs1) l z = f (lm (nodes n gs) x z) (lm (nodes n gs) y z))
    (ga : a1[i]? = some la) (gb : a2[i]? = some lb) (o1 : Ok n gs3 r1) (m1 : lm (nodes n gs3) r1 = fun z => f (lm (nodes n gs1) la z) (lm (nodes n gs1) lb z)) :
    ∃ acc, H3 D = some (.lst acc) ∧ acc.length < sizeLine ∧ BwI K H b g d n gs a1 a2 f D (i + 1) (upd H3 D (.lst (acc ++ [lit r1]))) := by
  have oa := wo_get hW.k1 ga
  have ob := wo_get hW.k2 gb
  have hi : i < a1.length := (List.getElem?_eq_some_iff.mp ga).1
  refine ⟨_, eD3, small _ (by rw [List.length_map, el]; have := hW.small; omega), gs3, ws ++ [r1], ((S1.trans S3).put hW.at_ nD eD3).mono (by omega), ?_, by rw [List.length_append, el]; rfl, (ow.mono S3.pre).app (.one o1), fun z j l x y e1 e2 e3 => ?_⟩
  · rw [upd_same, List.map_append]; rfl
  · by_cases hj : j < i
    · rw [List.getElem?_append_left (by omega)] at e1
      rw [(wo_get ow e1).lm S3.pre]
      exact hv z j l x y e1 e2 e3
    · have hj2 : j = i := by
        have := (List.getElem?_eq_some_iff.mp e1).1
        rw [List.length_append, List.length_singleton] at this
        omega
      subst hj2
      rw [List.getElem?_append_right (by omega), el, Nat.sub_self] at e1
      rw [ga] at e2; rw [gb] at e3
      cases e1; cases e2; cases e3
      rw [m1, oa.lm S1.pre, ob.lm S1.pre]
theorem BwI.num {H H1 : Hp} {b g d p1 p2 D : Addr} {n : Nat} {gs : List (Nat × Nat)} {a1 a2 : List Nat} {f : Bool → Bool → Bool} {Q : VK} (hW : W2 K H b g d n gs p1 p2 a1 a2) (q : PWord K H Q b g d n gs (3 * a1.length) a1.length fun z => bwn f a1.length (wn (nodes n gs) a1 z) (wn (nodes n gs) a2 z))
    (x : BwI K H b g d n gs a1 a2 f D a1.length H1) : ∃ ws : List Nat, H1 D = some (.lst (ws.map lit)) ∧ ∀ p, H1 p = none → Q (.ref p) (upd H1 p (.tup (ws.map lit))) := by
  obtain ⟨gs1, ws, S1, eD, el, ow, hv⟩ := x
  refine ⟨ws, eD, fun p np => q _ gs1 p ws (S1.new np) (SqT.of upd_same) ow el fun z => wn_bw f _ _ z el hW.len (hv z)⟩
def spBitw (K : PySem.W.Frag) : Sp := fun vs H Q _ => ∃ (b g d : Addr) (n : Nat) (gs : List (Nat × Nat)) (p1 p2 : Addr) (a1 a2 : List Nat) (k : Bop) (f : Bool → Bool → Bool), vs = [.ref b, .str k.nm, .ref p1, .ref p2] ∧ k.bf = some f ∧ W2 K H b g d n gs p1 p2 a1 a2 ∧ gs.length + 3 * a1.length ≤ big ∧
  PWord K H Q b g d n gs (3 * a1.length) a1.length fun z => bwn f a1.length (wn (nodes n gs) a1 z) (wn (nodes n gs) a2 z)
theorem nm_ne {a b : Str} (h : decide (a = b) = false) : ¬ a = b := of_decide_eq_false h
abbrev nm_bitwise : List Str := ["builder", "name", "one", "other", "work", "a", "b"]
theorem sc_bitwise : FnScope nm_bitwise ["builder", "name", "one", "other"] (C8.fnScope (st 31)) := C8.fnScope_by (by decide +kernel)
theorem cal_bitwise (T : Top K mg) : C8.Cal P w K mg base (4) "bitwise" (spBitw K) [] := by
  refine calD T.d_bitwise sc_bitwise (fun vs H Q E h => ?_) (fun f cdv A outer s0 H vs Q E hr h => ?_)
  ·
    obtain ⟨b, g, d, n, gs, p1, p2, a1, a2, k, f, rfl, _⟩ := h; rfl
  ·
    obtain ⟨b, g, d, n, gs, p1, p2, a1, a2, k, f', rfl, hk, hW, hlen, q⟩ := h
    have hu := hu_of hr
    refine ⟨_, (pss_cons (ps_if (pt_cmpR op_eq (pv 1) pe_str (nomark _)) (pss_one (ps_ret (pe_callTy call_tuple_of (by rfl) T.f_tuple PyProof.Rows.boot_tuple (pa_cons (pe_lc (own := [("a", 5), ("b", 6)]) (g := (gTup _ 2 (gCons (gName 5) (gCons (gName 6) gNil)))) (tt := tYes)  rfl sc_bitwise.nd (RZ.pi_zipA (by rfl) T.f_zip (pa_cons (pv 2) (pa_cons (pv 3) pa_nil))) (blkOk_by (own := [("a", 5), ("b", 6)]) (N := nm_bitwise) (sc := C8.fnScope (st 31)) (by decide +kernel)) (fun _ _ _ _ _ => (pg_tup rfl (pgs_cons (pg_name (i := 5) sc_bitwise.nd rfl (Or.inl rfl)) (pgs_cons (pg_name (i := 6) sc_bitwise.nd rfl (Or.inl rfl)) pgs_nil)))) (fun _ _ _ _ _ => pts_nil) (fun _ _ _ _ _ => (C8.pe_mt (met_and_of T) hr (by decide) (pv 0) (pa_cons (pv 5) (pa_cons (pv 6) pa_nil))))) pa_nil)))) pss_nil)
      (pss_cons (ps_set (i := 4) sc_bitwise.nd rfl (Or.inr rfl) (pe_ifExp (pt_cmpR op_eq (pv 1) pe_str (nomark _)) (pe_glob (v := .ref (He.ga K "or_of")) (by rfl) (T.d_or_of).mgf rfl) (pe_glob (v := .ref (He.ga K "xor_of")) (by rfl) (T.d_xor_of).mgf rfl)))
      (pss_one (ps_ret (pe_callTy call_tuple_of (by rfl) T.f_tuple PyProof.Rows.boot_tuple (pa_cons (pe_lc (own := [("a", 5), ("b", 6)]) (g := (gTup _ 2 (gCons (gName 5) (gCons (gName 6) gNil)))) (tt := tYes)  rfl sc_bitwise.nd (RZ.pi_zipA (by rfl) T.f_zip (pa_cons (pv 2) (pa_cons (pv 3) pa_nil))) (blkOk_by (own := [("a", 5), ("b", 6)]) (N := nm_bitwise) (sc := C8.fnScope (st 31)) (by decide +kernel)) (fun _ _ _ _ _ => (pg_tup rfl (pgs_cons (pg_name (i := 5) sc_bitwise.nd rfl (Or.inl rfl)) (pgs_cons (pg_name (i := 6) sc_bitwise.nd rfl (Or.inl rfl)) pgs_nil)))) (fun _ _ _ _ _ => pts_nil) (fun _ _ _ _ _ => (C8.pe_cv (i := 4) (cat_or_of T) (cat_xor_of T) hr (by decide) (by decide) (by rfl) (by first | exact Or.inl rfl | exact Or.inr (Or.inl rfl) | exact Or.inr (Or.inr rfl) | exact Or.inr (Or.inr (by kernel_rfl))) (pa_cons (pv 0) (pa_cons (pv 5) (pa_cons (pv 6) pa_nil)))))) pa_nil)))))), ?_⟩
    have hl : (a1.map lit).length = (a2.map lit).length := by rw [List.length_map, List.length_map, hW.len]
    have hq : ∀ {D i H'}, BwI K H b g d n gs a1 a2 f' D i H' → SqT K H' p1 (a1.map lit) ∧ SqT K H' p2 (a2.map lit) := fun ⟨gs', ws, S, _⟩ => ⟨S.kp.sqT hW.w1, S.kp.sqT hW.w2⟩
    cases k with
    | and =>
      cases hk
      refine ⟨_, rfl, rfl, _, rfl, ifStrT rfl ?_⟩
      refine ⟨_, rfl, _, rfl, p1, p2, _, _, rfl, .inr ⟨hW.w1, hW.w2, fun D nD => lc_it (walk_zipT hl) (BwI K H b g d n gs a1 a2 and D) (.start hW nD) (fun i H' _ x => hq x) ?_ ?_⟩⟩
      · rintro i v H1 H2 hi ⟨gs1, ws, S1, eD, el, ow, hv⟩ ⟨T0, x, y, rfl, nT, rfl, gx, gy⟩
        rw [List.length_map] at hi
        obtain ⟨la, ga, rfl⟩ := get_map gx
        obtain ⟨lb, gb, rfl⟩ := get_map gy
        have S2 : BSt K H (upd H1 T0 (.tup [lit la, lit lb])) b g d n gs gs1 (3 * i) := S1.new nT
        have eD2 : upd H1 T0 (.tup [lit la, lit lb]) D = _ := (upd_ne (ne_of_none eD nT)).trans eD
        have b1 := S1.len
        obtain ⟨dx2, i2⟩ := S2.at_.ins
        refine ⟨T0, _, rfl, SqT.of upd_same, rfl, _, _, rfl, _, _, rfl, rfl, ?_⟩
        refine ⟨rfl, ?_⟩
        refine ⟨_, rfl, b, dx2, _, rfl, i2, bF_and _ _ _, _, rfl, _, rfl, b, g, d, n, gs1, la, lb, rfl, S2.at_, (wo_get hW.k1 ga).mono S1.pre, (wo_get hW.k2 gb).mono S1.pre, by omega, fun H3 gs3 r1 S3 o1 m1 => ?_⟩
        exact BwI.next hW nD S2 (S3.mono (by omega)) (S3.keepL eD2 (hW.at_.ne nD)) el ow hv ga gb o1 m1
      · intro H1 x
        rw [List.length_map] at x
        obtain ⟨ws, eD, fin⟩ := x.num hW q
        exact ⟨_, _, rfl, .inl ⟨SqL.of eD, fin⟩⟩
    | or =>
      cases hk
      refine ⟨_, rfl, rfl, _, rfl, ifStrF (nm_ne (by decide +kernel)) ?_⟩
      refine ⟨_, rfl, rfl, _, rfl, ifStrT rfl ?_⟩
      refine ⟨_, rfl, _, rfl, p1, p2, _, _, rfl, .inr ⟨hW.w1, hW.w2, fun D nD => lc_it (walk_zipT hl) (BwI K H b g d n gs a1 a2 or D) (.start hW nD) (fun i H' _ x => hq x) ?_ ?_⟩⟩
      · rintro i v H1 H2 hi ⟨gs1, ws, S1, eD, el, ow, hv⟩ ⟨T0, x, y, rfl, nT, rfl, gx, gy⟩
        rw [List.length_map] at hi
        obtain ⟨la, ga, rfl⟩ := get_map gx
        obtain ⟨lb, gb, rfl⟩ := get_map gy
        have S2 : BSt K H (upd H1 T0 (.tup [lit la, lit lb])) b g d n gs gs1 (3 * i) := S1.new nT
        have eD2 : upd H1 T0 (.tup [lit la, lit lb]) D = _ := (upd_ne (ne_of_none eD nT)).trans eD
        have b1 := S1.len
        refine ⟨T0, _, rfl, SqT.of upd_same, rfl, _, _, rfl, _, _, rfl, rfl, ?_⟩
        refine ⟨rfl, ?_⟩
        refine .inl ⟨rfl, _, rfl, _, rfl, _, rfl, b, g, d, n, gs1, la, lb, rfl, S2.at_, (wo_get hW.k1 ga).mono S1.pre, (wo_get hW.k2 gb).mono S1.pre, by omega, fun H3 gs3 r1 S3 o1 m1 => ?_⟩
        exact BwI.next hW nD S2 (S3.mono (by omega)) (S3.keepL eD2 (hW.at_.ne nD)) el ow hv ga gb o1 m1
      · intro H1 x
        rw [List.length_map] at x
        obtain ⟨ws, eD, fin⟩ := x.num hW q
        exact ⟨_, _, rfl, .inl ⟨SqL.of eD, fin⟩⟩
    | xor =>
      cases hk
      refine ⟨_, rfl, rfl, _, rfl, ifStrF (nm_ne (by decide +kernel)) ?_⟩
      refine ⟨_, rfl, rfl, _, rfl, ifStrF (nm_ne (by decide +kernel)) ?_⟩
      refine ⟨_, rfl, _, rfl, p1, p2, _, _, rfl, .inr ⟨hW.w1, hW.w2, fun D nD => lc_it (walk_zipT hl) (BwI K H b g d n gs a1 a2 xor D) (.start hW nD) (fun i H' _ x => hq x) ?_ ?_⟩⟩
      · rintro i v H1 H2 hi ⟨gs1, ws, S1, eD, el, ow, hv⟩ ⟨T0, x, y, rfl, nT, rfl, gx, gy⟩
        rw [List.length_map] at hi
        obtain ⟨la, ga, rfl⟩ := get_map gx
        obtain ⟨lb, gb, rfl⟩ := get_map gy
        have S2 : BSt K H (upd H1 T0 (.tup [lit la, lit lb])) b g d n gs gs1 (3 * i) := S1.new nT
        have eD2 : upd H1 T0 (.tup [lit la, lit lb]) D = _ := (upd_ne (ne_of_none eD nT)).trans eD
        have b1 := S1.len
        refine ⟨T0, _, rfl, SqT.of upd_same, rfl, _, _, rfl, _, _, rfl, rfl, ?_⟩
        refine ⟨rfl, ?_⟩
        refine .inr ⟨rfl, _, rfl, _, rfl, _, rfl, b, g, d, n, gs1, la, lb, rfl, S2.at_, (wo_get hW.k1 ga).mono S1.pre, (wo_get hW.k2 gb).mono S1.pre, by omega, fun H3 gs3 r1 S3 o1 m1 => ?_⟩
        exact BwI.next hW nD S2 (S3.mono (by omega)) (S3.keepL eD2 (hW.at_.ne nD)) el ow hv ga gb o1 m1
      · intro H1 x
        rw [List.length_map] at x
        obtain ⟨ws, eD, fin⟩ := x.num hW q
        exact ⟨_, _, rfl, .inl ⟨SqL.of eD, fin⟩⟩
    | plus => cases hk
    | times => cases hk
    | equal => cases hk
    | below => cases hk
end
end K14
set_option maxHeartbeats 200000
/-! words moved, joined, multiplied -/
namespace K14
theorem add_mod {p x s : Nat} {r : Bool} (hs : s < p) (h : s + p * r.toNat = x) : s = x % p := by
  cases r with
  | false =>
    have e : s = x := by simpa using h
    rw [← e, Nat.mod_eq_of_lt hs]
  | true =>
    have e : s + p = x := by simpa using h
    rw [← e, Nat.add_mod_right, Nat.mod_eq_of_lt hs]
theorem prod_step {p i q one tk rest ti bit tot : Nat} (hp : 2 ^ i * q = p) (h1 : one = tk + q * rest) (ht : tot = (one * ti) % p) : (tot + 2 ^ i * (bit * tk)) % p = (one * (ti + 2 ^ i * bit)) % p := by
  have e : one * (ti + 2 ^ i * bit) = one * ti + 2 ^ i * (bit * tk) + p * (bit * rest) := by
    rw [Nat.mul_add, Nat.add_assoc]
    congr 1
    rw [h1, ← hp, Nat.add_mul]
    congr 1
    · rw [Nat.mul_comm tk, Nat.mul_assoc]
    · rw [Nat.mul_comm (q * rest), Nat.mul_assoc, Nat.mul_assoc]
      congr 1
      rw [Nat.mul_comm bit, Nat.mul_assoc, Nat.mul_comm bit rest]
  rw [e, Nat.add_mul_mod_self_left, ht, Nat.mod_add_mod]
theorem wn_zeros (n : Nat) (gs : List (Nat × Nat)) (b : Bits) : ∀ k : Nat, wn (nodes n gs) (List.replicate k 0) b = 0
  | 0 => rfl
  | k + 1 => by
    show (lm (nodes n gs) 0 b).toNat + 2 * wn (nodes n gs) (List.replicate k 0) b = 0
    rw [lm_zero, wn_zeros n gs b k]; rfl
theorem zeros_ok (n : Nat) (gs : List (Nat × Nat)) (k : Nat) : WOk n gs (List.replicate k 0) := fun l m => by
  rw [(List.mem_replicate.mp m).2]; unfold Ok; omega
theorem wn_split (ms : List M) (b : Bits) (ws : List Nat) {i : Nat} (h : i ≤ ws.length) : wn ms ws b = wn ms (ws.take i) b + 2 ^ i * wn ms (ws.drop i) b := by
  have e := wn_app ms b (ws.take i) (ws.drop i)
  rw [List.take_append_drop, List.length_take, Nat.min_eq_left h] at e
  exact e
/-- moved by k places, zeros put in -/
def movedW (left : Bool) (ws : List Nat) (k : Nat) : List Nat :=
  let m := min k ws.length
  if left = true then List.replicate m 0 ++ ws.take (ws.length - m) else ws.drop m ++ List.replicate m 0
theorem movedW_len (left : Bool) (ws : List Nat) (k : Nat) : (movedW left ws k).length = ws.length := by
  unfold movedW
  cases left <;> simp <;> omega
theorem movedW_ok {n : Nat} {gs : List (Nat × Nat)} {ws : List Nat} (o : WOk n gs ws) (left : Bool) (k : Nat) : WOk n gs (movedW left ws k) := by
  unfold movedW
  cases left
  · intro l m
    rcases List.mem_append.mp m with h | h
    · exact o l (List.mem_of_mem_drop h)
    · exact zeros_ok n gs _ l h
  · intro l m
    rcases List.mem_append.mp m with h | h
    · exact zeros_ok n gs _ l h
    · exact o l (List.mem_of_mem_take h)
theorem wn_left (n : Nat) (gs : List (Nat × Nat)) (b : Bits) (ws : List Nat) (k : Nat) : wn (nodes n gs) (movedW true ws k) b = (wn (nodes n gs) ws b * 2 ^ k) % 2 ^ ws.length := by
  unfold movedW
  rw [if_pos rfl, wn_app, wn_zeros, List.length_replicate, Nat.zero_add]
  by_cases h : k ≤ ws.length
  · rw [Nat.min_eq_left h]
    have e := wn_split (nodes n gs) b ws (i := ws.length - k) (by omega)
    have l1 := wn_lt (nodes n gs) b (ws.take (ws.length - k))
    rw [List.length_take, Nat.min_eq_left (by omega)] at l1
    have p : 2 ^ (ws.length - k) * 2 ^ k = 2 ^ ws.length := by rw [← Nat.pow_add]; congr 1; omega
    have e2 : wn (nodes n gs) ws b * 2 ^ k = 2 ^ k * wn (nodes n gs) (ws.take (ws.length - k)) b + 2 ^ ws.length * wn (nodes n gs) (ws.drop (ws.length - k)) b := by
      conv => lhs; rw [e]
      rw [Nat.add_mul, ← p, Nat.mul_comm _ (2 ^ k)]
      congr 1
      rw [Nat.mul_assoc, Nat.mul_comm (wn _ _ _) (2 ^ k), ← Nat.mul_assoc]
    rw [e2, Nat.add_mul_mod_self_left]
    rw [Nat.mod_eq_of_lt]
    rw [← p, Nat.mul_comm (2 ^ k)]
    exact Nat.mul_lt_mul_of_pos_right l1 (Nat.two_pow_pos k)
  · rw [Nat.min_eq_right (by omega), Nat.sub_self, List.take_zero]
    have p : 2 ^ k = 2 ^ ws.length * 2 ^ (k - ws.length) := by rw [← Nat.pow_add]; congr 1; omega
    rw [p, Nat.mul_left_comm, Nat.mul_mod_right]
    rfl
theorem wn_right (n : Nat) (gs : List (Nat × Nat)) (b : Bits) (ws : List Nat) (k : Nat) : wn (nodes n gs) (movedW false ws k) b = wn (nodes n gs) ws b / 2 ^ k := by
  unfold movedW
  rw [if_neg Bool.false_ne_true, wn_app, wn_zeros, Nat.mul_zero, Nat.add_zero]
  by_cases h : k ≤ ws.length
  · rw [Nat.min_eq_left h]
    have e := wn_split (nodes n gs) b ws (i := k) h
    have l1 := wn_lt (nodes n gs) b (ws.take k)
    rw [List.length_take, Nat.min_eq_left h] at l1
    rw [e, Nat.add_mul_div_left _ _ (Nat.two_pow_pos k), Nat.div_eq_of_lt l1, Nat.zero_add]
  · rw [Nat.min_eq_right (by omega), List.drop_length]
    have l1 := wn_lt (nodes n gs) b ws
    have l2 : 2 ^ ws.length ≤ 2 ^ k := Nat.pow_le_pow_right (by decide) (by omega)
    rw [Nat.div_eq_of_lt (Nat.lt_of_lt_of_le l1 l2)]
    rfl
/-- a slice's number -/
theorem wn_slice (ms : List M) (b : Bits) (ws : List Nat) {lo hi : Nat} (h1 : lo ≤ hi) (h2 : hi < ws.length) : wn ms ((ws.drop lo).take (hi + 1 - lo)) b = wn ms ws b / 2 ^ lo % 2 ^ (hi - lo + 1) := by
  have e := wn_split ms b ws (i := lo) (by omega)
  have l1 := wn_lt ms b (ws.take lo)
  rw [List.length_take, Nat.min_eq_left (by omega)] at l1
  have e2 := wn_split ms b (ws.drop lo) (i := hi + 1 - lo) (by rw [List.length_drop]; omega)
  have l2 := wn_lt ms b ((ws.drop lo).take (hi + 1 - lo))
  rw [List.length_take, List.length_drop, Nat.min_eq_left (by omega)] at l2
  have e3 : hi - lo + 1 = hi + 1 - lo := by omega
  rw [e, Nat.add_mul_div_left _ _ (Nat.two_pow_pos lo), Nat.div_eq_of_lt l1, Nat.zero_add, e3, e2, Nat.add_mul_mod_self_left, Nat.mod_eq_of_lt l2]
end K14
set_option maxHeartbeats 4000000
/-! words: products, moves, joins, pairs -/
namespace K14
open PySem PySem.Spec PyProof.Rows L2
theorem WAt.len1 {K : PySem.W.Frag} {H : Hp} {a : Addr} {ws : List Nat} (x : WAt K H a ws) : True := trivial
theorem cat_all {K : PySem.W.Frag} {H : Hp} {Q : VK} {a b : Addr} {xs ys : List V} (hx : SqT K H a xs) (hy : SqT K H b ys) (hz : xs.length + ys.length ≤ sizeLine) (q : ∀ H' p, Kp [] H H' → SqT K H' p (xs ++ ys) → Q (.ref p) H') :
    rCatA K (.ref a) (.ref b) H Q := by
  refine ⟨a, b, xs, ys, rfl, rfl, hx, hy, hz, fun e => ?_, fun _ e => ?_, fun _ _ p np => ?_⟩
  · subst e; exact q H b Kp.refl hy
  · subst e; exact q H a Kp.refl (by rw [List.append_nil]; exact hx)
  · exact q _ p (Kp.refl.new np) (SqT.of upd_same)
theorem cat_w {K : PySem.W.Frag} {H : Hp} {Q : VK} {a b : Addr} {xs ys : List Nat} (hx : WAt K H a xs) (hy : WAt K H b ys) (hz : xs.length + ys.length ≤ 1000000) (q : ∀ H' p, Kp [] H H' → WAt K H' p (xs ++ ys) → Q (.ref p) H') :
    rCatA K (.ref a) (.ref b) H Q :=
  cat_all hx hy (by rw [List.length_map, List.length_map]; exact Nat.le_of_lt (small _ hz)) fun H' p k x => q H' p k (by unfold WAt; rw [List.map_append]; exact x)
theorem flat1 : ∀ k : Nat, (List.replicate k [V.int 0]).flatten = List.replicate k (lit 0)
  | 0 => rfl
  | k + 1 => by
    rw [List.replicate_succ, List.flatten_cons, List.replicate_succ, flat1 k]; rfl
theorem rep_z {K : PySem.W.Frag} {H : Hp} {Q : VK} {l : Addr} {m : Int} {k : Nat} (e : m = (k : Int)) (hT : SqT K H l [.int 0]) (hk : k ≤ 1000) (q : ∀ H' p, Kp [] H H' → WAt K H' p (List.replicate k 0) → Q (.ref p) H') : rRepZ K (.ref l) (.int m) H Q := by
  subst e
  refine ⟨l, _, [.int 0], rfl, rfl, hT, (fun z => by cases z), by omega, by omega, (by show 1 ≤ 1000; decide), fun e => ?_, fun e p np => ?_⟩
  · have e1 : k = 1 := by omega
    subst e1
    exact q H l Kp.refl hT
  · have e1 : (List.replicate ((k : Int)).toNat [V.int 0]).flatten = (List.replicate k 0).map lit := by
      rw [Int.toNat_natCast, List.map_replicate]
      exact flat1 k
    exact q _ p (Kp.refl.new np) (by rw [e1]; exact SqT.of upd_same)
theorem slW {K : PySem.W.Frag} {H : Hp} {Q : VK} {a : Addr} {ws : List Nat} {lo hi : Option Int} (i j : Nat) (hx : WAt K H a ws) (hl : HT.sIx ws.length 0 lo = i) (hh : HT.sIx ws.length ws.length hi = j) (q : ∀ H' p, Kp [] H H' → WAt K H' p ((ws.drop i).take (j - i)) → Q (.ref p) H') :
    rSlA K (.ref a) lo hi H Q := by
  refine ⟨a, _, rfl, hx, fun e => ?_, fun _ p np => ?_⟩
  · rw [List.length_map, hl, hh] at e
    refine q H a Kp.refl ?_
    rw [e.1, e.2, List.drop_zero, Nat.sub_zero, List.take_length]
    exact hx
  · refine q _ p (Kp.refl.new np) ?_
    have e : cutV (ws.map lit) lo hi = ((ws.drop i).take (j - i)).map lit := by
      unfold cutV
      rw [List.length_map, hl, hh, List.map_take, List.map_drop]
    unfold WAt
    rw [← e]
    exact SqT.of upd_same
section
variable {P : Program} {w : World} {K : PySem.W.Frag} {mg : Str → Option Value} {base : Heap}
/-! ### product -/
def spProd (K : PySem.W.Frag) : Sp := fun vs H Q _ => ∃ (b g d : Addr) (n : Nat) (gs : List (Nat × Nat)) (p1 p2 : Addr) (a1 a2 : List Nat), vs = [.ref b, .ref p1, .ref p2] ∧ W2 K H b g d n gs p1 p2 a1 a2 ∧ gs.length + 10 * a1.length * a1.length ≤ big ∧
  PWord K H Q b g d n gs (10 * a1.length * a1.length) a1.length fun z => (wn (nodes n gs) a1 z * wn (nodes n gs) a2 z) % 2 ^ a1.length
theorem BSt.kp0 {H H1 H2 : Hp} {b g d : Addr} {n c : Nat} {gs gs' : List (Nat × Nat)} (x : BSt K H H1 b g d n gs gs' c) (k : Kp [] H1 H2) : BSt K H H2 b g d n gs gs' c := ((x.trans (BSt.mk k.nil (x.at_.kp0 k) (List.prefix_refl _) (Nat.le_refl _) : BSt K H1 H2 b g d n gs' gs' 0)).mono (by omega))
abbrev nm_product : List Str := ["builder", "one", "other", "total", "k", "bit", "row", "its"]
theorem sc_product : FnScope nm_product ["builder", "one", "other"] (C8.fnScope (st 27)) := C8.fnScope_by (by decide +kernel)
theorem cal_product (T : Top K mg) : C8.Cal P w K mg base (6) "product" (spProd K) [] := by
  refine calD T.d_product sc_product (fun vs H Q E h => ?_) (fun f cdv A outer s0 H vs Q E hr h => ?_)
  ·
    obtain ⟨b, g, d, n, gs, p1, p2, a1, a2, rfl, _⟩ := h; rfl
  ·
    obtain ⟨b, g, d, n, gs, p1, p2, a1, a2, rfl, hW, hlen, q⟩ := h
    have hu := hu_of hr
    refine ⟨_, (pss_cons (ps_set (i := 3) sc_product.nd rfl (Or.inl rfl) (C8.pe_c (cal_number_word T) hr (by decide) rfl (pa_cons (pe_callB call_len_seq (by rfl) T.f_len PySem.boot_len (pa_cons (pv 1) pa_nil)) (pa_cons pe_int pa_nil))))
      (pss_cons (ps_for PassesOwn.never rfl (pi_enumT (by rfl) T.f_enumerate (pa_cons (pv 2) pa_nil)) (pg_tup rfl (pgs_cons (pg_name (i := 4) sc_product.nd rfl (Or.inl rfl)) (pgs_cons (pg_name (i := 5) sc_product.nd rfl (Or.inr rfl)) pgs_nil))) (pss_cons (ps_set (i := 6) sc_product.nd rfl (Or.inl rfl) (pe_op op_catA (pe_op op_repZ (pe_tup (pa_cons pe_int pa_nil)) (pv 4)) (pe_callTy call_tuple_of (by rfl) T.f_tuple PyProof.Rows.boot_tuple (pa_cons (pe_lc (own := [("its", 7)]) (g := (gName 7)) (tt := tYes)  rfl sc_product.nd (pi_tup (pe_slice sl_tupA (pv 1) po_none (po_some (pe_op op_sub (pe_callB call_len_seq (by rfl) T.f_len PySem.boot_len (pa_cons (pv 1) pa_nil)) (pv 4))))) (blkOk_by (own := [("its", 7)]) (N := nm_product) (sc := C8.fnScope (st 27)) (by decide +kernel)) (fun _ _ _ _ _ => (pg_name (i := 7) sc_product.nd rfl (Or.inl rfl))) (fun _ _ _ _ _ => pts_nil) (fun _ _ _ _ _ => (C8.pe_mt (met_and_of T) hr (by decide) (pv 0) (pa_cons (pv 5) (pa_cons (pv 7) pa_nil))))) pa_nil))))
      (pss_one (ps_set (i := 3) sc_product.nd rfl (Or.inl rfl) (pe_ix ix_tup (C8.pe_c (cal_summed T) hr (by decide) rfl (pa_cons (pv 0) (pa_cons (pv 3) (pa_cons (pv 6) (pa_cons pe_int pa_nil))))) pe_int (fun _ _ => rfl))))))
      (pss_one (ps_ret (pv 3))))), ?_⟩
    have hz := hW.small
    refine ⟨_, rfl, _, _, rfl, .inr hW.w1, _, 0, rfl, by rw [List.length_map]; exact hz, fun H1 p3 k1 hn => ?_⟩
    rw [List.length_map] at hn
    have S0 : BSt K H H1 b g d n gs gs 0 := ⟨k1.nil, hW.at_.kp0 k1, List.prefix_refl _, Nat.le_refl _⟩
    refine ⟨_, rfl, p2, _, rfl, k1.sqT hW.w2, for_it walk_enumT (fun i σ H' => ∃ (gs' : List (Nat × Nat)) (pt : Addr) (ws : List Nat) (x4 x5 x6 x7 : Option V), σ = [some (.ref b), some (.ref p1), some (.ref p2), some (.ref pt), x4, x5, x6, x7] ∧ BSt K H H' b g d n gs gs' (10 * a1.length * i) ∧ WAt K H' pt ws ∧ ws.length = a1.length ∧ WOk n gs' ws ∧
        ∀ z, wn (nodes n gs') ws z = (wn (nodes n gs) a1 z * wn (nodes n gs) (a2.take i) z) % 2 ^ a1.length)
      ⟨gs, p3, _, none, none, none, none, rfl, S0, hn, nb_len _ _, nb_ok _ _ _ _, fun z => by rw [wn_nb]; simp [wn]⟩ (fun i σ H' _ ⟨gs', pt, ws, x4, x5, x6, x7, _, S, _⟩ => S.kp.sqT hW.w2) ?_ ?_⟩
    · rintro i v σ H1 H2 hi ⟨gs1, pt, ws, x4, x5, x6, x7, rfl, S1, wp, el, ow, hv⟩ ⟨T0, x, y, rfl, nT, rfl, gx, gy⟩
      rw [List.length_map] at hi
      have hi1 : i < a1.length := by rw [hW.len]; exact hi
      cases gx
      obtain ⟨lb, gb, rfl⟩ := get_map gy
      have ob := wo_get hW.k2 gb
      have S2 : BSt K H (upd H1 T0 (.tup [.int (i : Nat), lit lb])) b g d n gs gs1 (10 * a1.length * i) := S1.new nT
      have b1 := S1.len
      have hm : 10 * a1.length * i + 10 * a1.length ≤ 10 * a1.length * a1.length := by
        have := Nat.mul_le_mul_left (10 * a1.length) (show i + 1 ≤ a1.length by omega)
        rw [Nat.mul_add, Nat.mul_one] at this
        exact this
      have wp2 : WAt K (upd H1 T0 (.tup [.int (i : Nat), lit lb])) pt ws := wp.kp (Kp.refl.new nT (S := []))
      refine ⟨T0, _, rfl, SqT.of upd_same, rfl, _, _, rfl, _, _, rfl, rfl, ?_⟩
      refine ⟨(by show 1 ≤ sizeLine; decide), fun t nt => ?_⟩
      have S3 := S2.new (o := .tup [.int 0]) nt
      have wp3 := wp2.kp (Kp.refl.new (o := .tup [.int 0]) nt (S := []))
      refine ⟨_, rfl, rep_z rfl (SqT.of upd_same) (by omega) fun H4 pz k4 hzr => ?_⟩
      have S4 := S3.kp0 k4
      have wp4 := wp3.kp k4
      refine ⟨_, rfl, _, rfl, _, _, rfl, .inr (S4.kp.sqT hW.w1), _, rfl, _, _, rfl, rfl, _, rfl, ?_⟩
      refine slW 0 (a1.length - i) (S4.kp.sqT hW.w1) rfl (by rw [List.length_map, ← Int.ofNat_sub (by omega), HT.sIx_nat]; omega) fun H5 pc k5 hc => ?_
      rw [List.drop_zero, Nat.sub_zero] at hc
      have S5 := S4.kp0 k5
      have wp5 := wp4.kp k5
      have hzr5 := hzr.kp k5
      refine ⟨_, rfl, ⟨_, hc⟩, fun D nD => ?_⟩
      have nd := S5.at_.ne nD
      have lt1 : (a1.take (a1.length - i)).length = a1.length - i := by rw [List.length_take]; omega
      refine lc_it walk_tup (fun j H' => ∃ (gs' : List (Nat × Nat)) (rs : List Nat), BSt K H5 H' b g d n gs1 gs' j ∧ H' D = some (.lst (rs.map lit)) ∧ rs.length = j ∧ WOk n gs' rs ∧ ∀ z, wn (nodes n gs') rs z = (lm (nodes n gs) lb z).toNat * wn (nodes n gs) ((a1.take (a1.length - i)).take j) z)
        ⟨gs1, [], (BSt.refl S5.at_ 0).new nD, upd_same, rfl, (fun _ m => nomatch m), fun z => by simp [wn]⟩ (fun j H' _ ⟨gs', rs, S, _⟩ => S.kp.sqT hc) ?_ ?_
      · rintro j x H6 H7 hj ⟨gs6, rs, S6, eD, er, orr, hr6⟩ ⟨rfl, gx⟩
        rw [List.length_map, lt1] at hj
        obtain ⟨la, ga, rfl⟩ := get_map gx
        have oa : Ok n gs la := (hW.k1.take _) la (List.mem_of_getElem? ga)
        obtain ⟨dx2, i2⟩ := S6.at_.ins
        have b6 := S6.len
        refine ⟨rfl, ?_⟩
        refine ⟨_, rfl, b, dx2, _, rfl, i2, bF_and _ _ _, _, rfl, _, rfl, b, g, d, n, gs6, lb, la, rfl, S6.at_, ob.mono (S1.pre.trans S6.pre), oa.mono (S1.pre.trans S6.pre), by omega, fun H8 gs8 r1 S8 o1 m1 => ?_⟩
        have eD8 := S8.keepL eD nd
        refine ⟨_, eD8, small _ (by rw [List.length_map, er]; omega), gs8, rs ++ [r1], (S6.trans S8).put S5.at_ nD eD8, ?_, by rw [List.length_append, er]; rfl, (orr.mono S8.pre).app (.one o1), fun z => ?_⟩
        · rw [upd_same, List.map_append]; rfl
        · have e2 : wn (nodes n gs8) [r1] z = (lm (nodes n gs8) r1 z).toNat := by simp [wn]
          rw [wn_app, er, orr.num S8.pre, hr6 z, e2, m1, wn_take_succ _ _ ga, ob.lm (S1.pre.trans S6.pre), oa.lm (S1.pre.trans S6.pre)]
          dsimp only
          cases lm (nodes n gs) lb z <;> simp
      · rintro H6 ⟨gs6, rs, S6, eD, er, orr, hr6⟩
        rw [List.length_map, lt1] at er S6
        rw [List.length_map, lt1] at hr6
        have b6 := S6.len
        refine ⟨_, _, rfl, .inl ⟨SqL.of eD, fun p np => ?_⟩⟩
        have S7 := S6.new (o := .tup (rs.map lit)) np
        have wp7 : WAt K (upd H6 p (.tup (rs.map lit))) pt ws := S7.kp.sqT wp5
        refine cat_w (xs := List.replicate i 0) (ys := rs) (S7.kp.sqT hzr5) (SqT.of upd_same) (by rw [List.length_replicate, er]; omega) fun H8 pr k8 hr8 => ?_
        have S8 := S7.kp0 k8
        have wp8 := wp7.kp k8
        have W8 : W2 K H8 b g d n gs6 pt pr ws (List.replicate i 0 ++ rs) := ⟨S8.at_, S8.kp.sqT wp5, hr8, ow.mono S6.pre, (zeros_ok _ _ _).app orr, by rw [List.length_append, List.length_replicate, er, el]; omega, by omega⟩
        refine ⟨_, rfl, _, rfl, _, rfl, b, g, d, n, gs6, pt, pr, _, _, 0, rfl, W8.at_, W8.w1, W8.w2, W8.k1, W8.k2, W8.len, by unfold Ok; omega, W8.small, by rw [el]; omega, fun H9 gs9 t9 p9 ws9 r9 S9 ht hp ow9 el9 or9 hv9 => ?_⟩
        rw [el] at S9 hv9
        refine ⟨t9, _, 0, _, rfl, rfl, ht, atI_nat (j := 0) rfl, ?_⟩
        have ST := ((S5.trans S8).trans S9).mono (c' := 10 * a1.length * (i + 1)) (by rw [Nat.mul_add, Nat.mul_one]; omega)
        refine ⟨gs9, p9, ws9, _, _, _, _, rfl, ST, hp, by rw [el9, el], ow9, fun z => ?_⟩
        have e9 := hv9 z
        have l9 := wn_lt (nodes n gs9) z ws9
        rw [el9, el] at l9
        rw [lm_zero, wn_app, wn_zeros, List.length_replicate, ow.num S6.pre, hr6 z] at e9
        have e10 := add_mod l9 (show _ = _ from e9)
        rw [e10, wn_take_succ _ _ gb]
        have et : (a1.take (a1.length - i)).take (a1.length - i) = a1.take (a1.length - i) := by rw [List.take_take, Nat.min_self]
        rw [et]
        have hp := prod_step (p := 2 ^ a1.length) (i := i) (q := 2 ^ (a1.length - i)) (bit := (lm (nodes n gs) lb z).toNat) (ti := wn (nodes n gs) (a2.take i) z) (tot := wn (nodes n gs1) ws z) (by rw [← Nat.pow_add]; congr 1; omega)
          (wn_split (nodes n gs) z a1 (i := a1.length - i) (by omega)) (hv z)
        have el2 : (a2.take i).length = i := by rw [List.length_take]; omega
        simpa [el2] using hp
    · rintro σ H1 ⟨gs1, pt, ws, x4, x5, x6, x7, rfl, S1, wp, el, ow, hv⟩
      rw [List.length_map, ← hW.len] at *
      refine ⟨_, rfl, q H1 gs1 pt ws S1 wp ow el fun z => ?_⟩
      have := hv z
      rw [hW.len, List.take_length, ← hW.len] at this
      exact this
end
end K14
/-! words: moves, joins, pairs -/
namespace K14
open PySem PySem.Spec PyProof.Rows L2
section
variable {P : Program} {w : World} {K : PySem.W.Frag} {mg : Str → Option Value} {base : Heap}
def mvNm (left : Bool) : Str := if left = true then "left" else "right"
def spMoved (K : PySem.W.Frag) : Sp := fun vs H Q _ => ∃ (left : Bool) (p : Addr) (ws : List Nat) (k : Nat), vs = [.str (mvNm left), .ref p, .int (k : Int)] ∧ WAt K H p ws ∧ ws.length ≤ 1000 ∧ ∀ H' p', Kp [] H H' → WAt K H' p' (movedW left ws k) → Q (.ref p') H'
abbrev nm_moved_word : List Str := ["name", "word", "many"]
theorem sc_moved_word : FnScope nm_moved_word ["name", "word", "many"] (C8.fnScope (st 33)) := C8.fnScope_by (by decide +kernel)
theorem cal_moved_word (T : Top K mg) : C8.Cal P w K mg base (1) "moved_word" (spMoved K) [] := by
  refine calD T.d_moved_word sc_moved_word (fun vs H Q E h => ?_) (fun f cdv A outer s0 H vs Q E hr h => ?_)
  ·
    obtain ⟨left, p, ws, k, rfl, _⟩ := h; rfl
  ·
    obtain ⟨left, p, ws, k, rfl, hW, hz, q⟩ := h
    have hu := hu_of hr
    refine ⟨_, (pss_cons (ps_set (i := 2) sc_moved_word.nd rfl (Or.inl rfl) (pe_callB (cr_min rfl) (by rfl) T.f_min PyProof.Rows.boot_min (pa_cons (pe_lst (pa_cons (pv 2) (pa_cons (pe_callB call_len_seq (by rfl) T.f_len PySem.boot_len (pa_cons (pv 1) pa_nil)) pa_nil))) pa_nil)))
      (pss_one (ps_ret (pe_ifExp (pt_cmpR op_eq (pv 0) pe_str (nomark _)) (pe_op op_catA (pe_op op_repZ (pe_tup (pa_cons pe_int pa_nil)) (pv 2)) (pe_slice sl_tupA (pv 1) po_none (po_some (pe_op op_sub (pe_callB call_len_seq (by rfl) T.f_len PySem.boot_len (pa_cons (pv 1) pa_nil)) (pv 2))))) (pe_op op_catA (pe_slice sl_tupA (pv 1) (po_some (pv 2)) po_none) (pe_op op_repZ (pe_tup (pa_cons pe_int pa_nil)) (pv 2))))))), ?_⟩
    refine ⟨_, rfl, _, rfl, _, _, rfl, .inr hW, (by show 2 ≤ sizeLine; decide), fun l nl => ?_⟩
    have k1 : Kp [] H (upd H l (.lst [.int (k : Int), .int ((ws.map lit).length : Int)])) := Kp.refl.new nl
    refine ⟨l, [(k : Int), ((ws.map lit).length : Int)], rfl, SqL.of upd_same, by show 0 < 2; decide, fun m hm hle => ?_⟩
    have em : m = ((min k ws.length : Nat) : Int) := by
      rw [List.length_map] at hm hle
      have h1 := hle (k : Int) (by simp)
      have h2 := hle (ws.length : Int) (by simp)
      have h3 : m = (k : Int) ∨ m = (ws.length : Int) := by simpa using hm
      omega
    subst em
    have w1 : WAt K (upd H l (.lst [.int (k : Int), .int ((ws.map lit).length : Int)])) p ws := hW.kp k1
    cases left with
    | true =>
      refine ⟨_, rfl, rfl, _, rfl, ifStrT rfl ?_⟩
      refine ⟨(by show 1 ≤ sizeLine; decide), fun t nt => ?_⟩
      have k2 := k1.new (o := .tup [.int 0]) nt
      refine ⟨_, rfl, rep_z rfl (SqT.of upd_same) (by omega) fun H4 pz k4 hzr => ?_⟩
      have k3 := k2.trans k4
      refine ⟨_, rfl, _, rfl, _, _, rfl, .inr (hW.kp k3), _, rfl, _, _, rfl, rfl, _, rfl, ?_⟩
      refine slW 0 (ws.length - min k ws.length) (hW.kp k3) rfl (by rw [List.length_map, ← Int.ofNat_sub (by omega), HT.sIx_nat]; omega) fun H5 pc k5 hc => ?_
      rw [List.drop_zero, Nat.sub_zero] at hc
      refine cat_w (hzr.kp k5) hc (by rw [List.length_replicate, List.length_take]; omega) fun H6 pr k6 hr => ?_
      exact q H6 pr ((k3.trans k5).trans k6) (by unfold movedW; rw [if_pos rfl]; exact hr)
    | false =>
      refine ⟨_, rfl, rfl, _, rfl, ifStrF (nm_ne (by decide +kernel)) ?_⟩
      refine ⟨_, rfl, _, rfl, _, rfl, ?_⟩
      dsimp only [tNoPart]
      refine slW (lo := some ((min k ws.length : Nat) : Int)) (hi := none) (min k ws.length) ws.length w1 (by rw [HT.sIx_nat]; omega) rfl fun H5 pc k5 hc => ?_
      have e5 : (ws.drop (min k ws.length)).take (ws.length - min k ws.length) = ws.drop (min k ws.length) := List.take_of_length_le (by rw [List.length_drop]; omega)
      rw [e5] at hc
      have k3 := k1.trans k5
      refine ⟨(by show 1 ≤ sizeLine; decide), fun t nt => ?_⟩
      have k4 := k3.new (o := .tup [.int 0]) nt
      have hc2 : WAt K (upd H5 t (.tup [.int 0])) pc _ := hc.kp (Kp.refl.new nt (S := []))
      refine ⟨_, rfl, rep_z rfl (SqT.of upd_same) (by omega) fun H6 pz k6 hzr => ?_⟩
      refine cat_w (hc2.kp k6) hzr (by rw [List.length_replicate, List.length_drop]; omega) fun H7 pr k7 hr => ?_
      exact q H7 pr ((k4.trans k6).trans k7) (by unfold movedW; rw [if_neg Bool.false_ne_true]; exact hr)
/-! ### joined_word -/
def joinW (ps : List (Addr × List Nat)) : List Nat := ps.foldl (fun acc x => x.2 ++ acc) []
def spJoin (K : PySem.W.Frag) : Sp := fun vs H Q _ => ∃ (p : Addr) (ps : List (Addr × List Nat)), vs = [.ref p] ∧ SqL K H p (ps.map fun x => .ref x.1) ∧ (∀ x ∈ ps, WAt K H x.1 x.2 ∧ x.2.length ≤ 1000) ∧ ps.length ≤ 1000 ∧ ∀ H' p', Kp [] H H' → WAt K H' p' (joinW ps) → Q (.ref p') H'
abbrev nm_joined_word : List Str := ["words", "found", "word"]
theorem sc_joined_word : FnScope nm_joined_word ["words"] (C8.fnScope (st 34)) := C8.fnScope_by (by decide +kernel)
theorem cal_joined_word (T : Top K mg) : C8.Cal P w K mg base (1) "joined_word" (spJoin K) [] := by
  refine calD T.d_joined_word sc_joined_word (fun vs H Q E h => ?_) (fun f cdv A outer s0 H vs Q E hr h => ?_)
  ·
    obtain ⟨p, ps, rfl, _⟩ := h; rfl
  ·
    obtain ⟨p, ps, rfl, hL, hw, hz, q⟩ := h
    have hu := hu_of hr
    refine ⟨_, (pss_cons (ps_set (i := 1) sc_joined_word.nd rfl (Or.inl rfl) (pe_tup pa_nil))
      (pss_cons (ps_for PassesOwn.never rfl (pi_list (pv 0)) (pg_name (i := 2) sc_joined_word.nd rfl (Or.inl rfl)) (pss_one (ps_set (i := 1) sc_joined_word.nd rfl (Or.inl rfl) (pe_op op_catA (pv 2) (pv 1)))))
      (pss_one (ps_ret (pv 1))))), ?_⟩
    refine ⟨(by show 0 ≤ sizeLine; decide), fun t nt => ?_⟩
    have k1 : Kp [] H (upd H t (.tup [])) := Kp.refl.new nt
    refine ⟨_, rfl, _, rfl, ⟨_, k1.sqL hL (fun z => nomatch z)⟩, for_it walk_list (fun i σ H' => ∃ (pf : Addr) (x2 : Option V), σ = [some (.ref p), some (.ref pf), x2] ∧ Kp [] H H' ∧ WAt K H' pf (joinW (ps.take i)) ∧ (joinW (ps.take i)).length ≤ 1000 * i)
      ⟨t, none, rfl, k1, SqT.of upd_same, Nat.zero_le _⟩ (fun i σ H' _ ⟨pf, x2, _, k, _⟩ => k.sqL hL (fun z => nomatch z)) ?_ ?_⟩
    · rintro i v σ H1 H2 hi ⟨pf, x2, rfl, k, wf, lf⟩ ⟨rfl, gx⟩
      rw [List.length_map] at hi
      obtain ⟨x, gp, rfl⟩ := get_map gx
      obtain ⟨wx, lx⟩ := hw x (List.mem_of_getElem? gp)
      have e : joinW (ps.take (i + 1)) = x.2 ++ joinW (ps.take i) := by
        unfold joinW
        rw [List.take_add_one, gp, List.foldl_append]; rfl
      refine ⟨_, rfl, _, rfl, ?_⟩
      show rCatA K _ _ _ _
      refine cat_w (wx.kp k) wf (by omega) fun H3 pr k3 hr => ?_
      refine ⟨pr, _, rfl, k.trans k3, by rw [e]; exact hr, by rw [e, List.length_append]; omega⟩
    · rintro σ H1 ⟨pf, x2, rfl, k, wf, lf⟩
      rw [List.length_map, List.take_length] at wf
      exact ⟨_, rfl, q H1 pf k wf⟩
/-! ### pair_word -/
def Bop.len : Bop → Nat → Nat
  | .equal, _ => 1 | .below, _ => 1 | _, n => n
def Bop.ev : Bop → Nat → Nat → Nat → Nat
  | .plus, n, x, y => (x + y) % 2 ^ n
  | .times, n, x, y => (x * y) % 2 ^ n
  | .equal, _, x, y => (decide (x = y)).toNat
  | .below, _, x, y => (decide (x < y)).toNat
  | .and, n, x, y => bwn Bool.and n x y
  | .or, n, x, y => bwn Bool.or n x y
  | .xor, n, x, y => bwn Bool.xor n x y
def spPair (K : PySem.W.Frag) : Sp := fun vs H Q _ => ∃ (b g d : Addr) (n : Nat) (gs : List (Nat × Nat)) (p1 p2 : Addr) (a1 a2 : List Nat) (k : Bop), vs = [.ref b, .str k.nm, .ref p1, .ref p2] ∧ W2 K H b g d n gs p1 p2 a1 a2 ∧ gs.length + 10 * a1.length * a1.length ≤ big ∧
  PWord K H Q b g d n gs (10 * a1.length * a1.length) (k.len a1.length) fun z => k.ev a1.length (wn (nodes n gs) a1 z) (wn (nodes n gs) a2 z)
theorem sq_ge (n : Nat) : 9 * n ≤ 10 * n * n := by
  cases n with
  | zero => exact Nat.le_refl _
  | succ n => exact Nat.le_trans (show 9 * (n + 1) ≤ 10 * (n + 1) * 1 by omega) (Nat.mul_le_mul_left _ (by omega))
abbrev nm_pair_word : List Str := ["builder", "name", "one", "other"]
theorem sc_pair_word : FnScope nm_pair_word ["builder", "name", "one", "other"] (C8.fnScope (st 32)) := C8.fnScope_by (by decide +kernel)
theorem cal_pair_word (T : Top K mg) : C8.Cal P w K mg base (7) "pair_word" (spPair K) [] := by
  refine calD T.d_pair_word sc_pair_word (fun vs H Q E h => ?_) (fun f cdv A outer s0 H vs Q E hr h => ?_)
  ·
    obtain ⟨b, g, d, n, gs, p1, p2, a1, a2, k, rfl, _⟩ := h; rfl
  ·
    obtain ⟨b, g, d, n, gs, p1, p2, a1, a2, k, rfl, hW, hlen, q⟩ := h
    have hu := hu_of hr
    refine ⟨_, (pss_cons (ps_if (pt_cmpR op_eq (pv 1) pe_str (nomark _)) (pss_one (ps_ret (pe_ix ix_tup (C8.pe_c (cal_summed T) hr (by decide) rfl (pa_cons (pv 0) (pa_cons (pv 2) (pa_cons (pv 3) (pa_cons pe_int pa_nil))))) pe_int (fun _ _ => rfl)))) pss_nil)
      (pss_cons (ps_if (pt_cmpR op_eq (pv 1) pe_str (nomark _)) (pss_one (ps_ret (C8.pe_c (cal_product T) hr (by decide) rfl (pa_cons (pv 0) (pa_cons (pv 2) (pa_cons (pv 3) pa_nil)))))) pss_nil)
      (pss_cons (ps_if (pt_cmpR op_eq (pv 1) pe_str (nomark _)) (pss_one (ps_ret (pe_tup (pa_cons (C8.pe_c (cal_is_equal T) hr (by decide) rfl (pa_cons (pv 0) (pa_cons (pv 2) (pa_cons (pv 3) pa_nil)))) pa_nil)))) pss_nil)
      (pss_cons (ps_if (pt_cmpR op_eq (pv 1) pe_str (nomark _)) (pss_one (ps_ret (pe_tup (pa_cons (C8.pe_c (cal_is_below T) hr (by decide) rfl (pa_cons (pv 0) (pa_cons (pv 2) (pa_cons (pv 3) pa_nil)))) pa_nil)))) pss_nil)
      (pss_one (ps_ret (C8.pe_c (cal_bitwise T) hr (by decide) rfl (pa_cons (pv 0) (pa_cons (pv 1) (pa_cons (pv 2) (pa_cons (pv 3) pa_nil))))))))))), ?_⟩
    have hc := sq_ge a1.length
    have bitw : ∀ f, k.bf = some f → k.len a1.length = a1.length → (∀ x y, k.ev a1.length x y = bwn f a1.length x y) → spBitw K [.ref b, .str k.nm, .ref p1, .ref p2] H Q (by assumption) := fun f hf hl hv =>
      ⟨b, g, d, n, gs, p1, p2, a1, a2, k, f, rfl, hf, hW, by omega, fun H' gs' p ws S hp ow el hv' => q H' gs' p ws (S.mono (by omega)) hp ow (el.trans hl.symm) fun z => (hv' z).trans (hv _ _).symm⟩
    cases k with
    | plus =>
      refine ⟨_, rfl, rfl, _, rfl, ifStrT rfl ?_⟩
      refine ⟨_, rfl, _, rfl, _, rfl, b, g, d, n, gs, p1, p2, a1, a2, 0, rfl, hW.at_, hW.w1, hW.w2, hW.k1, hW.k2, hW.len, by unfold Ok; omega, hW.small, by omega, fun H2 gs2 t p ws r S2 ht hp ow el orr hv => ?_⟩
      refine ⟨t, _, 0, _, rfl, rfl, ht, atI_nat (j := 0) rfl, ?_⟩
      refine q H2 gs2 p ws (S2.mono (by omega)) hp ow el fun z => ?_
      have e1 := hv z
      have l := wn_lt (nodes n gs2) z ws
      rw [el] at l
      rw [lm_zero] at e1
      exact add_mod l e1
    | times =>
      refine ⟨_, rfl, rfl, _, rfl, ifStrF (nm_ne (by decide +kernel)) ?_⟩
      refine ⟨_, rfl, rfl, _, rfl, ifStrT rfl ?_⟩
      exact ⟨_, rfl, _, rfl, _, rfl, b, g, d, n, gs, p1, p2, a1, a2, rfl, hW, hlen, q⟩
    | equal =>
      refine ⟨_, rfl, rfl, _, rfl, ifStrF (nm_ne (by decide +kernel)) ?_⟩
      refine ⟨_, rfl, rfl, _, rfl, ifStrF (nm_ne (by decide +kernel)) ?_⟩
      refine ⟨_, rfl, rfl, _, rfl, ifStrT rfl ?_⟩
      refine ⟨_, rfl, _, rfl, _, rfl, b, g, d, n, gs, p1, p2, a1, a2, rfl, hW, by omega, fun H1 gs1 r S o m => ?_⟩
      refine ⟨(by show 1 ≤ sizeLine; decide), fun t nt => ?_⟩
      refine q _ gs1 t [r] ((S.new nt).mono (by omega)) (SqT.of upd_same) (.one o) rfl fun z => ?_
      have e2 : wn (nodes n gs1) [r] z = (lm (nodes n gs1) r z).toNat := by simp [wn]
      rw [e2, m]; rfl
    | below =>
      refine ⟨_, rfl, rfl, _, rfl, ifStrF (nm_ne (by decide +kernel)) ?_⟩
      refine ⟨_, rfl, rfl, _, rfl, ifStrF (nm_ne (by decide +kernel)) ?_⟩
      refine ⟨_, rfl, rfl, _, rfl, ifStrF (nm_ne (by decide +kernel)) ?_⟩
      refine ⟨_, rfl, rfl, _, rfl, ifStrT rfl ?_⟩
      refine ⟨_, rfl, _, rfl, _, rfl, b, g, d, n, gs, p1, p2, a1, a2, rfl, hW, by omega, fun H1 gs1 r S o m => ?_⟩
      refine ⟨(by show 1 ≤ sizeLine; decide), fun t nt => ?_⟩
      refine q _ gs1 t [r] ((S.new nt).mono (by omega)) (SqT.of upd_same) (.one o) rfl fun z => ?_
      have e2 : wn (nodes n gs1) [r] z = (lm (nodes n gs1) r z).toNat := by simp [wn]
      rw [e2, m]; rfl
    | and =>
      refine ⟨_, rfl, rfl, _, rfl, ifStrF (nm_ne (by decide +kernel)) ?_⟩
      refine ⟨_, rfl, rfl, _, rfl, ifStrF (nm_ne (by decide +kernel)) ?_⟩
      refine ⟨_, rfl, rfl, _, rfl, ifStrF (nm_ne (by decide +kernel)) ?_⟩
      refine ⟨_, rfl, rfl, _, rfl, ifStrF (nm_ne (by decide +kernel)) ?_⟩
      exact ⟨_, rfl, _, rfl, _, rfl, _, rfl, bitw _ rfl rfl fun _ _ => rfl⟩
    | or =>
      refine ⟨_, rfl, rfl, _, rfl, ifStrF (nm_ne (by decide +kernel)) ?_⟩
      refine ⟨_, rfl, rfl, _, rfl, ifStrF (nm_ne (by decide +kernel)) ?_⟩
      refine ⟨_, rfl, rfl, _, rfl, ifStrF (nm_ne (by decide +kernel)) ?_⟩
      refine ⟨_, rfl, rfl, _, rfl, ifStrF (nm_ne (by decide +kernel)) ?_⟩
      exact ⟨_, rfl, _, rfl, _, rfl, _, rfl, bitw _ rfl rfl fun _ _ => rfl⟩
    | xor =>
      refine ⟨_, rfl, rfl, _, rfl, ifStrF (nm_ne (by decide +kernel)) ?_⟩
      refine ⟨_, rfl, rfl, _, rfl, ifStrF (nm_ne (by decide +kernel)) ?_⟩
      refine ⟨_, rfl, rfl, _, rfl, ifStrF (nm_ne (by decide +kernel)) ?_⟩
      refine ⟨_, rfl, rfl, _, rfl, ifStrF (nm_ne (by decide +kernel)) ?_⟩
      exact ⟨_, rfl, _, rfl, _, rfl, _, rfl, bitw _ rfl rfl fun _ _ => rfl⟩
end
end K14
set_option maxHeartbeats 200000
/-! expressions: what they say, how they lie -/
namespace K14
open PySem PySem.Spec PyProof.Rows L2
inductive Ex where
  | num (w v : Nat)
  | nm (x : Str)
  | un (minus : Bool) (a : Ex)
  | bin (k : Bop) (a b : Ex)
  | sh (left : Bool) (a : Ex) (k : Nat)
  | ite (c a b : Ex)
  | join (a b : Ex)
  | sl (a : Ex) (hi lo : Nat)
namespace Ex
/-- the width -/
def wd (we : Str → Nat) : Ex → Nat
  | num w _ => w
  | nm x => we x
  | un _ a => a.wd we
  | bin k a _ => k.len (a.wd we)
  | sh _ a _ => a.wd we
  | ite _ a _ => a.wd we
  | join a b => a.wd we + b.wd we
  | sl _ hi lo => hi - lo + 1
/-- fits its names -/
def ok (we : Str → Nat) : Ex → Prop
  | num w v => 1 ≤ w ∧ w ≤ 16 ∧ v < 2 ^ w
  | nm x => 1 ≤ we x ∧ we x ≤ 16
  | un _ a => a.ok we
  | bin _ a b => a.ok we ∧ b.ok we ∧ a.wd we = b.wd we
  | sh _ a k => a.ok we ∧ k ≤ 20
  | ite c a b => c.ok we ∧ a.ok we ∧ b.ok we ∧ c.wd we = 1 ∧ a.wd we = b.wd we
  | join a b => a.ok we ∧ b.ok we ∧ a.wd we + b.wd we ≤ 16
  | sl a hi lo => a.ok we ∧ lo ≤ hi ∧ hi < a.wd we
/-- the number -/
def ev (we env : Str → Nat) : Ex → Nat
  | num _ v => v
  | nm x => env x
  | un m a => if m = true then (2 ^ a.wd we - a.ev we env) % 2 ^ a.wd we else 2 ^ a.wd we - 1 - a.ev we env
  | bin k a b => k.ev (a.wd we) (a.ev we env) (b.ev we env)
  | sh l a k => if l = true then (a.ev we env * 2 ^ k) % 2 ^ a.wd we else a.ev we env / 2 ^ k
  | ite c a b => if c.ev we env = 1 then a.ev we env else b.ev we env
  | join a b => a.ev we env * 2 ^ b.wd we + b.ev we env
  | sl a hi lo => a.ev we env / 2 ^ lo % 2 ^ (hi - lo + 1)
def size : Ex → Nat
  | num _ _ => 1 | nm _ => 1
  | un _ a => a.size + 1 | bin _ a b => a.size + b.size + 1 | sh _ a _ => a.size + 1
  | ite c a b => c.size + a.size + b.size + 1 | join a b => a.size + b.size + 1 | sl a _ _ => a.size + 1
def dep : Ex → Nat
  | num _ _ => 0 | nm _ => 0
  | un _ a => a.dep + 1 | bin _ a b => max a.dep b.dep + 1 | sh _ a _ => a.dep + 1
  | ite c a b => max c.dep (max a.dep b.dep) + 1 | join a b => max a.dep b.dep + 1 | sl a _ _ => a.dep + 1
theorem wd_ok {we : Str → Nat} : ∀ {e : Ex}, e.ok we → 1 ≤ e.wd we ∧ e.wd we ≤ 16
  | num _ _, h => ⟨h.1, h.2.1⟩
  | nm _, h => h
  | un _ a, h => wd_ok (e := a) h
  | bin k a b, h => by
    have := wd_ok (e := a) h.1
    cases k <;> simp [wd, Bop.len] <;> omega
  | sh _ a _, h => wd_ok (e := a) h.1
  | ite _ a _, h => wd_ok (e := a) h.2.1
  | join a b, h => by
    have h1 := wd_ok (e := a) h.1
    have h2 := wd_ok (e := b) h.2.1
    have h3 := h.2.2
    simp only [wd]; omega
  | sl a hi lo, h => by
    have h1 := wd_ok (e := a) h.1
    have h2 := h.2.2
    have h3 := h.2.1
    simp only [wd]; omega
theorem size_pos : ∀ e : Ex, 1 ≤ e.size := fun e => by cases e <;> simp [size]
end Ex
/-- an expression's own objects -/
def ExAt (K : PySem.W.Frag) (H : Hp) : Ex → V → Prop
  | .num w v, x => ∃ p, x = .ref p ∧ SqT K H p [.str "number", .int (w : Int), .int (v : Int)]
  | .nm s, x => ∃ p, x = .ref p ∧ SqT K H p [.str "name", .str s]
  | .un m a, x => ∃ p x1, x = .ref p ∧ SqT K H p [.str (if m = true then "minus" else "not"), x1] ∧ ExAt K H a x1
  | .bin k a b, x => ∃ p x1 x2, x = .ref p ∧ SqT K H p [.str k.nm, x1, x2] ∧ ExAt K H a x1 ∧ ExAt K H b x2
  | .sh l a k, x => ∃ p x1, x = .ref p ∧ SqT K H p [.str (mvNm l), x1, .int (k : Int)] ∧ ExAt K H a x1
  | .ite c a b, x => ∃ p x0 x1 x2, x = .ref p ∧ SqT K H p [.str "if", x0, x1, x2] ∧ ExAt K H c x0 ∧ ExAt K H a x1 ∧ ExAt K H b x2
  | .join a b, x => ∃ p t x1 x2, x = .ref p ∧ SqT K H p [.str "join", .ref t] ∧ SqT K H t [x1, x2] ∧ ExAt K H a x1 ∧ ExAt K H b x2
  | .sl a hi lo, x => ∃ p x1, x = .ref p ∧ SqT K H p [.str "slice", x1, .int (hi : Int), .int (lo : Int)] ∧ ExAt K H a x1
theorem ExAt.kp {K : PySem.W.Frag} {S : List Addr} {H H' : Hp} (k : Kp S H H') : ∀ {e : Ex} {x : V}, ExAt K H e x → ExAt K H' e x
  | .num _ _, _, ⟨p, e, h⟩ => ⟨p, e, k.sqT h⟩
  | .nm _, _, ⟨p, e, h⟩ => ⟨p, e, k.sqT h⟩
  | .un _ a, _, ⟨p, x1, e, h, h1⟩ => ⟨p, x1, e, k.sqT h, ExAt.kp (e := a) k h1⟩
  | .bin _ a b, _, ⟨p, x1, x2, e, h, h1, h2⟩ => ⟨p, x1, x2, e, k.sqT h, ExAt.kp (e := a) k h1, ExAt.kp (e := b) k h2⟩
  | .sh _ a _, _, ⟨p, x1, e, h, h1⟩ => ⟨p, x1, e, k.sqT h, ExAt.kp (e := a) k h1⟩
  | .ite c a b, _, ⟨p, x0, x1, x2, e, h, h0, h1, h2⟩ => ⟨p, x0, x1, x2, e, k.sqT h, ExAt.kp (e := c) k h0, ExAt.kp (e := a) k h1, ExAt.kp (e := b) k h2⟩
  | .join a b, _, ⟨p, t, x1, x2, e, h, ht, h1, h2⟩ => ⟨p, t, x1, x2, e, k.sqT h, k.sqT ht, ExAt.kp (e := a) k h1, ExAt.kp (e := b) k h2⟩
  | .sl a _ _, _, ⟨p, x1, e, h, h1⟩ => ⟨p, x1, e, k.sqT h, ExAt.kp (e := a) k h1⟩
/-- the table of names: each a word -/
structure KnAt (K : PySem.W.Frag) (H : Hp) (kd : Addr) (tab : Str → List Nat) : Prop where
  ex : ∃ kvs, H kd = some (.dK kvs) ∧ kvs.length ≤ 1000 ∧ ∀ x, tab x ≠ [] → ∃ a, valV kvs (Sum.inr x) = some (.ref a) ∧ WAt K H a (tab x)
theorem KnAt.kp {K : PySem.W.Frag} {S : List Addr} {H H' : Hp} {kd : Addr} {tab : Str → List Nat} (x : KnAt K H kd tab) (k : Kp S H H') (h : kd ∉ S) : KnAt K H' kd tab := by
  obtain ⟨⟨kvs, e, hl, f⟩⟩ := x
  exact ⟨⟨kvs, k.at_ _ _ e h, hl, fun y n => let ⟨a, e1, e2⟩ := f y n; ⟨a, e1, e2.kp k⟩⟩⟩
/-- what the names' words say -/
def envW (n : Nat) (gs : List (Nat × Nat)) (tab : Str → List Nat) (z : Bits) : Str → Nat := fun x => wn (nodes n gs) (tab x) z
theorem envW_pre {n : Nat} {gs gs' : List (Nat × Nat)} {tab : Str → List Nat} (o : ∀ x, WOk n gs (tab x)) (p : gs <+: gs') (z : Bits) : envW n gs' tab z = envW n gs tab z := by
  funext x
  exact congrFun (WOk.num p (o x)) z
def twd (tab : Str → List Nat) : Str → Nat := fun x => (tab x).length
theorem ifBT {A B : Prop} {b : Bool} (h : b = true) (a : A) : if b = true then A else B := by rw [if_pos h]; exact a
theorem ifBF {A B : Prop} {b : Bool} (h : b = false) (x : B) : if b = true then A else B := by rw [h]; exact x
end K14
set_option maxHeartbeats 4000000
/-! expressions into words -/
namespace K14
open PySem PySem.Spec PyProof.Rows L2
section
variable {P : Program} {w : World} {K : PySem.W.Frag} {mg : Str → Option Value} {base : Heap}
/-- the builder beside the table of names -/
structure ExIn (K : PySem.W.Frag) (H : Hp) (b g d : Addr) (n : Nat) (gs : List (Nat × Nat)) (kd : Addr) (tab : Str → List Nat) : Prop where
  at_ : BAt K H b g d n gs
  kn : KnAt K H kd tab
  n1 : kd ≠ g
  n2 : kd ≠ d
  tw : ∀ x, WOk n gs (tab x)
theorem ExIn.step {H H1 : Hp} {b g d kd : Addr} {n c : Nat} {gs gs1 : List (Nat × Nat)} {tab : Str → List Nat} (x : ExIn K H b g d n gs kd tab) (S : BSt K H H1 b g d n gs gs1 c) : ExIn K H1 b g d n gs1 kd tab :=
  ⟨S.at_, x.kn.kp S.kp (not2 x.n1 x.n2), x.n1, x.n2, fun y => (x.tw y).mono S.pre⟩
theorem ExIn.zero {H H1 : Hp} {b g d kd : Addr} {n : Nat} {gs : List (Nat × Nat)} {tab : Str → List Nat} (x : ExIn K H b g d n gs kd tab) (k : Kp [] H H1) : BSt K H H1 b g d n gs gs 0 := (BSt.refl x.at_ 0).kp0 k
def spEx (K : PySem.W.Frag) (dm : Nat) : Sp := fun vs H Q _ => ∃ (b g d : Addr) (n : Nat) (gs : List (Nat × Nat)) (kd : Addr) (ve : V) (e : Ex) (tab : Str → List Nat), vs = [.ref b, ve, .ref kd] ∧ ExIn K H b g d n gs kd tab ∧ ExAt K H e ve ∧ e.ok (twd tab) ∧ e.dep < dm ∧
  gs.length + 2560 * e.size ≤ big ∧ PWord K H Q b g d n gs (2560 * e.size) (e.wd (twd tab)) fun z => e.ev (twd tab) (envW n gs tab z)
theorem Kp.putL {H : Hp} {D : Addr} {l : List V} {o : HO} (e : H D = some (.lst l)) : Kp [D] H (upd H D o) :=
  Kp.refl.putS (List.mem_singleton.mpr rfl) (fun xs z => by rw [e] at z; cases z) (fun o u z => by rw [e] at z; cases z) ⟨_, e⟩
theorem lvE {k d : Nat} (h : k ≤ 8) : k ≤ 8 + d := by omega
theorem cal_expr0 (T : Top K mg) : C8.Cal P w K mg base 8 "expression_word" (spEx K 0) [] := by
  refine calD T.d_expression_word (C8.fnScope_by (N := ["builder", "expression", "known", "name", "word", "other", "part"]) (by decide +kernel)) (fun vs H Q E h => ?_) (fun f cdv A outer s0 H vs Q E hr h => ?_)
  · obtain ⟨b, g, d, n, gs, kd, ve, e, tab, _, _, _, _, h, _⟩ := h; omega
  · obtain ⟨b, g, d, n, gs, kd, ve, e, tab, _, _, _, _, h, _⟩ := h; omega
theorem sq16 {n : Nat} (h : n ≤ 16) : 10 * n * n ≤ 2560 := by
  have := Nat.mul_le_mul h h
  rw [Nat.mul_assoc]; omega
abbrev nm_expression_word : List Str := ["builder", "expression", "known", "name", "word", "other", "part"]
theorem sc_expression_word : FnScope nm_expression_word ["builder", "expression", "known"] (C8.fnScope (st 35)) := C8.fnScope_by (by decide +kernel)
theorem cal_expr_s {d : Nat} (T : Top K mg) (ih : C8.Cal P w K mg base (8+d) "expression_word" (spEx K d) []) : C8.Cal P w K mg base (8+(d+1)) "expression_word" (spEx K (d+1)) [] := by
  refine calD T.d_expression_word sc_expression_word (fun vs H Q E h => ?_) (fun f cdv A outer s0 H vs Q E hr h => ?_)
  ·
    obtain ⟨b, g, dd, n, gs, kd, ve, e, tab, rfl, _⟩ := h; rfl
  ·
    obtain ⟨b, g, dd, n, gs, kd, ve, e, tab, rfl, hI, hE, hok, hd, hlen, q⟩ := h
    have hu := hu_of hr
    refine ⟨_, (pss_cons (ps_set (i := 3) sc_expression_word.nd rfl (Or.inl rfl) (pe_ix ix_tup (pv 1) pe_int (fun _ _ => rfl)))
      (pss_cons (ps_if (pt_cmpR op_eq (pv 3) pe_str (nomark _)) (pss_one (ps_ret (C8.pe_c (cal_number_word T) hr (lvE (by decide)) rfl (pa_cons (pe_ix ix_tup (pv 1) pe_int (fun _ _ => rfl)) (pa_cons (pe_ix ix_tup (pv 1) pe_int (fun _ _ => rfl)) pa_nil))))) pss_nil)
      (pss_cons (ps_if (pt_cmpR op_eq (pv 3) pe_str (nomark _)) (pss_one (ps_ret (pe_callTy call_tuple_of (by rfl) T.f_tuple PyProof.Rows.boot_tuple (pa_cons (pe_dget hu (pv 2) (pe_ix ix_tup (pv 1) pe_int (fun _ _ => rfl)) (fun _ _ => rfl)) pa_nil)))) pss_nil)
      (pss_cons (ps_if (pt_cmpR op_eq (pv 3) pe_str (nomark _)) (pss_one (ps_ret (C8.pe_c (cal_joined_word T) hr (lvE (by decide)) rfl (pa_cons (pe_lc (own := [("part", 6)]) (g := (gName 6)) (tt := tYes)  rfl sc_expression_word.nd (pi_tup (pe_ix ix_tup (pv 1) pe_int (fun _ _ => rfl))) (blkOk_by (own := [("part", 6)]) (N := nm_expression_word) (sc := C8.fnScope (st 35)) (by decide +kernel)) (fun _ _ _ _ _ => (pg_name (i := 6) sc_expression_word.nd rfl (Or.inl rfl))) (fun _ _ _ _ _ => pts_nil) (fun _ _ _ _ _ => (C8.pe_c ih hr (Nat.le_refl _) rfl (pa_cons (pv 0) (pa_cons (pv 6) (pa_cons (pv 2) pa_nil)))))) pa_nil)))) pss_nil)
      (pss_cons (ps_set (i := 4) sc_expression_word.nd rfl (Or.inl rfl) (C8.pe_c ih hr (Nat.le_refl _) rfl (pa_cons (pv 0) (pa_cons (pe_ix ix_tup (pv 1) pe_int (fun _ _ => rfl)) (pa_cons (pv 2) pa_nil)))))
      (pss_cons (ps_if (pt_cmpR op_eq (pv 3) pe_str (nomark _)) (pss_one (ps_ret (C8.pe_c (cal_negated T) hr (lvE (by decide)) rfl (pa_cons (pv 4) pa_nil)))) pss_nil)
      (pss_cons (ps_if (pt_cmpR op_eq (pv 3) pe_str (nomark _)) (pss_one (ps_ret (C8.pe_c (cal_difference T) hr (lvE (by decide)) rfl (pa_cons (pv 0) (pa_cons (C8.pe_c (cal_number_word T) hr (lvE (by decide)) rfl (pa_cons (pe_callB call_len_seq (by rfl) T.f_len PySem.boot_len (pa_cons (pv 4) pa_nil)) (pa_cons pe_int pa_nil))) (pa_cons (pv 4) pa_nil)))))) pss_nil)
      (pss_cons (ps_if (pt_cmpR op_in_seq (pv 3) (pe_tup (pa_cons pe_str (pa_cons pe_str pa_nil))) (by rfl)) (pss_one (ps_ret (C8.pe_c (cal_moved_word T) hr (lvE (by decide)) rfl (pa_cons (pv 3) (pa_cons (pv 4) (pa_cons (pe_ix ix_tup (pv 1) pe_int (fun _ _ => rfl)) pa_nil)))))) pss_nil)
      (pss_cons (ps_if (pt_cmpR op_eq (pv 3) pe_str (nomark _)) (pss_one (ps_ret (pe_slice sl_tupA (pv 4) (po_some (pe_ix ix_tup (pv 1) pe_int (fun _ _ => rfl))) (po_some (pe_op op_add (pe_ix ix_tup (pv 1) pe_int (fun _ _ => rfl)) pe_int))))) pss_nil)
      (pss_cons (ps_set (i := 5) sc_expression_word.nd rfl (Or.inl rfl) (C8.pe_c ih hr (Nat.le_refl _) rfl (pa_cons (pv 0) (pa_cons (pe_ix ix_tup (pv 1) pe_int (fun _ _ => rfl)) (pa_cons (pv 2) pa_nil)))))
      (pss_cons (ps_if (pt_cmpR op_eq (pv 3) pe_str (nomark _)) (pss_one (ps_ret (C8.pe_c (cal_chosen T) hr (lvE (by decide)) rfl (pa_cons (pv 0) (pa_cons (pe_ix ix_tup (pv 4) pe_int (fun _ _ => rfl)) (pa_cons (pv 5) (pa_cons (C8.pe_c ih hr (Nat.le_refl _) rfl (pa_cons (pv 0) (pa_cons (pe_ix ix_tup (pv 1) pe_int (fun _ _ => rfl)) (pa_cons (pv 2) pa_nil)))) pa_nil))))))) pss_nil)
      (pss_one (ps_ret (C8.pe_c (cal_pair_word T) hr (lvE (by decide)) rfl (pa_cons (pv 0) (pa_cons (pv 3) (pa_cons (pv 4) (pa_cons (pv 5) pa_nil)))))))))))))))))), ?_⟩
    cases e with
    | num wd v =>
      obtain ⟨p, rfl, hp⟩ := hE
      refine ⟨_, rfl, _, _, _, _, rfl, rfl, hp, atI_nat (j := 0) rfl, ?_⟩
      refine ⟨_, rfl, rfl, _, rfl, ifStrT rfl ?_⟩
      refine ⟨_, rfl, _, _, _, _, rfl, rfl, hp, atI_nat (j := 1) rfl, _, rfl, _, _, _, _, rfl, rfl, hp, atI_nat (j := 2) rfl, wd, v, rfl, by have := hok.2.1; omega, fun H1 a k1 ha => ?_⟩
      refine q H1 gs a _ ((hI.zero k1).mono (by omega)) ha (nb_ok _ _ _ _) (nb_len _ _) fun z => ?_
      rw [wn_nb, Nat.mod_eq_of_lt hok.2.2]; rfl
    | nm x =>
      obtain ⟨p, rfl, hp⟩ := hE
      obtain ⟨⟨kvs, eK, hl, hf⟩⟩ := hI.kn
      have hx : tab x ≠ [] := fun e => by have := hok.1; unfold twd at this; rw [e] at this; exact absurd this (by decide)
      obtain ⟨a, e1, wa⟩ := hf x hx
      refine ⟨_, rfl, _, _, _, _, rfl, rfl, hp, atI_nat (j := 0) rfl, ?_⟩
      refine ⟨_, rfl, rfl, _, rfl, ifStrF (nm_ne (by decide +kernel)) ?_⟩
      refine ⟨_, rfl, rfl, _, rfl, ifStrT rfl ?_⟩
      refine ⟨_, rfl, _, rfl, _, _, _, _, rfl, rfl, hp, atI_nat (j := 1) rfl, _, _, rfl, .inl ⟨kvs, Sum.inr x, .inl eK, rfl, e1.symm⟩, _, _, rfl, .inr ⟨wa, ?_⟩⟩
      exact q H gs a _ ((hI.zero Kp.refl).mono (by omega)) wa (hI.tw x) rfl fun z => rfl
    | join ea eb =>
      obtain ⟨p, t, x1, x2, rfl, hp, ht, h1, h2⟩ := hE
      have ha := ea.size_pos
      obtain ⟨d1, d2⟩ := Nat.max_lt.mp (Nat.lt_of_succ_lt_succ hd)
      simp only [Ex.size] at hlen q
      have wa := Ex.wd_ok hok.1
      have wb := Ex.wd_ok hok.2.1
      refine ⟨_, rfl, _, _, _, _, rfl, rfl, hp, atI_nat (j := 0) rfl, ?_⟩
      refine ⟨_, rfl, rfl, _, rfl, ifStrF (nm_ne (by decide +kernel)) ?_⟩
      refine ⟨_, rfl, rfl, _, rfl, ifStrF (nm_ne (by decide +kernel)) ?_⟩
      refine ⟨_, rfl, rfl, _, rfl, ifStrT rfl ?_⟩
      refine ⟨_, rfl, _, _, _, _, rfl, rfl, hp, atI_nat (j := 1) rfl, _, rfl, ⟨_, ht⟩, fun D nD => ?_⟩
      have nd := hI.at_.ne nD
      refine lc_it walk_tup (fun i H' => ∃ (gs' : List (Nat × Nat)) (ps : List (Addr × List Nat)), BSt K H H' b g dd n gs gs' (if i = 0 then 0 else if i = 1 then 2560 * ea.size else 2560 * ea.size + 2560 * eb.size) ∧ H' D = some (.lst (ps.map fun x => .ref x.1)) ∧ (∀ x ∈ ps, WAt K H' x.1 x.2 ∧ x.2.length ≤ 16) ∧
          (i = 0 → ps = []) ∧ (i = 1 → ∃ p1 w1, ps = [(p1, w1)] ∧ WOk n gs' w1 ∧ w1.length = ea.wd (twd tab) ∧ ∀ z, wn (nodes n gs') w1 z = ea.ev (twd tab) (envW n gs tab z)) ∧
          (i = 2 → ∃ p1 w1 p2 w2, ps = [(p1, w1), (p2, w2)] ∧ WOk n gs' w1 ∧ w1.length = ea.wd (twd tab) ∧ (∀ z, wn (nodes n gs') w1 z = ea.ev (twd tab) (envW n gs tab z)) ∧ WOk n gs' w2 ∧ w2.length = eb.wd (twd tab) ∧ (∀ z, wn (nodes n gs') w2 z = eb.ev (twd tab) (envW n gs tab z))))
        ⟨gs, [], (BSt.refl hI.at_ 0).new nD, upd_same, (fun _ m => nomatch m), (fun _ => rfl), (fun z => by omega), (fun z => by omega)⟩ (fun j H' _ ⟨gs', ps, S, _⟩ => S.kp.sqT ht) ?_ ?_
      · rintro i x H1 H2 hi ⟨gs1, ps, S1, eD, hps, c0, c1, c2⟩ ⟨rfl, gx⟩
        have I1 := hI.step S1
        have b1 := S1.len
        have hi' : i = 0 ∨ i = 1 := by have : i < 2 := hi; omega
        rcases hi' with rfl | rfl
        · obtain rfl := c0 rfl
          have ex : x = x1 := by
            have g : [x1, x2][0]? = some x := gx
            exact (Option.some.inj g).symm
          subst ex
          refine ⟨rfl, ?_⟩
          refine ⟨_, rfl, _, rfl, _, rfl, b, g, dd, n, gs1, kd, _, ea, tab, rfl, I1, h1.kp S1.kp, hok.1, d1, by simp at b1; omega, fun H3 gs3 p3 w3 S3 wp3 ow3 el3 hv3 => ?_⟩
          have eD3 := S3.keepL eD nd
          refine ⟨_, eD3, small _ (by show 0 ≤ _; omega), gs3, [(p3, w3)], ((S1.trans S3).put hI.at_ nD eD3).mono (by simp), by rw [upd_same]; rfl, ?_, (fun z => by omega), fun _ => ⟨p3, w3, rfl, ow3, el3, fun z => by rw [hv3 z]; dsimp only; rw [envW_pre hI.tw S1.pre]⟩, fun z => by omega⟩
          intro y hy
          rw [List.mem_singleton.mp hy]
          refine ⟨?_, by show w3.length ≤ 16; omega⟩
          exact (Kp.putL eD3).sqT wp3
        · obtain ⟨p1, w1, rfl, ow1, el1, hv1⟩ := c1 rfl
          have ex : x = x2 := by
            have g : [x1, x2][1]? = some x := gx
            exact (Option.some.inj g).symm
          subst ex
          simp at b1
          refine ⟨rfl, ?_⟩
          refine ⟨_, rfl, _, rfl, _, rfl, b, g, dd, n, gs1, kd, _, eb, tab, rfl, I1, h2.kp S1.kp, hok.2.1, d2, by omega, fun H3 gs3 p3 w3 S3 wp3 ow3 el3 hv3 => ?_⟩
          have eD3 := S3.keepL eD nd
          have S3' := Kp.putL (o := .lst ([.ref p1] ++ [.ref p3])) eD3
          have wp1 := (hps (p1, w1) (by simp)).1
          refine ⟨_, eD3, small _ (by show 1 ≤ _; omega), gs3, [(p1, w1), (p3, w3)], ((S1.trans S3).put hI.at_ nD eD3).mono (by simp), by rw [upd_same]; rfl, ?_, (fun z => by omega), (fun z => by omega), fun _ => ⟨p1, w1, p3, w3, rfl, ow1.mono S3.pre, el1, (fun z => by rw [congrFun (ow1.num S3.pre) z, hv1 z]), ow3, el3, fun z => by rw [hv3 z]; dsimp only; rw [envW_pre hI.tw S1.pre]⟩⟩
          intro y hy
          rcases List.mem_cons.mp hy with rfl | hy
          · exact ⟨S3'.sqT (S3.kp.sqT wp1), by show w1.length ≤ 16; omega⟩
          · rw [List.mem_singleton.mp hy]
            exact ⟨S3'.sqT wp3, by show w3.length ≤ 16; omega⟩
      · rintro H1 ⟨gs1, ps, S1, eD, hps, c0, c1, c2⟩
        obtain ⟨p1, w1, p2, w2, rfl, ow1, el1, hv1, ow2, el2, hv2⟩ := c2 rfl
        have S2 : BSt K H H1 b g dd n gs gs1 (2560 * ea.size + 2560 * eb.size) := S1
        refine ⟨_, _, rfl, SqL.of eD, (fun y hy => ⟨(hps y hy).1, by have := (hps y hy).2; omega⟩), (by show 2 ≤ 1000; decide), fun H3 p3 k3 hp3 => ?_⟩
        have ej : joinW [(p1, w1), (p2, w2)] = w2 ++ w1 := by simp [joinW]
        rw [ej] at hp3
        refine q H3 gs1 p3 (w2 ++ w1) ((S2.kp0 k3).mono (by omega)) hp3 (ow2.app ow1) (by rw [List.length_append, el1, el2]; simp only [Ex.wd]; omega) fun z => ?_
        rw [wn_app, hv1 z, hv2 z, el2]
        simp only [Ex.ev]
        rw [Nat.mul_comm (2 ^ _)]; omega
    | un m ea =>
      obtain ⟨p, x1, rfl, hp, h1⟩ := hE
      have d1 := Nat.lt_of_succ_lt_succ hd
      simp only [Ex.size] at hlen q
      have wa := Ex.wd_ok (e := ea) hok
      cases m with
      | false =>
        refine ⟨_, rfl, _, _, _, _, rfl, rfl, hp, atI_nat (j := 0) rfl, ?_⟩
        refine ⟨_, rfl, rfl, _, rfl, ifStrF (nm_ne (by decide +kernel)) ?_⟩
        refine ⟨_, rfl, rfl, _, rfl, ifStrF (nm_ne (by decide +kernel)) ?_⟩
        refine ⟨_, rfl, rfl, _, rfl, ifStrF (nm_ne (by decide +kernel)) ?_⟩
        refine ⟨_, rfl, _, rfl, _, _, _, _, rfl, rfl, hp, atI_nat (j := 1) rfl, _, rfl, b, g, dd, n, gs, kd, _, ea, tab, rfl, hI, h1, hok, d1, by omega, fun H1 gs1 p1 w1 S1 wp1 ow1 el1 hv1 => ?_⟩
        have b1 := S1.len
        refine ⟨_, rfl, rfl, _, rfl, ifStrT rfl ?_⟩
        refine ⟨_, rfl, p1, w1, rfl, wp1, by omega, fun H2 p2 k2 hp2 => ?_⟩
        refine q H2 gs1 p2 _ ((S1.kp0 k2).mono (by omega)) hp2 ow1.neg (by rw [List.length_map, el1]; rfl) fun z => ?_
        have e2 := wn_neg (nodes n gs1) z w1
        rw [hv1 z, el1] at e2
        simp only [Ex.ev, Bool.false_eq_true, if_false]
        dsimp only at e2
        generalize Ex.ev (twd tab) (envW n gs tab z) ea = y at e2 ⊢
        generalize 2 ^ Ex.wd (twd tab) ea = y2 at e2 ⊢
        omega
      | true =>
        refine ⟨_, rfl, _, _, _, _, rfl, rfl, hp, atI_nat (j := 0) rfl, ?_⟩
        refine ⟨_, rfl, rfl, _, rfl, ifStrF (nm_ne (by decide +kernel)) ?_⟩
        refine ⟨_, rfl, rfl, _, rfl, ifStrF (nm_ne (by decide +kernel)) ?_⟩
        refine ⟨_, rfl, rfl, _, rfl, ifStrF (nm_ne (by decide +kernel)) ?_⟩
        refine ⟨_, rfl, _, rfl, _, _, _, _, rfl, rfl, hp, atI_nat (j := 1) rfl, _, rfl, b, g, dd, n, gs, kd, _, ea, tab, rfl, hI, h1, hok, d1, by omega, fun H1 gs1 p1 w1 S1 wp1 ow1 el1 hv1 => ?_⟩
        have b1 := S1.len
        refine ⟨_, rfl, rfl, _, rfl, ifStrF (nm_ne (by decide +kernel)) ?_⟩
        refine ⟨_, rfl, rfl, _, rfl, ifStrT rfl ?_⟩
        refine ⟨_, rfl, _, rfl, _, _, rfl, .inr wp1, _, 0, rfl, by rw [List.length_map]; omega, fun H2 p2 k2 hp2 => ?_⟩
        rw [List.length_map] at hp2
        have S2 := S1.kp0 k2
        refine ⟨_, rfl, b, g, dd, n, gs1, p2, p1, nb w1.length 0, w1, rfl, ⟨S2.at_, hp2, wp1.kp k2, nb_ok _ _ _ _, ow1, nb_len _ _, by rw [nb_len]; omega⟩, by rw [nb_len]; omega, fun H3 gs3 p3 w3 S3 wp3 ow3 el3 hv3 => ?_⟩
        rw [nb_len] at S3 el3 hv3
        refine q H3 gs3 p3 w3 ((S2.trans S3).mono (by omega)) wp3 ow3 (by rw [el3, el1]; rfl) fun z => ?_
        rw [hv3 z]
        dsimp only
        rw [wn_nb, hv1 z, el1]
        simp [Ex.ev]
    | bin k ea eb =>
      obtain ⟨p, x1, x2, rfl, hp, h1, h2⟩ := hE
      obtain ⟨d1, d2⟩ := Nat.max_lt.mp (Nat.lt_of_succ_lt_succ hd)
      simp only [Ex.size] at hlen q
      have wa := Ex.wd_ok hok.1
      have wb := Ex.wd_ok hok.2.1
      refine ⟨_, rfl, _, _, _, _, rfl, rfl, hp, atI_nat (j := 0) rfl, ?_⟩
      refine ⟨_, rfl, rfl, _, rfl, ifStrF (nm_ne (by cases k <;> decide +kernel)) ?_⟩
      refine ⟨_, rfl, rfl, _, rfl, ifStrF (nm_ne (by cases k <;> decide +kernel)) ?_⟩
      refine ⟨_, rfl, rfl, _, rfl, ifStrF (nm_ne (by cases k <;> decide +kernel)) ?_⟩
      refine ⟨_, rfl, _, rfl, _, _, _, _, rfl, rfl, hp, atI_nat (j := 1) rfl, _, rfl, b, g, dd, n, gs, kd, _, ea, tab, rfl, hI, h1, hok.1, d1, by omega, fun H1 gs1 p1 w1 S1 wp1 ow1 el1 hv1 => ?_⟩
      have b1 := S1.len
      refine ⟨_, rfl, rfl, _, rfl, ifStrF (nm_ne (by cases k <;> decide +kernel)) ?_⟩
      refine ⟨_, rfl, rfl, _, rfl, ifStrF (nm_ne (by cases k <;> decide +kernel)) ?_⟩
      refine ⟨_, rfl, (by show 2 ≤ sizeLine; decide), fun t nt => ⟨_, _, rfl, .inr (SqT.of upd_same), rfl, rfl, _, rfl, ifBF (by cases k <;> decide +kernel) ?_⟩⟩
      refine ⟨_, rfl, rfl, _, rfl, ifStrF (nm_ne (by cases k <;> decide +kernel)) ?_⟩
      have S2 := S1.new (o := .tup [.str "left", .str "right"]) nt
      refine ⟨_, rfl, _, rfl, _, _, _, _, rfl, rfl, (S2.kp.sqT hp), atI_nat (j := 2) rfl, _, rfl, b, g, dd, n, gs1, kd, _, eb, tab, rfl, (hI.step S2), (h2.kp S2.kp), hok.2.1, d2, by omega, fun H3 gs3 p3 w3 S3 wp3 ow3 el3 hv3 => ?_⟩
      have b3 := S3.len
      refine ⟨_, rfl, rfl, _, rfl, ifStrF (nm_ne (by cases k <;> decide +kernel)) ?_⟩
      have S4 := S2.trans S3
      have hq := sq16 (n := w1.length) (by omega)
      refine ⟨_, rfl, _, rfl, _, rfl, _, rfl, b, g, dd, n, gs3, p1, p3, w1, w3, k, rfl, ⟨S4.at_, S3.kp.sqT ((Kp.refl.new nt (S := [])).sqT wp1), wp3, ow1.mono S3.pre, ow3, by rw [el1, el3]; exact hok.2.2, by omega⟩, by omega, fun H5 gs5 p5 w5 S5 wp5 ow5 el5 hv5 => ?_⟩
      refine q H5 gs5 p5 w5 ((S4.trans S5).mono (by omega)) wp5 ow5 (by rw [el5, el1]; rfl) fun z => ?_
      rw [hv5 z]
      dsimp only
      rw [ow1.num S3.pre, hv1 z, hv3 z, el1]
      dsimp only
      rw [envW_pre hI.tw S1.pre]
      rfl
    | sh l ea k =>
      obtain ⟨p, x1, rfl, hp, h1⟩ := hE
      have d1 := Nat.lt_of_succ_lt_succ hd
      simp only [Ex.size] at hlen q
      have wa := Ex.wd_ok (e := ea) hok.1
      refine ⟨_, rfl, _, _, _, _, rfl, rfl, hp, atI_nat (j := 0) rfl, ?_⟩
      refine ⟨_, rfl, rfl, _, rfl, ifStrF (nm_ne (by cases l <;> decide +kernel)) ?_⟩
      refine ⟨_, rfl, rfl, _, rfl, ifStrF (nm_ne (by cases l <;> decide +kernel)) ?_⟩
      refine ⟨_, rfl, rfl, _, rfl, ifStrF (nm_ne (by cases l <;> decide +kernel)) ?_⟩
      refine ⟨_, rfl, _, rfl, _, _, _, _, rfl, rfl, hp, atI_nat (j := 1) rfl, _, rfl, b, g, dd, n, gs, kd, _, ea, tab, rfl, hI, h1, hok.1, d1, by omega, fun H1 gs1 p1 w1 S1 wp1 ow1 el1 hv1 => ?_⟩
      have b1 := S1.len
      refine ⟨_, rfl, rfl, _, rfl, ifStrF (nm_ne (by cases l <;> decide +kernel)) ?_⟩
      refine ⟨_, rfl, rfl, _, rfl, ifStrF (nm_ne (by cases l <;> decide +kernel)) ?_⟩
      refine ⟨_, rfl, (by show 2 ≤ sizeLine; decide), fun t nt => ⟨_, _, rfl, .inr (SqT.of upd_same), rfl, rfl, _, rfl, ifBT (by cases l <;> decide +kernel) ?_⟩⟩
      have S2 := S1.new (o := .tup [.str "left", .str "right"]) nt
      refine ⟨_, rfl, _, rfl, _, rfl, _, _, _, _, rfl, rfl, S2.kp.sqT hp, atI_nat (j := 2) rfl, l, p1, w1, k, rfl, (Kp.refl.new nt (S := [])).sqT wp1, by omega, fun H3 p3 k3 hp3 => ?_⟩
      refine q H3 gs1 p3 _ ((S2.kp0 k3).mono (by omega)) hp3 (movedW_ok ow1 l k) (by rw [movedW_len, el1]; rfl) fun z => ?_
      cases l with
      | true => rw [wn_left, hv1 z, el1]; simp [Ex.ev]
      | false => rw [wn_right, hv1 z]; simp [Ex.ev]
    | ite ec ea eb =>
      obtain ⟨p, x0, x1, x2, rfl, hp, h0, h1, h2⟩ := hE
      obtain ⟨d0, d12⟩ := Nat.max_lt.mp (Nat.lt_of_succ_lt_succ hd)
      obtain ⟨d1, d2⟩ := Nat.max_lt.mp d12
      simp only [Ex.size] at hlen q
      have wa := Ex.wd_ok hok.2.1
      have wb := Ex.wd_ok hok.2.2.1
      refine ⟨_, rfl, _, _, _, _, rfl, rfl, hp, atI_nat (j := 0) rfl, ?_⟩
      refine ⟨_, rfl, rfl, _, rfl, ifStrF (nm_ne (by decide +kernel)) ?_⟩
      refine ⟨_, rfl, rfl, _, rfl, ifStrF (nm_ne (by decide +kernel)) ?_⟩
      refine ⟨_, rfl, rfl, _, rfl, ifStrF (nm_ne (by decide +kernel)) ?_⟩
      refine ⟨_, rfl, _, rfl, _, _, _, _, rfl, rfl, hp, atI_nat (j := 1) rfl, _, rfl, b, g, dd, n, gs, kd, _, ec, tab, rfl, hI, h0, hok.1, d0, by omega, fun H1 gs1 p1 w1 S1 wp1 ow1 el1 hv1 => ?_⟩
      have b1 := S1.len
      refine ⟨_, rfl, rfl, _, rfl, ifStrF (nm_ne (by decide +kernel)) ?_⟩
      refine ⟨_, rfl, rfl, _, rfl, ifStrF (nm_ne (by decide +kernel)) ?_⟩
      refine ⟨_, rfl, (by show 2 ≤ sizeLine; decide), fun t nt => ⟨_, _, rfl, .inr (SqT.of upd_same), rfl, rfl, _, rfl, ifBF (by decide +kernel) ?_⟩⟩
      refine ⟨_, rfl, rfl, _, rfl, ifStrF (nm_ne (by decide +kernel)) ?_⟩
      have S2 := S1.new (o := .tup [.str "left", .str "right"]) nt
      refine ⟨_, rfl, _, rfl, _, _, _, _, rfl, rfl, (S2.kp.sqT hp), atI_nat (j := 2) rfl, _, rfl, b, g, dd, n, gs1, kd, _, ea, tab, rfl, (hI.step S2), (h1.kp S2.kp), hok.2.1, d1, by omega, fun H3 gs3 p3 w3 S3 wp3 ow3 el3 hv3 => ?_⟩
      have b3 := S3.len
      refine ⟨_, rfl, rfl, _, rfl, ifStrT rfl ?_⟩
      have S4 := S2.trans S3
      have wp1' : WAt K H3 p1 w1 := S3.kp.sqT ((Kp.refl.new nt (S := [])).sqT wp1)
      have l1 : w1.length = 1 := el1.trans hok.2.2.2.1
      obtain ⟨r, rfl⟩ : ∃ r, w1 = [r] := by
        cases w1 with
        | nil => cases l1
        | cons r t => cases t with
          | nil => exact ⟨r, rfl⟩
          | cons _ _ => cases l1
      have orr : Ok n gs1 r := ow1 r (by simp)
      refine ⟨_, rfl, _, rfl, _, _, _, _, rfl, rfl, wp1', atI_nat (j := 0) rfl, _, rfl, _, rfl, _, rfl, _, _, _, _, rfl, rfl, (S4.kp.sqT hp), atI_nat (j := 3) rfl, _, rfl, b, g, dd, n, gs3, kd, _, eb, tab, rfl, ((hI.step S2).step S3), (h2.kp S4.kp), hok.2.2.1, d2, by omega, fun H5 gs5 p5 w5 S5 wp5 ow5 el5 hv5 => ?_⟩
      have b5 := S5.len
      have S6 := S4.trans S5
      refine ⟨b, g, dd, n, gs5, r, p3, p5, w3, w5, rfl, orr.mono (S3.pre.trans S5.pre), ⟨S6.at_, S5.kp.sqT wp3, wp5, ow3.mono S5.pre, ow5, by rw [el3, el5]; exact hok.2.2.2.2, by omega⟩, by omega, fun H7 gs7 p7 w7 S7 wp7 ow7 el7 hv7 => ?_⟩
      refine q H7 gs7 p7 w7 ((S6.trans S7).mono (by omega)) wp7 ow7 (by rw [el7, el3]; rfl) fun z => ?_
      rw [hv7 z]
      dsimp only
      have e1 : wn (nodes n gs1) [r] z = (lm (nodes n gs1) r z).toNat := by simp [wn]
      rw [orr.lm (S3.pre.trans S5.pre), ow3.num S5.pre, hv3 z, hv5 z]
      dsimp only
      rw [envW_pre (fun x => (hI.tw x).mono S1.pre) S3.pre, envW_pre hI.tw S1.pre]
      simp only [Ex.ev]
      have e2 : (lm (nodes n gs1) r z).toNat = Ex.ev (twd tab) (envW n gs tab z) ec := e1.symm.trans (hv1 z)
      rw [← e2]
      cases lm (nodes n gs1) r z <;> simp
    | sl ea hi lo =>
      obtain ⟨p, x1, rfl, hp, h1⟩ := hE
      have d1 := Nat.lt_of_succ_lt_succ hd
      simp only [Ex.size] at hlen q
      have wa := Ex.wd_ok (e := ea) hok.1
      have hk1 := hok.2.1
      have hk2 := hok.2.2
      refine ⟨_, rfl, _, _, _, _, rfl, rfl, hp, atI_nat (j := 0) rfl, ?_⟩
      refine ⟨_, rfl, rfl, _, rfl, ifStrF (nm_ne (by decide +kernel)) ?_⟩
      refine ⟨_, rfl, rfl, _, rfl, ifStrF (nm_ne (by decide +kernel)) ?_⟩
      refine ⟨_, rfl, rfl, _, rfl, ifStrF (nm_ne (by decide +kernel)) ?_⟩
      refine ⟨_, rfl, _, rfl, _, _, _, _, rfl, rfl, hp, atI_nat (j := 1) rfl, _, rfl, b, g, dd, n, gs, kd, _, ea, tab, rfl, hI, h1, hok.1, d1, by omega, fun H1 gs1 p1 w1 S1 wp1 ow1 el1 hv1 => ?_⟩
      have b1 := S1.len
      refine ⟨_, rfl, rfl, _, rfl, ifStrF (nm_ne (by decide +kernel)) ?_⟩
      refine ⟨_, rfl, rfl, _, rfl, ifStrF (nm_ne (by decide +kernel)) ?_⟩
      refine ⟨_, rfl, (by show 2 ≤ sizeLine; decide), fun t nt => ⟨_, _, rfl, .inr (SqT.of upd_same), rfl, rfl, _, rfl, ifBF (by decide +kernel) ?_⟩⟩
      refine ⟨_, rfl, rfl, _, rfl, ifStrT rfl ?_⟩
      have S2 := S1.new (o := .tup [.str "left", .str "right"]) nt
      refine ⟨_, rfl, _, rfl, _, _, _, _, rfl, rfl, S2.kp.sqT hp, atI_nat (j := 3) rfl, _, rfl, _, rfl, _, _, _, _, rfl, rfl, S2.kp.sqT hp, atI_nat (j := 2) rfl, _, _, rfl, rfl, _, rfl, ?_⟩
      have wp2 : WAt K (upd H1 t (.tup [.str "left", .str "right"])) p1 w1 := (Kp.refl.new nt (S := [])).sqT wp1
      refine slW lo (hi + 1) wp2 (by rw [HT.sIx_nat]; omega) (by rw [show ((hi : Int) + 1) = ((hi + 1 : Nat) : Int) from rfl, HT.sIx_nat]; omega) fun H3 p3 k3 hp3 => ?_
      refine q H3 gs1 p3 _ ((S2.kp0 k3).mono (by omega)) hp3 ((ow1.drop lo).take _) (by rw [List.length_take, List.length_drop]; simp only [Ex.wd]; omega) fun z => ?_
      rw [wn_slice _ _ _ hk1 (by omega), hv1 z]
      rfl
end
end K14
set_option maxHeartbeats 200000
/-! a module's items: what they say, how they lie -/
namespace K14
open PySem PySem.Spec PyProof.Rows L2
def updS {α : Type} (f : Str → α) (x : Str) (v : α) : Str → α := fun y => if y = x then v else f y
theorem updS_same {α : Type} (f : Str → α) (x : Str) (v : α) : updS f x v x = v := if_pos rfl
theorem updS_ne {α : Type} (f : Str → α) {x y : Str} (v : α) (h : y ≠ x) : updS f x v y = f y := if_neg h
inductive It0 where
  | inp (x : Str) (w : Nat)
  | reg (x : Str) (w r : Nat)
  | sig (out : Bool) (x : Str) (w : Nat) (e : Ex)
  | nxt (x : Str) (e : Ex)
namespace It0
def kd : It0 → Str
  | inp _ _ => "input" | reg _ _ _ => "reg" | sig o _ _ _ => if o = true then "output" else "wire" | nxt _ _ => "next"
def nm : It0 → Str
  | inp x _ => x | reg x _ _ => x | sig _ x _ _ => x | nxt x _ => x
def wd : It0 → Nat
  | inp _ w => w | reg _ w _ => w | sig _ _ w _ => w | nxt _ _ => 0
def size : It0 → Nat
  | sig _ _ _ e => e.size | nxt _ e => e.size | _ => 0
def isIn : It0 → Bool | inp _ _ => true | _ => false
def isReg : It0 → Bool | reg _ _ _ => true | _ => false
/-- names a word: all but a register's next -/
def named : It0 → Bool | nxt _ _ => false | _ => true
end It0
/-- an item's tuple, behind its kind and its name -/
def ItRest (K : PySem.W.Frag) (H : Hp) : It0 → List V → Prop
  | .inp _ w, xs => xs = [.int (w : Int)]
  | .reg _ w r, xs => xs = [.int (w : Int), .int (r : Int)]
  | .sig _ _ w e, xs => ∃ ve, xs = [.int (w : Int), ve] ∧ ExAt K H e ve
  | .nxt _ e, xs => ∃ ve, xs = [ve] ∧ ExAt K H e ve
def ItAt (K : PySem.W.Frag) (H : Hp) (it : It0) (x : V) : Prop := ∃ p xs, x = .ref p ∧ SqT K H p (.str it.kd :: .str it.nm :: xs) ∧ ItRest K H it xs
theorem ItRest.kp {K : PySem.W.Frag} {S : List Addr} {H H' : Hp} (k : Kp S H H') {it : It0} {xs : List V} (h : ItRest K H it xs) : ItRest K H' it xs := by
  cases it with
  | inp x w => exact h
  | reg x w r => exact h
  | sig o x w e => obtain ⟨ve, e1, e2⟩ := h; exact ⟨ve, e1, e2.kp k⟩
  | nxt x e => obtain ⟨ve, e1, e2⟩ := h; exact ⟨ve, e1, e2.kp k⟩
theorem ItAt.kp {K : PySem.W.Frag} {S : List Addr} {H H' : Hp} (k : Kp S H H') {it : It0} {x : V} (h : ItAt K H it x) : ItAt K H' it x := by
  obtain ⟨p, xs, e, h1, h2⟩ := h
  exact ⟨p, xs, e, k.sqT h1, h2.kp k⟩
/-- the items' tuple -/
def ItsAt (K : PySem.W.Frag) (H : Hp) (p : Addr) (its : List It0) : Prop := ∃ vs, SqT K H p vs ∧ Paired (fun it x => ItAt K H it x) its vs
theorem ItsAt.kp {K : PySem.W.Frag} {S : List Addr} {H H' : Hp} (k : Kp S H H') {p : Addr} {its : List It0} (h : ItsAt K H p its) : ItsAt K H' p its := by
  obtain ⟨vs, h1, h2⟩ := h
  exact ⟨vs, k.sqT h1, Paired.mapP h2 fun _ _ z => ItAt.kp k z⟩
/-! ### leaves' words -/
def leafW (p : Nat) : Nat → List Nat
  | 0 => []
  | k + 1 => leafW p k ++ [2 * (1 + p + k)]
theorem leafW_len (p : Nat) : ∀ w, (leafW p w).length = w
  | 0 => rfl
  | k + 1 => by rw [leafW, List.length_append, leafW_len p k]; rfl
theorem leafW_ok {n p : Nat} (gs : List (Nat × Nat)) : ∀ {w}, p + w ≤ n → WOk n gs (leafW p w)
  | 0, _ => fun l m => nomatch m
  | k + 1, h => by
    intro l m
    rcases List.mem_append.mp m with m | m
    · exact leafW_ok gs (w := k) (by omega) l m
    · rw [List.mem_singleton.mp m]; unfold Ok; omega
/-- the number of w bits from place p on -/
def bitsNum (z : Bits) (p : Nat) : Nat → Nat
  | 0 => 0
  | k + 1 => bitsNum z p k + 2 ^ k * (z.getD (p + k) false).toNat
theorem wn_leafW {n p : Nat} (gs : List (Nat × Nat)) (z : Bits) : ∀ {w}, p + w ≤ n → wn (nodes n gs) (leafW p w) z = bitsNum z p w
  | 0, _ => rfl
  | k + 1, h => by
    rw [leafW, wn_app, wn_leafW gs z (w := k) (by omega), leafW_len]
    have e : wn (nodes n gs) [2 * (1 + p + k)] z = (z.getD (p + k) false).toNat := by
      simp only [wn]
      rw [show 2 * (1 + p + k) = 2 * (1 + (p + k)) by omega, lm_leaf gs (by omega)]
      simp
    rw [e]; rfl
/-- the total of the widths -/
def tot (l : List (Str × Nat)) : Nat := (l.map (·.2)).sum
theorem tot_app (a b : List (Str × Nat)) : tot (a ++ b) = tot a + tot b := by unfold tot; rw [List.map_append, List.sum_append]
def tabs (tab : Str → List Nat) (p : Nat) : List (Str × Nat) → Str → List Nat
  | [] => tab
  | (x, w) :: r => tabs (updS tab x (leafW p w)) (p + w) r
def envs (z : Bits) (env : Str → Nat) (p : Nat) : List (Str × Nat) → Str → Nat
  | [] => env
  | (x, w) :: r => envs z (updS env x (bitsNum z p w)) (p + w) r
def wds (we : Str → Nat) : List (Str × Nat) → Str → Nat
  | [] => we
  | (x, w) :: r => wds (updS we x w) r
theorem tabs_app : ∀ (l m : List (Str × Nat)) (tab : Str → List Nat) (p : Nat), tabs tab p (l ++ m) = tabs (tabs tab p l) (p + tot l) m
  | [], _, _, _ => rfl
  | (x, w) :: r, m, tab, p => by
    show tabs (updS tab x (leafW p w)) (p + w) (r ++ m) = tabs (tabs (updS tab x (leafW p w)) (p + w) r) (p + (w + tot r)) m
    rw [tabs_app r m, Nat.add_assoc]
theorem twd_upd (tab : Str → List Nat) (x : Str) (ws : List Nat) : twd (updS tab x ws) = updS (twd tab) x ws.length := by
  funext y
  unfold twd updS
  by_cases h : y = x
  · rw [if_pos h, if_pos h]
  · rw [if_neg h, if_neg h]
theorem env_upd {n : Nat} {gs : List (Nat × Nat)} (tab : Str → List Nat) (x : Str) (ws : List Nat) (z : Bits) : envW n gs (updS tab x ws) z = updS (envW n gs tab z) x (wn (nodes n gs) ws z) := by
  funext y
  unfold envW updS
  by_cases h : y = x
  · rw [if_pos h, if_pos h]
  · rw [if_neg h, if_neg h]
theorem twd_tabs : ∀ (l : List (Str × Nat)) (tab : Str → List Nat) (p : Nat), twd (tabs tab p l) = wds (twd tab) l
  | [], _, _ => rfl
  | (x, w) :: r, tab, p => by
    show twd (tabs (updS tab x (leafW p w)) (p + w) r) = wds (updS (twd tab) x w) r
    rw [twd_tabs r, twd_upd, leafW_len]
theorem env_tabs {n : Nat} (gs : List (Nat × Nat)) (z : Bits) : ∀ (l : List (Str × Nat)) (tab : Str → List Nat) (p : Nat), p + tot l ≤ n → envW n gs (tabs tab p l) z = envs z (envW n gs tab z) p l
  | [], _, _, _ => rfl
  | (x, w) :: r, tab, p, h => by
    have e : tot ((x, w) :: r) = w + tot r := rfl
    rw [e] at h
    show envW n gs (tabs (updS tab x (leafW p w)) (p + w) r) z = envs z (updS (envW n gs tab z) x (bitsNum z p w)) (p + w) r
    rw [env_tabs gs z r _ _ (by omega), env_upd, wn_leafW gs z (by omega)]
theorem ok_upd {n : Nat} {gs : List (Nat × Nat)} {tab : Str → List Nat} (h : ∀ x, WOk n gs (tab x)) {x : Str} {ws : List Nat} (k : WOk n gs ws) : ∀ y, WOk n gs (updS tab x ws y) := fun y => by
  unfold updS
  by_cases e : y = x
  · rw [if_pos e]; exact k
  · rw [if_neg e]; exact h y
theorem ok_tabs {n : Nat} (gs : List (Nat × Nat)) : ∀ (l : List (Str × Nat)) (tab : Str → List Nat) (p : Nat), p + tot l ≤ n → (∀ x, WOk n gs (tab x)) → ∀ x, WOk n gs (tabs tab p l x)
  | [], _, _, _, h => h
  | (x, w) :: r, tab, p, h, k => by
    have e : tot ((x, w) :: r) = w + tot r := rfl
    rw [e] at h
    exact ok_tabs gs r _ _ (by omega) (ok_upd k (leafW_ok gs (by omega)))
/-- the leaves of one kind -/
def leafOf (c : Str) (it : It0) : Option (Str × Nat) := if it.kd = c then some (it.nm, it.wd) else none
def sel (c : Str) (its : List It0) : List (Str × Nat) := its.filterMap (leafOf c)
theorem sel_snoc (c : Str) {its : List It0} {i : Nat} {it : It0} (h : its[i]? = some it) : sel c (its.take (i + 1)) = if it.kd = c then sel c (its.take i) ++ [(it.nm, it.wd)] else sel c (its.take i) := by
  unfold sel
  rw [List.take_add_one, h, List.filterMap_append]
  show _ ++ List.filterMap (leafOf c) [it] = _
  unfold leafOf
  by_cases e : it.kd = c
  · simp [e]
  · simp [e]
/-- all leaves: the inputs, then the registers -/
def leaves (its : List It0) : List (Str × Nat) := sel "input" its ++ sel "reg" its
def nLeaves (its : List It0) : Nat := tot (leaves its)
/-! ### the signals, in order -/
def weFin (we : Str → Nat) : List It0 → Str → Nat
  | [] => we
  | .sig _ x w _ :: r => weFin (updS we x w) r
  | _ :: r => weFin we r
def envFin (we env : Str → Nat) : List It0 → Str → Nat
  | [] => env
  | .sig _ x w e :: r => envFin (updS we x w) (updS env x (e.ev we env)) r
  | _ :: r => envFin we env r
def maxDep : Nat := 12
def SeqOk (we : Str → Nat) : List It0 → Prop
  | [] => True
  | .sig _ x w e :: r => e.ok we ∧ e.wd we = w ∧ we x = 0 ∧ e.dep < maxDep ∧ SeqOk (updS we x w) r
  | .nxt _ e :: r => e.ok we ∧ e.dep < maxDep ∧ SeqOk we r
  | _ :: r => SeqOk we r
def sizes (its : List It0) : Nat := (its.map It0.size).sum
theorem weFin_app : ∀ (a b : List It0) (we : Str → Nat), weFin we (a ++ b) = weFin (weFin we a) b
  | [], _, _ => rfl
  | .sig _ x w _ :: r, b, we => weFin_app r b _
  | .inp _ _ :: r, b, we => weFin_app r b _
  | .reg _ _ _ :: r, b, we => weFin_app r b _
  | .nxt _ _ :: r, b, we => weFin_app r b _
theorem envFin_app : ∀ (a b : List It0) (we env : Str → Nat), envFin we env (a ++ b) = envFin (weFin we a) (envFin we env a) b
  | [], _, _, _ => rfl
  | .sig _ x w e :: r, b, we, env => envFin_app r b _ _
  | .inp _ _ :: r, b, we, env => envFin_app r b _ _
  | .reg _ _ _ :: r, b, we, env => envFin_app r b _ _
  | .nxt _ _ :: r, b, we, env => envFin_app r b _ _
theorem SeqOk.at : ∀ {its : List It0} {we : Str → Nat} {i : Nat} {it : It0}, SeqOk we its → its[i]? = some it → SeqOk (weFin we (its.take i)) [it]
  | [], we, i, it, _, h => by simp at h
  | a :: r, we, 0, it, hs, h => by
    cases (Option.some.inj h)
    cases a with
    | inp _ _ => trivial
    | reg _ _ _ => trivial
    | sig o x w e => exact ⟨hs.1, hs.2.1, hs.2.2.1, hs.2.2.2.1, trivial⟩
    | nxt x e => exact ⟨hs.1, hs.2.1, trivial⟩
  | a :: r, we, i + 1, it, hs, h => by
    cases a with
    | inp _ _ => exact SeqOk.at (its := r) (we := we) (i := i) hs h
    | reg _ _ _ => exact SeqOk.at (its := r) (we := we) (i := i) hs h
    | sig o x w e => exact SeqOk.at (its := r) (we := updS we x w) (i := i) hs.2.2.2.2 h
    | nxt x e => exact SeqOk.at (its := r) (we := we) (i := i) hs.2.2 h
theorem sizes_take {its : List It0} {i : Nat} {it : It0} (h : its[i]? = some it) : sizes (its.take (i + 1)) = sizes (its.take i) + it.size := by
  unfold sizes
  rw [List.take_add_one, h, List.map_append, List.sum_append]; rfl
theorem sizes_le (its : List It0) (i : Nat) : sizes (its.take i) ≤ sizes its := by
  have e : sizes its = sizes (its.take i) + sizes (its.drop i) := by
    unfold sizes
    rw [← List.sum_append, ← List.map_append, List.take_append_drop]
  omega
end K14
set_option maxHeartbeats 4000000
/-! the table of words -/
namespace K14
open PySem PySem.Spec PyProof.Rows L2
theorem Paired.getR {α β : Type} {F : α → β → Prop} : ∀ {l₁ : List α} {l₂ : List β}, Paired F l₁ l₂ → ∀ {i : Nat} {y : β}, l₂[i]? = some y → ∃ x, l₁[i]? = some x ∧ F x y
  | _, _, .nil, i, y, h => by simp at h
  | _, _, .cons (a := a) hd tl, 0, y, h => ⟨a, rfl, by cases (Option.some.inj h); exact hd⟩
  | _, _, .cons hd tl, i + 1, y, h => Paired.getR tl (i := i) h
theorem Paired.len {α β : Type} {F : α → β → Prop} : ∀ {l₁ : List α} {l₂ : List β}, Paired F l₁ l₂ → l₁.length = l₂.length
  | _, _, .nil => rfl
  | _, _, .cons _ t => by simp [Paired.len t]
section
variable {P : Program} {w : World} {K : PySem.W.Frag} {mg : Str → Option Value} {base : Heap}
theorem cal_expr (T : Top K mg) : ∀ d, C8.Cal P w K mg base (8 + d) "expression_word" (spEx K d) []
  | 0 => cal_expr0 T
  | d + 1 => cal_expr_s T (cal_expr T d)
theorem cal_expression_word (T : Top K mg) : C8.Cal P w K mg base 20 "expression_word" (spEx K maxDep) [] := cal_expr T 12
theorem Kp.putD {H : Hp} {D : Addr} {l : List (Key × V)} {o : HO} (e : H D = some (.dK l)) : Kp [D] H (upd H D o) :=
  Kp.refl.putS (List.mem_singleton.mpr rfl) (fun xs z => by rw [e] at z; cases z) (fun o u z => by rw [e] at z; cases z) ⟨_, e⟩
/-- the table, at most m names -/
structure KnM (K : PySem.W.Frag) (H : Hp) (kd : Addr) (tab : Str → List Nat) (m : Nat) : Prop where
  ex : ∃ kvs, H kd = some (.dK kvs) ∧ kvs.length ≤ m ∧ ∀ x, tab x ≠ [] → ∃ a, valV kvs (Sum.inr x) = some (.ref a) ∧ WAt K H a (tab x)
theorem KnM.kp {S : List Addr} {H H' : Hp} {kd : Addr} {tab : Str → List Nat} {m : Nat} (x : KnM K H kd tab m) (k : Kp S H H') (h : kd ∉ S) : KnM K H' kd tab m := by
  obtain ⟨⟨kvs, e, hl, f⟩⟩ := x
  exact ⟨⟨kvs, k.at_ _ _ e h, hl, fun y n => let ⟨a, e1, e2⟩ := f y n; ⟨a, e1, e2.kp k⟩⟩⟩
theorem KnM.kn {H : Hp} {kd : Addr} {tab : Str → List Nat} {m : Nat} (x : KnM K H kd tab m) (h : m ≤ 1000) : KnAt K H kd tab := by
  obtain ⟨⟨kvs, e, hl, f⟩⟩ := x
  exact ⟨⟨kvs, e, Nat.le_trans hl h, f⟩⟩
theorem KnM.mono {H : Hp} {kd : Addr} {tab : Str → List Nat} {m m' : Nat} (x : KnM K H kd tab m) (h : m ≤ m') : KnM K H kd tab m' := by
  obtain ⟨⟨kvs, e, hl, f⟩⟩ := x
  exact ⟨⟨kvs, e, Nat.le_trans hl h, f⟩⟩
theorem putK_len {κ : Type} [DecidableEq κ] (kvs : List (κ × V)) (k : κ) (v : V) : (putK kvs k v).length ≤ kvs.length + 1 := by
  unfold putK
  split
  · rw [List.length_map]; omega
  · rw [List.length_append]; exact Nat.le_refl _
theorem KnM.put {H : Hp} {kd a : Addr} {tab : Str → List Nat} {m : Nat} {x : Str} {ws : List Nat} (k : KnM K H kd tab m) (hm : m < 1000) (h : WAt K H a ws) :
    ∃ H', DPut H kd (.str x) (.ref a) H' ∧ KnM K H' kd (updS tab x ws) (m + 1) ∧ Kp [kd] H H' ∧ ∃ kvs kvs', H kd = some (.dK kvs) ∧ H' = upd H kd (.dK kvs') := by
  obtain ⟨⟨kvs, e, hl, f⟩⟩ := k
  refine ⟨_, DPut.k (k := Sum.inr x) e (small _ (by omega)), ⟨⟨_, upd_same, by have := putK_len kvs (Sum.inr x) (V.ref a); omega, fun y hy => ?_⟩⟩, Kp.putD e, kvs, _, e, rfl⟩
  by_cases hxy : y = x
  · subst hxy
    refine ⟨a, by rw [valV_put, if_pos rfl], ?_⟩
    rw [updS_same]
    exact h.kp (Kp.putD e)
  · rw [updS_ne _ _ hxy] at hy
    obtain ⟨a', e1, e2⟩ := f y hy
    refine ⟨a', by rw [valV_put, if_neg (fun z => hxy (Sum.inr.inj z))]; exact e1, ?_⟩
    rw [updS_ne _ _ hxy]
    exact e2.kp (Kp.putD e)
theorem BSt.putD {H H1 H2 : Hp} {b g d kd : Addr} {n c : Nat} {gs gs' : List (Nat × Nat)} {o : HO} (x : BSt K H H1 b g d n gs gs' c) (hB : BAt K H b g d n gs) (n0 : H kd = none) (e : H2 = upd H1 kd o) (k : Kp [kd] H1 H2) : BSt K H H2 b g d n gs gs' c := by
  subst e
  have hn := hB.ne n0
  exact ⟨x.kp.put n0, x.at_.kp k (not1 hn.1.symm) (not1 hn.2.1.symm) (not1 hn.2.2.symm), x.pre, x.len⟩
/-- the tables' first names -/
def doneL (its : List It0) (i : Nat) : List (Str × Nat) := if i = 0 then [] else if i = 1 then sel "input" its else leaves its
theorem sel_len (c : Str) (its : List It0) : (sel c its).length ≤ its.length := List.length_filterMap_le _ _
/-- a module's items: few, narrow, in order -/
structure ItsOk (its : List It0) : Prop where
  few : its.length ≤ 100
  narrow : ∀ it ∈ its, it.wd ≤ 16
  seq : SeqOk (wds (fun _ => 0) (leaves its)) its
  small : 2560 * sizes its ≤ big
def we1 (its : List It0) : Str → Nat := weFin (wds (fun _ => 0) (leaves its)) its
def env1 (its : List It0) (z : Bits) : Str → Nat := envFin (wds (fun _ => 0) (leaves its)) (envs z (fun _ => 0) 0 (leaves its)) its
theorem ItAt.leafAt {H : Hp} {it : It0} {x : V} (h : ItAt K H it x) (hk : it.kd = "input" ∨ it.kd = "reg") : ∃ p xs, x = .ref p ∧ SqT K H p (.str it.kd :: .str it.nm :: .int (it.wd : Int) :: xs) := by
  obtain ⟨p, xs, rfl, h1, h2⟩ := h
  cases it with
  | inp x w => cases h2; exact ⟨p, _, rfl, h1⟩
  | reg x w r => cases h2; exact ⟨p, _, rfl, h1⟩
  | sig o x w e =>
    exfalso
    cases o
    · exact hk.elim (nm_ne (a := "wire") (b := "input") (by decide +kernel)) (nm_ne (a := "wire") (b := "reg") (by decide +kernel))
    · exact hk.elim (nm_ne (a := "output") (b := "input") (by decide +kernel)) (nm_ne (a := "output") (b := "reg") (by decide +kernel))
  | nxt x e => exact (hk.elim (nm_ne (a := "next") (b := "input") (by decide +kernel)) (nm_ne (a := "next") (b := "reg") (by decide +kernel))).elim
def spTable (K : PySem.W.Frag) : Sp := fun vs H Q _ => ∃ (b g d pI : Addr) (its : List It0), vs = [.ref b, .ref pI] ∧ BAt K H b g d (nLeaves its) [] ∧ ItsAt K H pI its ∧ ItsOk its ∧
  ∀ H' kd gs tab, H kd = none → BSt K H H' b g d (nLeaves its) [] gs (2560 * sizes its) → KnAt K H' kd tab → (∀ x, WOk (nLeaves its) gs (tab x)) → twd tab = we1 its → (∀ z, envW (nLeaves its) gs tab z = env1 its z) → Q (.ref kd) H'
abbrev nm_word_table : List Str := ["builder", "items", "known", "place", "kind", "item", "k"]
theorem sc_word_table : FnScope nm_word_table ["builder", "items"] (C8.fnScope (st 36)) := C8.fnScope_by (by decide +kernel)
theorem cal_word_table (T : Top K mg) : C8.Cal P w K mg base (21) "word_table" (spTable K) [] := by
  refine calD T.d_word_table sc_word_table (fun vs H Q E h => ?_) (fun f cdv A outer s0 H vs Q E hr h => ?_)
  ·
    obtain ⟨b, g, d, pI, its, rfl, _⟩ := h; rfl
  ·
    obtain ⟨b, g, d, pI, its, rfl, hB, ⟨vs, hT, hP⟩, hO, q⟩ := h
    have hu := hu_of hr
    refine ⟨_, (pss_cons (ps_asg (pe_tup (pa_cons pe_dnewK (pa_cons pe_int pa_nil))) (pg_tup rfl (pgs_cons (pg_name (i := 2) sc_word_table.nd rfl (Or.inl rfl)) (pgs_cons (pg_name (i := 3) sc_word_table.nd rfl (Or.inr rfl)) pgs_nil))))
      (pss_cons (ps_for PassesOwn.never rfl (pi_tup (pe_tup (pa_cons pe_str (pa_cons pe_str pa_nil)))) (pg_name (i := 4) sc_word_table.nd rfl (Or.inl rfl)) (pss_one (ps_for PassesOwn.never rfl (pi_tup (pv 1)) (pg_name (i := 5) sc_word_table.nd rfl (Or.inl rfl)) (pss_one (ps_if (pt_cmpR op_eq (pe_ix ix_tup (pv 5) pe_int (fun _ _ => rfl)) (pv 4) (nomark _)) (pss_cons (ps_dput hu (pv 2) (pe_ix ix_tup (pv 5) pe_int (fun _ _ => rfl)) (pe_callTy call_tuple_of (by rfl) T.f_tuple PyProof.Rows.boot_tuple (pa_cons (pe_lc (own := [("k", 6)]) (g := (gName 6)) (tt := tYes)  rfl sc_word_table.nd (pi_range1 (by rfl) T.f_range (pa_cons (pe_ix ix_tup (pv 5) pe_int (fun _ _ => rfl)) pa_nil)) (blkOk_by (own := [("k", 6)]) (N := nm_word_table) (sc := C8.fnScope (st 36)) (by decide +kernel)) (fun _ _ _ _ _ => (pg_name (i := 6) sc_word_table.nd rfl (Or.inl rfl))) (fun _ _ _ _ _ => pts_nil) (fun _ _ _ _ _ => (pe_op op_mul pe_int (pe_op op_add (pv 3) (pv 6))))) pa_nil)) rfl)
      (pss_one (ps_set (i := 3) sc_word_table.nd rfl (Or.inr rfl) (pe_op op_add (pv 3) (pe_ix ix_tup (pv 5) pe_int (fun _ _ => rfl)))))) pss_nil)))))
      (pss_cons (ps_for PassesOwn.never rfl (pi_tup (pv 1)) (pg_name (i := 5) sc_word_table.nd rfl (Or.inl rfl)) (pss_one (ps_if (pt_cmpR op_in_seq (pe_ix ix_tup (pv 5) pe_int (fun _ _ => rfl)) (pe_tup (pa_cons pe_str (pa_cons pe_str pa_nil))) (by rfl)) (pss_one (ps_dput hu (pv 2) (pe_ix ix_tup (pv 5) pe_int (fun _ _ => rfl)) (C8.pe_c (cal_expression_word T) hr (by decide) rfl (pa_cons (pv 0) (pa_cons (pe_ix ix_tup (pv 5) pe_int (fun _ _ => rfl)) (pa_cons (pv 2) pa_nil)))) rfl)) pss_nil)))
      (pss_one (ps_ret (pv 2)))))), ?_⟩
    refine fun kd nkd => ?_
    have hne := hB.ne nkd
    have S0 : BSt K H (upd H kd (.dK [])) b g d (nLeaves its) [] [] 0 := (BSt.refl hB 0).new nkd
    refine ⟨(by show 2 ≤ sizeLine; decide), fun t nt => ?_⟩
    refine ⟨t, _, rfl, SqT.of upd_same, rfl, _, _, rfl, _, _, rfl, rfl, ?_⟩
    have S1 := S0.new (o := .tup [.ref kd, .int 1]) nt
    have e1 : upd (upd H kd (.dK [])) t (.tup [.ref kd, .int 1]) kd = some (.dK []) := (upd_ne (ne_of_none upd_same nt)).trans upd_same
    refine ⟨(by show 2 ≤ sizeLine; decide), fun t2 nt2 => ?_⟩
    have S2 := S1.new (o := .tup [.str "input", .str "reg"]) nt2
    have e2 := (upd_ne (o := .tup [.str "input", .str "reg"]) (ne_of_none e1 nt2)).trans e1
    have few := hO.few
    refine ⟨_, rfl, ⟨_, SqT.of upd_same⟩, for_it walk_tup (fun i σ H' => ∃ (x4 x5 x6 : Option V), σ = [some (.ref b), some (.ref pI), some (.ref kd), some (.int ((1 + tot (doneL its i) : Nat) : Int)), x4, x5, x6] ∧ BSt K H H' b g d (nLeaves its) [] [] 0 ∧ SqT K H' t2 [.str "input", .str "reg"] ∧ KnM K H' kd (tabs (fun _ => []) 0 (doneL its i)) (doneL its i).length)
      ⟨none, none, none, rfl, S2, SqT.of upd_same, ⟨⟨[], e2, Nat.le_refl _, fun x h => absurd rfl h⟩⟩⟩ (fun i σ H' _ ⟨x4, x5, x6, _, S, s2, _⟩ => s2) ?_ ?_⟩
    · rintro i v σ H0 H1 hi ⟨x4, x5, x6, rfl, S, s2, kn⟩ ⟨rfl, gx⟩
      have hi2 : i = 0 ∨ i = 1 := by have : i < 2 := hi; omega
      obtain ⟨c, rfl, hc, hb0, hb1, hll⟩ : ∃ c : Str, v = .str c ∧ (c = "input" ∨ c = "reg") ∧ doneL its i = doneL its i ++ sel c (its.take 0) ∧ doneL its (i + 1) = doneL its i ++ sel c its ∧ (doneL its i).length ≤ its.length := by
        rcases hi2 with rfl | rfl
        · exact ⟨"input", (Option.some.inj gx).symm, .inl rfl, rfl, rfl, Nat.zero_le _⟩
        · exact ⟨"reg", (Option.some.inj gx).symm, .inr rfl, by show _ = _ ++ []; rw [List.append_nil], rfl, sel_len _ _⟩
      have kn0 : KnM K H1 kd (tabs (fun _ => []) 0 (doneL its i ++ sel c (its.take 0))) (doneL its i ++ sel c (its.take 0)).length := by rw [← hb0]; exact kn
      refine ⟨_, rfl, _, rfl, ⟨_, S.kp.sqT hT⟩, for_it walk_tup (fun j σ H' => ∃ (x5 x6 : Option V), σ = [some (.ref b), some (.ref pI), some (.ref kd), some (.int ((1 + tot (doneL its i ++ sel c (its.take j)) : Nat) : Int)), some (.str c), x5, x6] ∧ BSt K H H' b g d (nLeaves its) [] [] 0 ∧ SqT K H' t2 [.str "input", .str "reg"] ∧ KnM K H' kd (tabs (fun _ => []) 0 (doneL its i ++ sel c (its.take j))) (doneL its i ++ sel c (its.take j)).length)
        ⟨x5, x6, by rw [← hb0]; rfl, S, s2, kn0⟩ (fun j σ H' _ ⟨x5, x6, _, S, _⟩ => S.kp.sqT hT) ?_ ?_⟩
      · rintro j v σ H0 H3 hj ⟨x5, x6, rfl, S3, s3, kn3⟩ ⟨rfl, gv⟩
        obtain ⟨it, gi, hit⟩ := Paired.getR hP gv
        have hit3 := ItAt.kp S3.kp hit
        have em := sel_snoc c gi
        by_cases hk : it.kd = c
        · rw [if_pos hk] at em
          obtain ⟨p, xs, rfl, hp⟩ := hit3.leafAt (by rw [hk]; exact hc)
          have hw := hO.narrow it (List.mem_of_getElem? gi)
          refine ⟨_, rfl, _, _, _, _, rfl, rfl, hp, atI_nat (j := 0) rfl, _, rfl, rfl, _, rfl, ifStrT hk ?_⟩
          refine ⟨_, rfl, _, _, _, _, rfl, rfl, hp, atI_nat (j := 2) rfl, _, rfl, by omega, by omega, fun D nD => lc_range (lo := 0) (n := it.wd) (fun k H' => H' D = some (.lst ((leafW (tot (doneL its i ++ sel c (its.take j))) k).map lit)) ∧ Kp [] H3 H') ⟨upd_same, Kp.refl.new nD⟩ (fun k H' hk2 ⟨eD, kk⟩ => ?_) (fun H' ⟨eD, kk⟩ => ?_)⟩
          · refine ⟨rfl, ?_⟩
            refine ⟨_, rfl, _, rfl, _, _, rfl, rfl, _, _, rfl, rfl, .inl ⟨by decide, by decide⟩, _, eD, small _ (by rw [List.length_map, leafW_len]; omega), ?_, kk.put nD⟩
            rw [upd_same, leafW, List.map_append]
            have e : (2 : Int) * (((1 + tot (doneL its i ++ sel c (its.take j)) : Nat) : Int) + (0 + (k : Int))) = ((2 * (1 + tot (doneL its i ++ sel c (its.take j)) + k) : Nat) : Int) := by omega
            dsimp only
            rw [e]; rfl
          · refine ⟨_, _, rfl, .inl ⟨SqL.of eD, fun pw np => ?_⟩⟩
            have k4 := kk.new (o := .tup ((leafW (tot (doneL its i ++ sel c (its.take j))) it.wd).map lit)) np
            have S4 := S3.kp0 k4
            have kn4 := kn3.kp k4 (fun z => nomatch z)
            have hl5 : (sel c (its.take j)).length ≤ its.length := Nat.le_trans (sel_len _ _) (by rw [List.length_take]; omega)
            obtain ⟨H5, hput, kn5, k5, kvs, kvs', eo, e5⟩ := kn4.put (x := it.nm) (a := pw) (ws := leafW (tot (doneL its i ++ sel c (its.take j))) it.wd) (by rw [List.length_append]; omega) (SqT.of upd_same)
            have S5 := S4.putD hB nkd e5 k5
            refine ⟨_, rfl, _, rfl, _, _, _, _, rfl, rfl, k4.sqT hp, atI_nat (j := 1) rfl, _, _, rfl, hput, ?_⟩
            have k45 := Kp.trans (S := [kd]) k4.nil k5
            refine ⟨_, rfl, _, rfl, _, _, _, _, rfl, rfl, k45.sqT hp, atI_nat (j := 2) rfl, _, _, rfl, rfl, ?_⟩
            have ea : doneL its i ++ sel c (its.take (j + 1)) = (doneL its i ++ sel c (its.take j)) ++ [(it.nm, it.wd)] := by rw [em, List.append_assoc]
            refine ⟨some (.ref p), x6, ?_, S5, k45.sqT s3, ?_⟩
            · rw [ea, tot_app (doneL its i ++ sel c (its.take j))]
              have e9 : tot [(it.nm, it.wd)] = it.wd := rfl
              rw [e9, ← Nat.add_assoc]; rfl
            · rw [ea, tabs_app, Nat.zero_add, List.length_append]; exact kn5
        · rw [if_neg hk] at em
          obtain ⟨p, xs, rfl, hp, _⟩ := hit3
          refine ⟨_, rfl, _, _, _, _, rfl, rfl, hp, atI_nat (j := 0) rfl, _, rfl, rfl, _, rfl, ifStrF hk ?_⟩
          exact ⟨some (.ref p), x6, by rw [em]; rfl, S3, s3, by rw [em]; exact kn3⟩
      · rintro σ H3 ⟨x5, x6, rfl, S3, s3, kn3⟩
        have hlen : its.take vs.length = its := by rw [← Paired.len hP, List.take_length]
        rw [hlen] at kn3
        refine ⟨_, _, _, by rw [hlen, hb1], S3, s3, by rw [hb1]; exact kn3⟩
    · rintro σ H1 ⟨x4, x5, x6, rfl, S, s2, kn⟩
      have kn0 : KnM K H1 kd (tabs (fun _ => []) 0 (leaves its)) (leaves its).length := kn
      have ll : (leaves its).length ≤ 200 := by
        have h1 := sel_len "input" its
        have h2 := sel_len "reg" its
        unfold leaves
        rw [List.length_append]; omega
      have ht0 : (0 : Nat) + tot (leaves its) ≤ nLeaves its := by rw [Nat.zero_add]; exact Nat.le_refl _
      refine ⟨_, rfl, _, rfl, ⟨_, S.kp.sqT hT⟩, for_it walk_tup (fun i σ H' => ∃ (x3 x4 x5 x6 : Option V) (gs : List (Nat × Nat)) (tab : Str → List Nat), σ = [some (.ref b), some (.ref pI), some (.ref kd), x3, x4, x5, x6] ∧ BSt K H H' b g d (nLeaves its) [] gs (2560 * sizes (its.take i)) ∧ KnM K H' kd tab ((leaves its).length + i) ∧
          (∀ x, WOk (nLeaves its) gs (tab x)) ∧ twd tab = weFin (wds (fun _ => 0) (leaves its)) (its.take i) ∧ ∀ z, envW (nLeaves its) gs tab z = envFin (wds (fun _ => 0) (leaves its)) (envs z (fun _ => 0) 0 (leaves its)) (its.take i))
        ⟨_, _, _, _, [], _, rfl, S, kn0, ok_tabs [] _ _ 0 ht0 (fun x l m => nomatch m), twd_tabs _ _ _, fun z => env_tabs [] z _ _ 0 ht0⟩ (fun i σ H' _ ⟨x3, x4, x5, x6, gs, tab, _, S, _⟩ => S.kp.sqT hT) ?_ ?_⟩
      · rintro i v σ H0 H1 hi ⟨x3, x4, x5, x6, gs, tab, rfl, S, kn, hk, hw, he⟩ ⟨rfl, gv⟩
        obtain ⟨it, gi, hit⟩ := Paired.getR hP gv
        have hil : i < its.length := (List.getElem?_eq_some_iff.mp gi).1
        have so := hO.seq.at gi
        have sz := sizes_take gi
        have szl := sizes_le its (i + 1)
        have sml := hO.small
        have b1 := S.len
        have etk : its.take (i + 1) = its.take i ++ [it] := by rw [List.take_add_one, gi]; rfl
        obtain ⟨p, xs, rfl, hp, hr⟩ := ItAt.kp S.kp hit
        by_cases hk2 : it.kd = "wire" ∨ it.kd = "output"
        · cases it with
          | inp x w => exact (hk2.elim (nm_ne (a := "input") (b := "wire") (by decide +kernel)) (nm_ne (a := "input") (b := "output") (by decide +kernel))).elim
          | reg x w r => exact (hk2.elim (nm_ne (a := "reg") (b := "wire") (by decide +kernel)) (nm_ne (a := "reg") (b := "output") (by decide +kernel))).elim
          | nxt x e => exact (hk2.elim (nm_ne (a := "next") (b := "wire") (by decide +kernel)) (nm_ne (a := "next") (b := "output") (by decide +kernel))).elim
          | sig o x w e =>
            obtain ⟨ve, rfl, hve⟩ := hr
            refine ⟨_, rfl, _, _, _, _, rfl, rfl, hp, atI_nat (j := 0) rfl, (by show 2 ≤ sizeLine; decide), fun t nt => ⟨_, _, rfl, .inr (SqT.of upd_same), rfl, rfl, _, rfl, ifBT (by cases o; exact (show inV (.str "wire") [.str "wire", .str "output"] = true by decide +kernel); exact (show inV (.str "output") [.str "wire", .str "output"] = true by decide +kernel)) ?_⟩⟩
            have kt : Kp [] H1 (upd H1 t (.tup [.str "wire", .str "output"])) := Kp.refl.new nt
            have S2 := S.new (o := .tup [.str "wire", .str "output"]) nt
            have kn2 := kn.kp kt (fun z => nomatch z)
            rw [← hw] at so
            have l2 : (twd tab) x = 0 := so.2.2.1
            refine ⟨_, rfl, _, rfl, _, _, _, _, rfl, rfl, kt.sqT hp, atI_nat (j := 3) rfl, _, rfl, b, g, d, nLeaves its, gs, kd, _, e, tab, rfl, ⟨S2.at_, kn2.kn (by omega), hne.2.1, hne.2.2, hk⟩, hve.kp kt, so.1, so.2.2.2.1, by simp only [It0.size] at sz; simp at b1; omega, fun H3 gs3 p3 w3 S3 wp3 ow3 el3 hv3 => ?_⟩
            have kn3 := kn2.kp S3.kp (not2 hne.2.1 hne.2.2)
            obtain ⟨H5, hput, kn5, k5, kvs, kvs', eo, e5⟩ := kn3.put (x := x) (by omega) wp3
            have S4 := S2.trans S3
            have S5 := S4.putD hB nkd e5 k5
            refine ⟨_, rfl, _, rfl, _, _, _, _, rfl, rfl, S3.kp.sqT (kt.sqT hp), atI_nat (j := 1) rfl, _, _, rfl, hput, ?_⟩
            refine ⟨_, _, _, _, gs3, _, rfl, S5.mono (by rw [sz]; simp only [It0.size]; omega), kn5, ok_upd (fun y => (hk y).mono S3.pre) ow3, ?_, fun z => ?_⟩
            · rw [twd_upd, el3, etk, weFin_app, ← hw]
              show updS _ x (e.wd (twd tab)) = updS (twd tab) x w
              rw [so.2.1]
            · rw [env_upd, hv3 z, envW_pre hk S3.pre, etk, envFin_app, ← hw, ← he z]
              rfl
        · have hF : inV (.str it.kd) [.str "wire", .str "output"] = false := by
            cases it with
            | inp x w => exact (show inV (.str "input") [.str "wire", .str "output"] = false by decide +kernel)
            | reg x w r => exact (show inV (.str "reg") [.str "wire", .str "output"] = false by decide +kernel)
            | nxt x e => exact (show inV (.str "next") [.str "wire", .str "output"] = false by decide +kernel)
            | sig o x w e => exact absurd (by cases o; exact .inl rfl; exact .inr rfl) hk2
          refine ⟨_, rfl, _, _, _, _, rfl, rfl, hp, atI_nat (j := 0) rfl, (by show 2 ≤ sizeLine; decide), fun t nt => ⟨_, _, rfl, .inr (SqT.of upd_same), rfl, rfl, _, rfl, ifBF hF ?_⟩⟩
          refine ⟨_, _, _, _, gs, tab, rfl, (S.new nt).mono (by rw [sz]; omega), (kn.kp (Kp.refl.new nt (S := [])) (fun z => nomatch z)).mono (by omega), hk, ?_, fun z => ?_⟩
          · rw [hw, etk, weFin_app]
            cases it with
            | inp x w => rfl
            | reg x w r => rfl
            | nxt x e => rfl
            | sig o x w e => exact absurd (by cases o; exact .inl rfl; exact .inr rfl) hk2
          · rw [he z, etk, envFin_app]
            cases it with
            | inp x w => rfl
            | reg x w r => rfl
            | nxt x e => rfl
            | sig o x w e => exact absurd (by cases o; exact .inl rfl; exact .inr rfl) hk2
      · rintro σ H1 ⟨x3, x4, x5, x6, gs, tab, rfl, S, kn, hk, hw, he⟩
        have hlen : its.take vs.length = its := by rw [← Paired.len hP, List.take_length]
        rw [hlen] at S hw he
        refine ⟨_, rfl, q H1 kd gs tab nkd S (kn.kn (by rw [← Paired.len hP]; omega)) hk hw he⟩
end
end K14
/-! checks, graphs, builders, machines -/
namespace K14
open PySem PySem.Spec PyProof.Rows L2
section
variable {P : Program} {w : World} {K : PySem.W.Frag} {mg : Str → Option Value} {base : Heap}
theorem tyT {H : Hp} {a : Addr} {xs : List V} (h : SqT K H a xs) : TyX K H (.ref a) (.type "tuple") := by
  rcases h with (h | ⟨o, h⟩) | ⟨o, its, n, h, c, _⟩
  · exact .base (.tup h)
  · exact .fTuple h
  · exact .kTuple h c
theorem tyL {H : Hp} {a : Addr} {xs : List V} (h : SqL K H a xs) : TyX K H (.ref a) (.type "list") := by
  rcases h with (h | ⟨o, h⟩) | ⟨o, its, n, h, c, _⟩
  · exact .base (.lst h)
  · exact .base (.frz h)
  · exact .kList h c
theorem kitT : PySem.W.kitAny K (.type "tuple") [.type "tuple", .type "list"] = some true := kitAny_cons (kit_ty (b := "tuple") (r := true) (by decide +kernel)) (fun z => by cases z) fun _ => rfl
theorem kitL : PySem.W.kitAny K (.type "list") [.type "tuple", .type "list"] = some true := kitAny_cons (kit_ty (b := "tuple") (r := false) (by decide +kernel)) (fun _ => kitAny_cons (kit_ty (b := "list") (r := true) (by decide +kernel)) (fun z => by cases z) fun _ => rfl) fun z => by cases z
theorem clsTL : Paired ClsV [.ty "tuple", .ty "list"] [.type "tuple", .type "list"] := .cons (.ty "tuple") (.cons (.ty "list") .nil)
theorem SqL.kpNew {H : Hp} {a p : Addr} {xs : List V} {o : HO} (h : SqL K H a xs) (np : H p = none) : SqL K (upd H p o) a xs := (Kp.refl.new np (S := [])).sqL0 h
theorem Paired.getL {α β : Type} {F : α → β → Prop} : ∀ {l₁ : List α} {l₂ : List β}, Paired F l₁ l₂ → ∀ {i : Nat} {x : α}, l₁[i]? = some x → ∃ y, l₂[i]? = some y ∧ F x y
  | _, _, .nil, i, y, h => by simp at h
  | _, _, .cons (b := b) hd tl, 0, y, h => ⟨b, rfl, by cases (Option.some.inj h); exact hd⟩
  | _, _, .cons hd tl, i + 1, y, h => Paired.getL tl (i := i) h
def spIsCount : Sp := fun vs H Q _ => ∃ n : Nat, vs = [.int (n : Int)] ∧ Q (.bl true) H
abbrev nm_is_count : List Str := ["value"]
theorem sc_is_count : FnScope nm_is_count ["value"] (C8.fnScope (st 7)) := C8.fnScope_by (by decide +kernel)
theorem cal_is_count (T : Top K mg) : C8.Cal P w K mg base (1) "is_count" (spIsCount) [] := by
  refine calD T.d_is_count sc_is_count (fun vs H Q E h => ?_) (fun f cdv A outer s0 H vs Q E hr h => ?_)
  ·
    obtain ⟨n, rfl, _⟩ := h; rfl
  ·
    obtain ⟨n, rfl, q⟩ := h
    have hu := hu_of hr
    refine ⟨_, (pss_one (ps_ret (pe_and (pe_callB call_isi (by rfl) T.f_isinstance PyProof.Rows.boot_isinstance (pa_cons (pv 0) (pa_cons (pe_bltn (v := .ty "int") (by rfl) T.f_int PyProof.Rows.boot_int rfl) pa_nil))) (pe_and (pe_not (pe_callB call_isi (by rfl) T.f_isinstance PyProof.Rows.boot_isinstance (pa_cons (pv 0) (pa_cons (pe_bltn (v := .ty "bool") (by rfl) T.f_bool PyProof.Rows.boot_bool rfl) pa_nil)))) (pe_one (pe_cmpR op_ge (pv 0) pe_int (nomark _))))))), ?_⟩
    refine ⟨_, rfl, _, _, _, _, true, rfl, .ty "int", .base (.int _), kit_ty (a := "int") (b := "int") (by decide +kernel), _, rfl, ?_⟩
    refine ⟨_, rfl, _, _, _, _, false, rfl, .ty "bool", .base (.int _), kit_ty (a := "int") (b := "bool") (by decide +kernel), _, rfl, _, rfl, ?_⟩
    refine ⟨_, rfl, _, _, rfl, rfl, ?_⟩
    have e : decide ((n : Int) ≥ 0) = true := decide_eq_true (Int.natCast_nonneg _)
    dsimp only
    rw [e]; exact q
def spIsLit : Sp := fun vs H Q _ => ∃ l n : Nat, vs = [.int (l : Int), .int (n : Int)] ∧ l < 2 * n ∧ Q (.bl true) H
abbrev nm_is_literal : List Str := ["value", "nodes"]
theorem sc_is_literal : FnScope nm_is_literal ["value", "nodes"] (C8.fnScope (st 8)) := C8.fnScope_by (by decide +kernel)
theorem cal_is_literal (T : Top K mg) : C8.Cal P w K mg base (2) "is_literal" (spIsLit) [] := by
  refine calD T.d_is_literal sc_is_literal (fun vs H Q E h => ?_) (fun f cdv A outer s0 H vs Q E hr h => ?_)
  ·
    obtain ⟨l, n, rfl, _⟩ := h; rfl
  ·
    obtain ⟨l, n, rfl, hl, q⟩ := h
    have hu := hu_of hr
    refine ⟨_, (pss_one (ps_ret (pe_and (C8.pe_c (cal_is_count T) hr (by decide) rfl (pa_cons (pv 0) pa_nil)) (pe_one (pe_cmpR op_lt (pv 0) (pe_op op_mul pe_int (pv 1)) (nomark _)))))), ?_⟩
    refine ⟨_, rfl, l, rfl, _, rfl, ?_⟩
    refine ⟨_, rfl, _, rfl, _, _, rfl, rfl, .inl ⟨by decide, by decide⟩, _, _, rfl, rfl, ?_⟩
    have e : decide ((l : Int) < 2 * (n : Int)) = true := decide_eq_true (by omega)
    dsimp only
    rw [e]; exact q
def spIsBit : Sp := fun vs H Q _ => ∃ l : Nat, vs = [.int (l : Int)] ∧ l < 2 ∧ Q (.bl true) H
abbrev nm_is_bit : List Str := ["value"]
theorem sc_is_bit : FnScope nm_is_bit ["value"] (C8.fnScope (st 12)) := C8.fnScope_by (by decide +kernel)
theorem cal_is_bit (T : Top K mg) : C8.Cal P w K mg base (2) "is_bit" (spIsBit) [] := by
  refine calD T.d_is_bit sc_is_bit (fun vs H Q E h => ?_) (fun f cdv A outer s0 H vs Q E hr h => ?_)
  ·
    obtain ⟨l, rfl, _⟩ := h; rfl
  ·
    obtain ⟨l, rfl, hl, q⟩ := h
    have hu := hu_of hr
    refine ⟨_, (pss_one (ps_ret (pe_and (C8.pe_c (cal_is_count T) hr (by decide) rfl (pa_cons (pv 0) pa_nil)) (pe_one (pe_cmpR op_lt (pv 0) pe_int (nomark _)))))), ?_⟩
    refine ⟨_, rfl, l, rfl, _, rfl, ?_⟩
    refine ⟨_, rfl, _, _, rfl, rfl, ?_⟩
    have e : decide ((l : Int) < 2) = true := decide_eq_true (by omega)
    dsimp only
    rw [e]; exact q
def spGates (K : PySem.W.Frag) : Sp := fun vs H Q _ => ∃ (n : Nat) (g : Addr) (ts : List Addr) (gs : List (Nat × Nat)), vs = [.int (n : Int), .ref g] ∧ SqL K H g (ts.map V.ref) ∧ GT H ts gs ∧ GOk n gs ∧ ∀ H', Kp [] H H' → Q (.bl true) H'
abbrev nm_are_gates : List Str := ["leaves", "gates", "k", "gate", "literal"]
theorem sc_are_gates : FnScope nm_are_gates ["leaves", "gates"] (C8.fnScope (st 9)) := C8.fnScope_by (by decide +kernel)
theorem cal_are_gates (T : Top K mg) : C8.Cal P w K mg base (3) "are_gates" (spGates K) [] := by
  refine calD T.d_are_gates sc_are_gates (fun vs H Q E h => ?_) (fun f cdv A outer s0 H vs Q E hr h => ?_)
  ·
    obtain ⟨n, g, ts, gs, rfl, _⟩ := h; rfl
  ·
    obtain ⟨n, g, ts, gs, rfl, hL, hT, hG, q⟩ := h
    have hu := hu_of hr
    refine ⟨_, (pss_cons (ps_if (pt_not (pt_val (pe_callB call_isiT (by rfl) T.f_isinstance PyProof.Rows.boot_isinstance (pa_cons (pv 1) (pa_cons (pe_tup (pa_cons (pe_bltn (v := .ty "tuple") (by rfl) T.f_tuple PyProof.Rows.boot_tuple rfl) (pa_cons (pe_bltn (v := .ty "list") (by rfl) T.f_list PyProof.Rows.boot_list rfl) pa_nil))) pa_nil))))) (pss_one (ps_ret pe_bl)) pss_nil)
      (pss_cons (ps_for PassesOwn.never rfl (pi_enum (by rfl) T.f_enumerate (pa_cons (pv 1) pa_nil)) (pg_tup rfl (pgs_cons (pg_name (i := 2) sc_are_gates.nd rfl (Or.inr rfl)) (pgs_cons (pg_name (i := 3) sc_are_gates.nd rfl (Or.inl rfl)) pgs_nil))) (pss_cons (ps_if (PW.pt (pw_or (pt_not (pt_val (pe_callB call_isiT (by rfl) T.f_isinstance PyProof.Rows.boot_isinstance (pa_cons (pv 3) (pa_cons (pe_tup (pa_cons (pe_bltn (v := .ty "tuple") (by rfl) T.f_tuple PyProof.Rows.boot_tuple rfl) (pa_cons (pe_bltn (v := .ty "list") (by rfl) T.f_list PyProof.Rows.boot_list rfl) pa_nil))) pa_nil))))) (pw_or1 (pt_cmpR op_ne (pe_callB call_len_seq (by rfl) T.f_len PySem.boot_len (pa_cons (pv 3) pa_nil)) pe_int (nomark _))))) (pss_one (ps_ret pe_bl)) pss_nil)
      (pss_one (ps_if (pt_not (pt_val (pe_callB (cr_all rfl) (by rfl) T.f_all PyProof.Rows.boot_all (pa_cons (pe_lc (own := [("literal", 4)]) (g := (gName 4)) (tt := tYes)  rfl sc_are_gates.nd (pi_tup (pv 3)) (blkOk_by (own := [("literal", 4)]) (N := nm_are_gates) (sc := C8.fnScope (st 9)) (by decide +kernel)) (fun _ _ _ _ _ => (pg_name (i := 4) sc_are_gates.nd rfl (Or.inl rfl))) (fun _ _ _ _ _ => pts_nil) (fun _ _ _ _ _ => (C8.pe_c (cal_is_literal T) hr (by decide) rfl (pa_cons (pv 4) (pa_cons (pe_op op_add (pe_op op_add pe_int (pv 0)) (pv 2)) pa_nil))))) pa_nil)))) (pss_one (ps_ret pe_bl)) pss_nil))))
      (pss_one (ps_ret pe_bl)))), ?_⟩
    refine ⟨_, rfl, (by show 2 ≤ sizeLine; decide), fun t nt => ⟨_, t, _, _, _, true, rfl, upd_same, clsTL, tyL (SqL.kpNew hL nt), kitL, _, rfl, ?_⟩⟩
    refine ⟨_, rfl, _, _, rfl, SqL.kpNew hL nt, for_it walk_enum (fun i σ H' => ∃ (x2 x3 x4 : Option V), σ = [some (.int (n : Int)), some (.ref g), x2, x3, x4] ∧ Kp [] H H') ⟨none, none, none, rfl, Kp.refl.new nt⟩ (fun i σ H' _ ⟨_, _, _, _, k⟩ => k.sqL0 hL) ?_ ?_⟩
    · rintro i v σ H1 H2 hi ⟨x2, x3, x4, rfl, k⟩ ⟨T0, x, y, rfl, nT, rfl, gx, gy⟩
      cases gx
      obtain ⟨tg, gt, rfl⟩ := get_map gy
      have k1 : Kp [] H (upd H1 T0 (.tup [.int (i : Nat), .ref tg])) := k.new nT
      refine ⟨T0, _, rfl, SqT.of upd_same, rfl, _, _, rfl, _, _, rfl, rfl, ?_⟩
      obtain ⟨⟨a, b⟩, gg, htg⟩ := Paired.getL hT gt
      have hta := k1.tup _ _ htg
      refine ⟨_, rfl, (by show 2 ≤ sizeLine; decide), fun t2 nt2 => ⟨_, t2, _, _, _, true, rfl, upd_same, clsTL, tyT ((Kp.refl.new nt2 (S := [])).sqT (SqT.of hta)), kitT, _, rfl, ?_⟩⟩
      have k2 := k1.new (o := .tup [.ty "tuple", .ty "list"]) nt2
      refine ⟨_, rfl, _, _, rfl, .inr (k2.sqT (SqT.of htg)), rfl, _, rfl, ?_⟩
      refine ifBF (show (!decide (V.int 2 = V.int 2)) = false by rw [decide_eq_true rfl]; rfl) ?_
      refine ⟨_, rfl, _, rfl, ⟨_, k2.sqT (SqT.of htg)⟩, fun D nD => ?_⟩
      have hab := hG i a b gg
      refine lc_it walk_tup (fun j H' => H' D = some (.lst ((List.replicate j true).map V.bl)) ∧ Kp [] H H') ⟨upd_same, k2.new nD⟩ (fun j H' _ ⟨_, k⟩ => k.sqT (SqT.of htg)) ?_ ?_
      · rintro j x H3 H4 hj ⟨eD, k3⟩ ⟨rfl, gx⟩
        obtain ⟨l, rfl, hl⟩ : ∃ l : Nat, x = .int (l : Int) ∧ l < 2 * (1 + n + i) := by
          have hj' : j = 0 ∨ j = 1 := by have : j < 2 := hj; omega
          rcases hj' with rfl | rfl
          · exact ⟨a, (Option.some.inj gx).symm, hab.1⟩
          · exact ⟨b, (Option.some.inj gx).symm, hab.2⟩
        refine ⟨rfl, ?_⟩
        refine ⟨_, rfl, _, rfl, _, _, rfl, rfl, _, rfl, _, _, rfl, rfl, l, 1 + n + i, rfl, hl, _, eD, small _ (by rw [List.length_map, List.length_replicate]; have : j < 2 := hj; omega), ?_, k3.put (k2.free nD)⟩
        rw [upd_same, List.replicate_succ', List.map_append]; rfl
      · rintro H3 ⟨eD, k3⟩
        refine ⟨_, _, rfl, SqL.of eD, _, rfl, ?_⟩
        exact ⟨_, _, _, rfl, k3⟩
    · rintro σ H1 ⟨x2, x3, x4, rfl, k⟩
      exact q H1 k
def spBits (K : PySem.W.Frag) : Sp := fun vs H Q _ => ∃ (p : Addr) (bs : List Nat), vs = [.ref p, .int (bs.length : Int)] ∧ SqL K H p (bs.map lit) ∧ (∀ b ∈ bs, b < 2) ∧ bs.length ≤ 1000000 ∧ ∀ H', Kp [] H H' → Q (.bl true) H'
abbrev nm_are_bits : List Str := ["value", "many", "bit"]
theorem sc_are_bits : FnScope nm_are_bits ["value", "many"] (C8.fnScope (st 13)) := C8.fnScope_by (by decide +kernel)
theorem cal_are_bits (T : Top K mg) : C8.Cal P w K mg base (3) "are_bits" (spBits K) [] := by
  refine calD T.d_are_bits sc_are_bits (fun vs H Q E h => ?_) (fun f cdv A outer s0 H vs Q E hr h => ?_)
  ·
    obtain ⟨p, bs, rfl, _⟩ := h; rfl
  ·
    obtain ⟨p, bs, rfl, hL, hb, hz, q⟩ := h
    have hu := hu_of hr
    refine ⟨_, (pss_one (ps_ret (pe_and (pe_callB call_isiT (by rfl) T.f_isinstance PyProof.Rows.boot_isinstance (pa_cons (pv 0) (pa_cons (pe_tup (pa_cons (pe_bltn (v := .ty "tuple") (by rfl) T.f_tuple PyProof.Rows.boot_tuple rfl) (pa_cons (pe_bltn (v := .ty "list") (by rfl) T.f_list PyProof.Rows.boot_list rfl) pa_nil))) pa_nil))) (pe_and (pe_cmpR op_eq (pe_callB call_len_seq (by rfl) T.f_len PySem.boot_len (pa_cons (pv 0) pa_nil)) (pv 1) (nomark _)) (pe_one (pe_callB (cr_all rfl) (by rfl) T.f_all PyProof.Rows.boot_all (pa_cons (pe_lc (own := [("bit", 2)]) (g := (gName 2)) (tt := tYes)  rfl sc_are_bits.nd (pi_list (pv 0)) (blkOk_by (own := [("bit", 2)]) (N := nm_are_bits) (sc := C8.fnScope (st 13)) (by decide +kernel)) (fun _ _ _ _ _ => (pg_name (i := 2) sc_are_bits.nd rfl (Or.inl rfl))) (fun _ _ _ _ _ => pts_nil) (fun _ _ _ _ _ => (C8.pe_c (cal_is_bit T) hr (by decide) rfl (pa_cons (pv 2) pa_nil)))) pa_nil))))))), ?_⟩
    refine ⟨_, rfl, (by show 2 ≤ sizeLine; decide), fun t nt => ⟨_, t, _, _, _, true, rfl, upd_same, clsTL, tyL (SqL.kpNew hL nt), kitL, _, rfl, ?_⟩⟩
    have k1 : Kp [] H (upd H t (.tup [.ty "tuple", .ty "list"])) := Kp.refl.new nt
    refine ⟨_, rfl, _, _, rfl, .inl (k1.sqL0 hL), _, rfl, rfl, _, rfl, ?_⟩
    refine ifBT (show decide (V.int _ = V.int _) = true from decide_eq_true (by rw [List.length_map])) ?_
    refine ⟨_, rfl, _, rfl, ⟨_, k1.sqL0 hL⟩, fun D nD => ?_⟩
    refine lc_it walk_list (fun j H' => H' D = some (.lst ((List.replicate j true).map V.bl)) ∧ Kp [] H H') ⟨upd_same, k1.new nD⟩ (fun j H' _ ⟨_, k⟩ => k.sqL0 hL) ?_ ?_
    · rintro j x H3 H4 hj ⟨eD, k3⟩ ⟨rfl, gx⟩
      obtain ⟨l, gl, rfl⟩ := get_map gx
      refine ⟨rfl, ?_⟩
      refine ⟨_, rfl, l, rfl, hb l (List.mem_of_getElem? gl), _, eD, small _ (by rw [List.length_map, List.length_replicate]; rw [List.length_map] at hj; omega), ?_, k3.put (k1.free nD)⟩
      rw [upd_same, List.replicate_succ', List.map_append]; rfl
    · rintro H3 ⟨eD, k3⟩
      refine ⟨_, _, rfl, SqL.of eD, ?_⟩
      have e : ∀ n, (List.replicate n true).all id = true := fun n => by rw [List.all_replicate]; cases n <;> rfl
      rw [e]
      exact q H3 k3
theorem Kp.drop {H H1 H2 : Hp} {x : Addr} (k : Kp [] H H1) (m : Kp [x] H1 H2) (n0 : H x = none) : Kp [] H H2 :=
  ⟨fun b o h n => m.at_ b o (k.at_ b o h n) (not1 (ne_of_none h n0)), fun b xs h => m.tup b xs (k.tup b xs h), fun b o u h => m.frz b o u (k.frz b o u h), fun h => k.free (m.free h)⟩
theorem Kp.putI {H H1 : Hp} {x C dx : Addr} {fs : List (Str × V)} {o : HO} {S : List Addr} (k : Kp S H H1) (e : H x = some (.ins C dx fs)) (m : x ∈ S) (e1 : ∃ o, H1 x = some o) : Kp S H (upd H1 x o) :=
  k.putS m (fun xs z => by rw [e] at z; cases z) (fun o u z => by rw [e] at z; cases z) e1
theorem SqT.putI {H : Hp} {x C dx p : Addr} {fs : List (Str × V)} {o : HO} {xs : List V} (e : H x = some (.ins C dx fs)) (h : SqT K H p xs) : SqT K (upd H x o) p xs :=
  (Kp.refl.putI e (List.mem_singleton.mpr rfl) ⟨_, e⟩ : Kp [x] H (upd H x o)).sqT h
def rTupOf (K : PySem.W.Frag) : List V → Hp → VK → Prop := fun xs H Q => ∃ p ys, xs = [.ref p] ∧ ((SqL K H p ys ∧ ∀ l, H l = none → Q (.ref l) (upd H l (.tup ys))) ∨ (SqT K H p ys ∧ Q (.ref p) H))
theorem call_tuple_ofK {X : Cx} {K : PySem.W.Frag} (h : X.K = K) : CallR X (.type "tuple") (rTupOf K) := by subst h; exact call_tuple_of
def spGraph (K : PySem.W.Frag) : Sp := fun vs H Q _ => ∃ (x dx : Addr) (n : Nat) (g : Addr) (ts : List Addr) (gs : List (Nat × Nat)), vs = [.ref x, .int (n : Int), .ref g] ∧ H x = some (.ins (cGraph K) dx []) ∧ H g = some (.lst (ts.map V.ref)) ∧ GT H ts gs ∧ GOk n gs ∧ gs.length ≤ big ∧
  ∀ H' tg, Kp [x] H H' → H' x = some (.ins (cGraph K) dx [("leaves", .int (n : Int)), ("gates", .ref tg)]) → SqT K H' tg (ts.map V.ref) → Q .non H'
abbrev nm_Graph___init__ : List Str := ["self", "leaves", "gates", "gate"]
theorem sc_Graph : FnScope nm_Graph___init__ ["self", "leaves", "gates"] (C8.fnScope (ms 10 0)) := C8.fnScope_by (by decide +kernel)
theorem mak_Graph (T : Top K mg) : C8.Mak P w K mg base (4) "Graph" (He.ga K "Graph") (spGraph K) [] := by
  refine makD T.g_Graph T.k_Graph sc_Graph (fun vs H Q E h => ?_) (fun f cdv A outer s0 H vs Q E hr h => ?_)
  ·
    obtain ⟨x, dx, n, g, ts, gs, rfl, _⟩ := h; rfl
  ·
    obtain ⟨x, dx, n, g, ts, gs, rfl, hx, hL, hT, hG, hz, q⟩ := h
    have hu := hu_of hr
    refine ⟨_, (pss_cons (ps_if (pt_not (pt_val (C8.pe_c (cal_is_count T) hr (by decide) rfl (pa_cons (pv 1) pa_nil)))) (pss_one ps_never) pss_nil)
      (pss_cons (ps_if (pt_not (pt_val (C8.pe_c (cal_are_gates T) hr (by decide) rfl (pa_cons (pv 1) (pa_cons (pv 2) pa_nil))))) (pss_one ps_never) pss_nil)
      (pss_cons (ps_fld (pv 0) (pv 1) rfl)
      (pss_one (ps_fld (pv 0) (pe_callTy call_tuple_of (by rfl) T.f_tuple PyProof.Rows.boot_tuple (pa_cons (pe_lc (own := [("gate", 3)]) (g := (gName 3)) (tt := tYes)  rfl sc_Graph.nd (pi_list (pv 2)) (blkOk_by (own := [("gate", 3)]) (N := nm_Graph___init__) (sc := C8.fnScope (ms 10 0)) (by decide +kernel)) (fun _ _ _ _ _ => (pg_name (i := 3) sc_Graph.nd rfl (Or.inl rfl))) (fun _ _ _ _ _ => pts_nil) (fun _ _ _ _ _ => (pe_callTy (call_tuple_ofK (K := K) rfl) (by rfl) T.f_tuple PyProof.Rows.boot_tuple (pa_cons (pv 3) pa_nil)))) pa_nil)) rfl))))), ?_⟩
    refine ⟨_, rfl, n, rfl, _, rfl, ?_⟩
    refine ⟨_, rfl, _, rfl, n, g, ts, gs, rfl, SqL.of hL, hT, hG, fun H1 k1 => ⟨_, rfl, ?_⟩⟩
    refine ⟨_, rfl, _, rfl, x, _, dx, _, rfl, k1.at_ _ _ hx (by simp), T.c_Graph, T.n_Graph_leaves, by decide, ?_⟩
    have k2 : Kp [x] H (upd H1 x (.ins (cGraph K) dx (putF "leaves" (.int (n : Int)) []))) := k1.nil.putI hx (by simp) ⟨_, k1.at_ _ _ hx (by simp)⟩
    have hgx : g ≠ x := fun e => by rw [e, hx] at hL; cases hL
    have hsq : ∀ {H'}, Kp [x] H H' → SqL K H' g (ts.map V.ref) := fun k => k.sqL (SqL.of hL) (not1 hgx)
    refine ⟨_, rfl, _, rfl, ⟨_, hsq k2⟩, fun D nD => ?_⟩
    refine lc_it walk_list (fun j H' => H' D = some (.lst ((ts.take j).map V.ref)) ∧ Kp [x] H H' ∧ H' x = some (.ins (cGraph K) dx (putF "leaves" (.int (n : Int)) []))) ⟨upd_same, k2.new nD, (upd_ne (ne_of_none upd_same nD)).trans upd_same⟩ (fun j H' _ ⟨_, k, _⟩ => hsq k) ?_ ?_
    · rintro j v H3 H4 hj ⟨eD, k3, ex⟩ ⟨rfl, gx⟩
      obtain ⟨t, gt, rfl⟩ := get_map gx
      obtain ⟨ab, gg, ht⟩ := Paired.getL hT gt
      refine ⟨rfl, ?_⟩
      refine ⟨_, rfl, _, _, rfl, .inr ⟨SqT.of (k3.tup _ _ ht), _, eD, ?_, ?_, k3.put (k2.free nD), ?_⟩⟩
      · rw [List.length_map, List.length_take]
        have h1 : ts.length = gs.length := Paired.len hT
        exact Nat.lt_of_le_of_lt (by omega) big_lt
      · rw [upd_same, List.take_add_one, gt, List.map_append]; rfl
      · exact (upd_ne (ne_of_none upd_same nD)).trans ex
    · rintro H3 ⟨eD, k3, ex⟩
      rw [List.length_map, List.take_length] at eD
      refine ⟨_, _, rfl, .inl ⟨SqL.of eD, fun p np => ?_⟩⟩
      have ex2 := (upd_ne (o := .tup (ts.map V.ref)) (ne_of_none ex np)).trans ex
      have k4 := k3.new (o := .tup (ts.map V.ref)) np
      refine ⟨_, rfl, x, _, dx, _, rfl, ex2, T.c_Graph, T.n_Graph_gates, (by show 1 < 1000; decide), ?_⟩
      have hpx : p ≠ x := (ne_of_none ex np).symm
      refine q _ p (k4.putI hx (by simp) ⟨_, ex2⟩) upd_same ?_
      exact (Kp.refl.putI ex2 (List.mem_singleton.mpr rfl) ⟨_, ex2⟩ : Kp [x] _ _).sqT (SqT.of upd_same)
/-! ### the builder's object -/
def spBuilder (K : PySem.W.Frag) : Sp := fun vs H Q _ => ∃ (x dx : Addr) (n : Nat), vs = [.ref x, .int (n : Int)] ∧ H x = some (.ins (cBuilder K) dx []) ∧ ∀ H' g d, Kp [x] H H' → BAt K H' x g d n [] → H g = none → H d = none → Q .non H'
abbrev nm_Builder___init__ : List Str := ["self", "leaves"]
theorem sc_Builder : FnScope nm_Builder___init__ ["self", "leaves"] (C8.fnScope (ms 14 0)) := C8.fnScope_by (by decide +kernel)
theorem mak_Builder (T : Top K mg) : C8.Mak P w K mg base (2) "Builder" (He.ga K "Builder") (spBuilder K) [] := by
  refine makD T.g_Builder T.k_Builder sc_Builder (fun vs H Q E h => ?_) (fun f cdv A outer s0 H vs Q E hr h => ?_)
  ·
    obtain ⟨x, dx, n, rfl, _⟩ := h; rfl
  ·
    obtain ⟨x, dx, n, rfl, hx, q⟩ := h
    have hu := hu_of hr
    refine ⟨_, (pss_cons (ps_if (pt_not (pt_val (C8.pe_c (cal_is_count T) hr (by decide) rfl (pa_cons (pv 1) pa_nil)))) (pss_one ps_never) pss_nil)
      (pss_cons (ps_fld (pv 0) (pv 1) rfl)
      (pss_cons (ps_fld (pv 0) (pe_lst pa_nil) rfl)
      (pss_one (ps_fld (pv 0) pe_dnewT rfl))))), ?_⟩
    refine ⟨_, rfl, n, rfl, _, rfl, ?_⟩
    refine ⟨_, rfl, _, rfl, x, _, dx, _, rfl, hx, T.c_Builder, T.n_Builder_leaves, (by show 0 < 1000; decide), ?_⟩
    have k1 : Kp [x] H (upd H x (.ins (cBuilder K) dx (putF "leaves" (.int (n : Int)) []))) := Kp.refl.putI hx (by simp) ⟨_, hx⟩
    refine ⟨(by show 0 ≤ sizeLine; decide), fun g ng => ?_⟩
    have k2 := k1.new (o := .lst []) ng
    have ex2 := (upd_ne (o := .lst []) (ne_of_none upd_same ng)).trans (upd_same (H := H) (a := x) (o := .ins (cBuilder K) dx (putF "leaves" (.int (n : Int)) [])))
    refine ⟨_, rfl, x, _, dx, _, rfl, ex2, T.c_Builder, T.n_Builder_gates, (by show 1 < 1000; decide), ?_⟩
    have k3 := k2.putI (o := .ins (cBuilder K) dx (putF "gates" (.ref g) (putF "leaves" (.int (n : Int)) []))) hx (by simp) ⟨_, ex2⟩
    have hgx : g ≠ x := (ne_of_none upd_same ng).symm
    refine fun d nd => ?_
    have k4 := k3.new (o := .dT []) nd
    have hdx : d ≠ x := (ne_of_none upd_same nd).symm
    have ex4 := (upd_ne (o := .dT []) hdx.symm).trans (upd_same (H := upd (upd H x (.ins (cBuilder K) dx (putF "leaves" (.int (n : Int)) []))) g (.lst [])) (a := x) (o := .ins (cBuilder K) dx (putF "gates" (.ref g) (putF "leaves" (.int (n : Int)) []))))
    refine ⟨_, rfl, x, _, dx, _, rfl, ex4, T.c_Builder, T.n_Builder_places, (by show 2 < 1000; decide), ?_⟩
    have hdg : g ≠ d := ne_of_none (o := .lst []) ((upd_ne hgx).trans upd_same) nd
    refine q _ g d (k4.putI hx (by simp) ⟨_, ex4⟩) ⟨⟨dx, upd_same⟩, ⟨[], ?_, .nil⟩, ⟨[], ?_, fun a b v e => (by simp [valV] at e), Nat.le_refl _⟩, fun k a b e => (by simp at e)⟩ (k1.free ng) (k3.free nd)
    · rw [upd_ne hgx, upd_ne hdg, upd_ne hgx, upd_same]; rfl
    · rw [upd_ne hdx, upd_same]
/-- a graph's object -/
structure GrAt (K : PySem.W.Frag) (H : Hp) (G : Addr) (n : Nat) (gs : List (Nat × Nat)) : Prop where
  ex : ∃ dx tg ts, H G = some (.ins (cGraph K) dx [("leaves", .int (n : Int)), ("gates", .ref tg)]) ∧ SqT K H tg (ts.map V.ref) ∧ GT H ts gs
theorem GrAt.kp {S : List Addr} {H H' : Hp} {G : Addr} {n : Nat} {gs : List (Nat × Nat)} (x : GrAt K H G n gs) (k : Kp S H H') (h : G ∉ S) : GrAt K H' G n gs := by
  obtain ⟨⟨dx, tg, ts, h1, h2, h3⟩⟩ := x
  exact ⟨⟨dx, tg, ts, k.at_ _ _ h1 h, k.sqT h2, h3.kp k⟩⟩
def spGr (K : PySem.W.Frag) : Sp := fun vs H Q _ => ∃ (b g d : Addr) (n : Nat) (gs : List (Nat × Nat)), vs = [.ref b] ∧ BAt K H b g d n gs ∧ gs.length ≤ big ∧ ∀ H' G, Kp [] H H' → H G = none → GrAt K H' G n gs → Q (.ref G) H'
abbrev nm_Builder_graph : List Str := ["self"]
theorem sc_Builder_graph : FnScope nm_Builder_graph ["self"] (C8.fnScope (ms 14 1)) := C8.fnScope_by (by decide +kernel)
theorem met_graph (T : Top K mg) : C8.Met P w K mg base (6) (He.ga K "Builder") "graph" (spGr K) [] := by
  refine metD T.c_Builder T.m_graph sc_Builder_graph (fun vs H Q E h => ?_) (fun f cdv A outer s0 H vs Q E hr h => ?_)
  ·
    obtain ⟨b, g, d, n, gs, rfl, _⟩ := h; rfl
  ·
    obtain ⟨b, g, d, n, gs, rfl, hB, hz, q⟩ := h
    have hu := hu_of hr
    refine ⟨_, (pss_one (ps_ret (C8.pe_mk (mak_Graph T) hr (by decide) rfl (pa_cons (pe_fld (pv 0) rfl) (pa_cons (pe_fld (pv 0) rfl) pa_nil))))), ?_⟩
    obtain ⟨⟨dxb, h1⟩, ⟨ts, h2, h3⟩, ⟨kvs, h4, h5⟩, h6⟩ := hB
    refine ⟨_, rfl, b, _, dxb, _, _, rfl, h1, T.c_Builder, T.n_Builder_leaves, bF_leaves _ _ _, ?_⟩
    refine ⟨_, rfl, b, _, dxb, _, _, rfl, h1, T.c_Builder, T.n_Builder_gates, bF_gates _ _ _, ?_⟩
    refine fun x dx nx ndx ne => ?_
    have k1 : Kp [] H (upd (upd H dx (.own x)) x (.ins (cGraph K) dx [])) := (Kp.refl.new ndx).new ((upd_ne ne.symm).trans nx)
    refine ⟨x, dx, n, g, ts, gs, rfl, upd_same, k1.at_ _ _ h2 (by simp), h3.kp k1, h6, hz, fun H1 tg k2 e1 e2 => ⟨rfl, ?_⟩⟩
    exact q H1 x (k1.drop k2 nx) nx ⟨⟨dx, tg, ts, e1, e2, (h3.kp k1).kp k2⟩⟩
/-! ### the machine's object -/
def mF (G tr tn : Addr) (i w : Nat) : List (Str × V) := [("graph", .ref G), ("inputs", .int (i : Int)), ("resets", .ref tr), ("nexts", .ref tn), ("wish", .int (w : Int))]
structure MacIn (K : PySem.W.Frag) (H : Hp) (G : Addr) (n : Nat) (gs : List (Nat × Nat)) (i : Nat) (pr pn : Addr) (rs ns : List Nat) (w : Nat) : Prop where
  gr : GrAt K H G n gs
  le : i ≤ n
  rl : H pr = some (.lst (rs.map lit))
  nl : H pn = some (.lst (ns.map lit))
  rn : rs.length = n - i
  nn : ns.length = n - i
  rb : ∀ b ∈ rs, b < 2
  no : WOk n gs ns
  wo : Ok n gs w
  small : n ≤ 100000 ∧ gs.length ≤ big
def spMachine (K : PySem.W.Frag) : Sp := fun vs H Q _ => ∃ (x dx G : Addr) (n : Nat) (gs : List (Nat × Nat)) (i : Nat) (pr pn : Addr) (rs ns : List Nat) (w : Nat), vs = [.ref x, .ref G, .int (i : Int), .ref pr, .ref pn, .int (w : Int)] ∧ H x = some (.ins (cMachine K) dx []) ∧ MacIn K H G n gs i pr pn rs ns w ∧
  ∀ H' tr tn, Kp [x] H H' → H' x = some (.ins (cMachine K) dx (mF G tr tn i w)) → WAt K H' tr rs → WAt K H' tn ns → Q .non H'
abbrev nm_Machine___init__ : List Str := ["self", "graph", "inputs", "resets", "nexts", "wish", "nodes", "literal"]
theorem sc_Machine : FnScope nm_Machine___init__ ["self", "graph", "inputs", "resets", "nexts", "wish"] (C8.fnScope (ms 19 0)) := C8.fnScope_by (by decide +kernel)
theorem mak_Machine (T : Top K mg) : C8.Mak P w K mg base (4) "Machine" (He.ga K "Machine") (spMachine K) [] := by
  refine makD T.g_Machine T.k_Machine sc_Machine (fun vs H Q E h => ?_) (fun f cdv A outer s0 H vs Q E hr h => ?_)
  ·
    obtain ⟨x, dx, G, n, gs, i, pr, pn, rs, ns, w', rfl, _⟩ := h; rfl
  ·
    obtain ⟨x, dx, G, n, gs, i, pr, pn, rs, ns, w', rfl, hx, hM, q⟩ := h
    have hu := hu_of hr
    refine ⟨_, (pss_cons (ps_if (PW.pt (pw_or (pt_not (pt_val (C8.pe_c (cal_is_count T) hr (by decide) rfl (pa_cons (pv 2) pa_nil)))) (pw_or1 (pt_cmpR op_gt (pv 2) (pe_fld (pv 1) rfl) (nomark _))))) (pss_one ps_never) pss_nil)
      (pss_cons (ps_if (pt_not (pt_val (C8.pe_c (cal_are_bits T) hr (by decide) rfl (pa_cons (pv 3) (pa_cons (pe_op op_sub (pe_fld (pv 1) rfl) (pv 2)) pa_nil))))) (pss_one ps_never) pss_nil)
      (pss_cons (ps_set (i := 6) sc_Machine.nd rfl (Or.inr rfl) (pe_op op_add (pe_op op_add pe_int (pe_fld (pv 1) rfl)) (pe_callB call_len_seq (by rfl) T.f_len PySem.boot_len (pa_cons (pe_fld (pv 1) rfl) pa_nil))))
      (pss_cons (ps_if (PW.pt (pw_or (pt_not (pt_val (pe_callB call_isiT (by rfl) T.f_isinstance PyProof.Rows.boot_isinstance (pa_cons (pv 4) (pa_cons (pe_tup (pa_cons (pe_bltn (v := .ty "tuple") (by rfl) T.f_tuple PyProof.Rows.boot_tuple rfl) (pa_cons (pe_bltn (v := .ty "list") (by rfl) T.f_list PyProof.Rows.boot_list rfl) pa_nil))) pa_nil))))) (pw_or1 (pt_cmpR op_ne (pe_callB call_len_seq (by rfl) T.f_len PySem.boot_len (pa_cons (pv 4) pa_nil)) (pe_op op_sub (pe_fld (pv 1) rfl) (pv 2)) (nomark _))))) (pss_one ps_never) pss_nil)
      (pss_cons (ps_if (pt_not (pt_val (pe_callB (cr_all rfl) (by rfl) T.f_all PyProof.Rows.boot_all (pa_cons (pe_lc (own := [("literal", 7)]) (g := (gName 7)) (tt := tYes)  rfl sc_Machine.nd (pi_list (pv 4)) (blkOk_by (own := [("literal", 7)]) (N := nm_Machine___init__) (sc := C8.fnScope (ms 19 0)) (by decide +kernel)) (fun _ _ _ _ _ => (pg_name (i := 7) sc_Machine.nd rfl (Or.inl rfl))) (fun _ _ _ _ _ => pts_nil) (fun _ _ _ _ _ => (C8.pe_c (cal_is_literal T) hr (by decide) rfl (pa_cons (pv 7) (pa_cons (pv 6) pa_nil))))) pa_nil)))) (pss_one ps_never) pss_nil)
      (pss_cons (ps_if (pt_not (pt_val (C8.pe_c (cal_is_literal T) hr (by decide) rfl (pa_cons (pv 5) (pa_cons (pv 6) pa_nil))))) (pss_one ps_never) pss_nil)
      (pss_cons (ps_fld (pv 0) (pv 1) rfl)
      (pss_cons (ps_fld (pv 0) (pv 2) rfl)
      (pss_cons (ps_fld (pv 0) (pe_callTy call_tuple_of (by rfl) T.f_tuple PyProof.Rows.boot_tuple (pa_cons (pv 3) pa_nil)) rfl)
      (pss_cons (ps_fld (pv 0) (pe_callTy call_tuple_of (by rfl) T.f_tuple PyProof.Rows.boot_tuple (pa_cons (pv 4) pa_nil)) rfl)
      (pss_one (ps_fld (pv 0) (pv 5) rfl)))))))))))), ?_⟩
    obtain ⟨⟨dg, tg, ts, g1, g2, g3⟩⟩ := hM.gr
    have le := hM.le
    have hGx : G ≠ x := fun e => by
      rw [e, hx] at g1
      injection Option.some.inj g1 with _ _ c
      cases c
    have gl : ([("leaves", .int (n : Int)), ("gates", .ref tg)] : List (Str × V)).lookup ("leaves" : Str) = some (V.int (n : Int)) := rfl
    have gg : ([("leaves", .int (n : Int)), ("gates", .ref tg)] : List (Str × V)).lookup ("gates" : Str) = some (V.ref tg) := rfl
    have hni : ((n : Int) - (i : Int)) = ((n - i : Nat) : Int) := by omega
    have hn1 := hM.small.1
    have hn2 := hM.small.2
    have hrn := hM.rn
    have hnn := hM.nn
    have htl : ts.length = gs.length := Paired.len g3
    have Gw : ∀ {H'}, Kp [] H H' → H' G = some (.ins (cGraph K) dg [("leaves", .int (n : Int)), ("gates", .ref tg)]) := fun k => k.at_ _ _ g1 (by simp)
    refine ⟨_, rfl, i, rfl, _, rfl, ?_⟩
    refine ⟨_, rfl, _, rfl, G, _, dg, _, _, rfl, g1, T.c_Graph, T.n_Graph_leaves, gl, _, _, rfl, rfl, _, rfl, ?_⟩
    refine ifBF (decide_eq_false (by omega)) ?_
    refine ⟨_, rfl, _, rfl, G, _, dg, _, _, rfl, g1, T.c_Graph, T.n_Graph_leaves, gl, _, rfl, _, _, rfl, rfl, pr, rs, by dsimp only; rw [hni, hrn]; rfl, SqL.of hM.rl, hM.rb, by omega, fun H1 k1 => ⟨_, rfl, ?_⟩⟩
    refine ⟨_, rfl, G, _, dg, _, _, rfl, Gw k1, T.c_Graph, T.n_Graph_leaves, gl, _, _, rfl, rfl, _, rfl, G, _, dg, _, _, rfl, Gw k1, T.c_Graph, T.n_Graph_gates, gg, _, _, rfl, .inr (k1.sqT g2), _, _, rfl, rfl, ?_⟩
    refine ⟨_, rfl, (by show 2 ≤ sizeLine; decide), fun t nt => ⟨_, t, _, _, _, true, rfl, upd_same, clsTL, tyL ((k1.new nt).sqL0 (SqL.of hM.nl)), kitL, _, rfl, ?_⟩⟩
    have k2 := k1.new (o := .tup [.ty "tuple", .ty "list"]) nt
    refine ⟨_, rfl, _, _, rfl, .inl (k2.sqL0 (SqL.of hM.nl)), _, rfl, G, _, dg, _, _, rfl, Gw k2, T.c_Graph, T.n_Graph_leaves, gl, _, rfl, _, _, rfl, rfl, rfl, _, rfl, ?_⟩
    refine ifBF (show (!decide (V.int _ = V.int _)) = false by rw [decide_eq_true (by rw [List.length_map, hni, hnn])]; rfl) ?_
    have en : ((1 : Int) + (n : Int) + ((ts.map V.ref).length : Int)) = ((1 + n + gs.length : Nat) : Int) := by rw [List.length_map, htl]; omega
    refine ⟨_, rfl, _, rfl, ⟨_, k2.sqL0 (SqL.of hM.nl)⟩, fun D nD => ?_⟩
    refine lc_it walk_list (fun j H' => H' D = some (.lst ((List.replicate j true).map V.bl)) ∧ Kp [] H H') ⟨upd_same, k2.new nD⟩ (fun j H' _ ⟨_, k⟩ => k.sqL0 (SqL.of hM.nl)) ?_ ?_
    · rintro j v H3 H4 hj ⟨eD, k3⟩ ⟨rfl, gx⟩
      obtain ⟨l, gll, rfl⟩ := get_map gx
      rw [List.length_map] at hj
      refine ⟨rfl, ?_⟩
      refine ⟨_, rfl, _, rfl, l, 1 + n + gs.length, by rw [← en]; rfl, hM.no l (List.mem_of_getElem? gll), _, eD, small _ (by rw [List.length_map, List.length_replicate]; omega), ?_, k3.put (k2.free nD)⟩
      rw [upd_same, List.replicate_succ', List.map_append]; rfl
    · rintro H3 ⟨eD, k3⟩
      refine ⟨_, _, rfl, SqL.of eD, ?_⟩
      have e : ∀ n, (List.replicate n true).all id = true := fun n => by rw [List.all_replicate]; cases n <;> rfl
      rw [e]
      refine ⟨_, rfl, ?_⟩
      refine ⟨_, rfl, _, rfl, w', 1 + n + gs.length, by rw [← en]; rfl, hM.wo, _, rfl, ?_⟩
      have hD : ∀ {p : Addr} {l : List V}, H p = some (.lst l) → p ≠ x := fun h e => by rw [e, hx] at h; cases h
      refine ⟨_, rfl, _, rfl, x, _, dx, _, rfl, k3.at_ _ _ hx (by simp), T.c_Machine, T.n_Machine_graph, (by show 0 < 1000; decide), ?_⟩
      have m1 : Kp [x] H (upd H3 x (.ins (cMachine K) dx (putF "graph" (.ref G) []))) := k3.nil.putI hx (by simp) ⟨_, k3.at_ _ _ hx (by simp)⟩
      refine ⟨_, rfl, _, rfl, x, _, dx, _, rfl, upd_same, T.c_Machine, T.n_Machine_inputs, (by show 1 < 1000; decide), ?_⟩
      have m2 := m1.putI (o := .ins (cMachine K) dx (putF "inputs" (.int (i : Int)) (putF "graph" (.ref G) []))) hx (by simp) ⟨_, upd_same⟩
      refine ⟨_, rfl, _, _, rfl, .inl ⟨m2.sqL (SqL.of hM.rl) (not1 (hD hM.rl)), fun p1 np1 => ?_⟩⟩
      have m3 := m2.new (o := .tup (rs.map lit)) np1
      have ex3 := (upd_ne (o := .tup (rs.map lit)) (ne_of_none upd_same np1)).trans (upd_same (H := upd H3 x (.ins (cMachine K) dx (putF "graph" (.ref G) []))) (a := x) (o := .ins (cMachine K) dx (putF "inputs" (.int (i : Int)) (putF "graph" (.ref G) []))))
      have t1 : SqT K _ p1 (rs.map lit) := SqT.of (upd_same (H := upd (upd H3 x (.ins (cMachine K) dx (putF "graph" (.ref G) []))) x (.ins (cMachine K) dx (putF "inputs" (.int (i : Int)) (putF "graph" (.ref G) [])))) (a := p1) (o := .tup (rs.map lit)))
      refine ⟨_, rfl, x, _, dx, _, rfl, ex3, T.c_Machine, T.n_Machine_resets, (by show 2 < 1000; decide), ?_⟩
      have m4 := m3.putI (o := .ins (cMachine K) dx (putF "resets" (.ref p1) (putF "inputs" (.int (i : Int)) (putF "graph" (.ref G) [])))) hx (by simp) ⟨_, ex3⟩
      have x4 : Kp [x] _ _ := Kp.refl.putI (o := .ins (cMachine K) dx (putF "resets" (.ref p1) (putF "inputs" (.int (i : Int)) (putF "graph" (.ref G) [])))) ex3 (List.mem_singleton.mpr rfl) ⟨_, ex3⟩
      have t2 := x4.sqT t1
      refine ⟨_, rfl, _, _, rfl, .inl ⟨m4.sqL (SqL.of hM.nl) (not1 (hD hM.nl)), fun p2 np2 => ?_⟩⟩
      have m5 := m4.new (o := .tup (ns.map lit)) np2
      have ex5 := (upd_ne (o := .tup (ns.map lit)) (ne_of_none upd_same np2)).trans (upd_same (H := upd (upd (upd H3 x (.ins (cMachine K) dx (putF "graph" (.ref G) []))) x (.ins (cMachine K) dx (putF "inputs" (.int (i : Int)) (putF "graph" (.ref G) [])))) p1 (.tup (rs.map lit))) (a := x) (o := .ins (cMachine K) dx (putF "resets" (.ref p1) (putF "inputs" (.int (i : Int)) (putF "graph" (.ref G) [])))))
      have t3 := (Kp.refl.new (o := .tup (ns.map lit)) np2 (S := [])).sqT t2
      refine ⟨_, rfl, x, _, dx, _, rfl, ex5, T.c_Machine, T.n_Machine_nexts, (by show 3 < 1000; decide), ?_⟩
      have m6 := m5.putI (o := .ins (cMachine K) dx (putF "nexts" (.ref p2) (putF "resets" (.ref p1) (putF "inputs" (.int (i : Int)) (putF "graph" (.ref G) []))))) hx (by simp) ⟨_, ex5⟩
      have x6 : Kp [x] _ _ := Kp.refl.putI (o := .ins (cMachine K) dx (putF "nexts" (.ref p2) (putF "resets" (.ref p1) (putF "inputs" (.int (i : Int)) (putF "graph" (.ref G) []))))) ex5 (List.mem_singleton.mpr rfl) ⟨_, ex5⟩
      have t4 := x6.sqT t3
      have u4 := x6.sqT (K := K) (SqT.of upd_same (xs := ns.map lit))
      refine ⟨_, rfl, _, rfl, x, _, dx, _, rfl, upd_same, T.c_Machine, T.n_Machine_wish, (by show 4 < 1000; decide), ?_⟩
      have m7 := m6.putI (o := .ins (cMachine K) dx (mF G p1 p2 i w')) hx (by simp) ⟨_, upd_same⟩
      exact q _ p1 p2 m7 upd_same (SqT.putI upd_same t4) (SqT.putI upd_same u4)
end
end K14
/-! the pen and its draws -/
namespace K14
open PySem PySem.Spec PyProof.Rows L2
def penK (L : Addr) (a d c f : Nat) : List (Key × V) := [(Sum.inr "cells", .ref L), (Sum.inr "at", .int (a : Int)), (Sum.inr "digits", .int (d : Int)), (Sum.inr "count", .int (c : Int)), (Sum.inr "fold", .int (f : Int))]
section
variable (L : Addr) (a d c f : Nat)
theorem pen_cells : valV (penK L a d c f) (Sum.inr "cells") = some (.ref L) := by rfl
theorem pen_at : valV (penK L a d c f) (Sum.inr "at") = some (.int (a : Int)) := by rfl
theorem pen_digits : valV (penK L a d c f) (Sum.inr "digits") = some (.int (d : Int)) := by rfl
theorem pen_count : valV (penK L a d c f) (Sum.inr "count") = some (.int (c : Int)) := by rfl
theorem pen_fold : valV (penK L a d c f) (Sum.inr "fold") = some (.int (f : Int)) := by rfl
theorem pen_at' (x : Nat) : putK (penK L a d c f) (Sum.inr "at") (.int (x : Int)) = penK L x d c f := by rfl
theorem pen_digits' (x : Nat) : putK (penK L a d c f) (Sum.inr "digits") (.int (x : Int)) = penK L a x c f := by rfl
theorem pen_count' (x : Nat) : putK (penK L a d c f) (Sum.inr "count") (.int (x : Int)) = penK L a d x f := by rfl
theorem pen_fold' (x : Nat) : putK (penK L a d c f) (Sum.inr "fold") (.int (x : Int)) = penK L a d c x := by rfl
end
/-- the pen, c draws behind it -/
structure PenAt (H : Hp) (p L : Addr) (c : Nat) : Prop where
  ex : ∃ (a d f : Nat) (ns : List Int), H p = some (.dK (penK L a d c f)) ∧ H L = some (.lst (ns.map V.int)) ∧ f < 2147483587
theorem PenAt.kp {S : List Addr} {H H' : Hp} {p L : Addr} {c : Nat} (x : PenAt H p L c) (k : Kp S H H') (h1 : p ∉ S) (h2 : L ∉ S) : PenAt H' p L c := by
  obtain ⟨⟨a, d, f, ns, e1, e2, e3⟩⟩ := x
  exact ⟨⟨a, d, f, ns, k.at_ _ _ e1 h1, k.at_ _ _ e2 h2, e3⟩⟩
theorem PenAt.kp0 {H H' : Hp} {p L : Addr} {c : Nat} (x : PenAt H p L c) (k : Kp [] H H') : PenAt H' p L c := x.kp k (fun z => nomatch z) (fun z => nomatch z)
def maxDraws : Nat := 1000000
section
variable {P : Program} {w : World} {K : PySem.W.Frag} {mg : Str → Option Value} {base : Heap}
def spPen (K : PySem.W.Frag) : Sp := fun vs H Q _ => ∃ (s : Addr) (ns : List Int), vs = [.ref s] ∧ SqL K H s (ns.map V.int) ∧ ∀ H' p L, Kp [] H H' → PenAt H' p L 0 → Q (.ref p) H'
abbrev nm_law_pen : List Str := ["_law_script", "_law_fold", "_law_cell"]
theorem sc_law_pen : FnScope nm_law_pen ["_law_script"] (C8.fnScope (st 39)) := C8.fnScope_by (by decide +kernel)
theorem cal_law_pen (T : Top K mg) : C8.Cal P w K mg base (1) "_law_pen" (spPen K) [] := by
  refine calD T.d__law_pen sc_law_pen (fun vs H Q E h => ?_) (fun f cdv A outer s0 H vs Q E hr h => ?_)
  ·
    obtain ⟨s, ns, rfl, _⟩ := h; rfl
  ·
    obtain ⟨s, ns, rfl, hS, q⟩ := h
    have hu := hu_of hr
    refine ⟨_, (pss_cons (ps_set (i := 1) sc_law_pen.nd rfl (Or.inl rfl) pe_int)
      (pss_cons (ps_for PassesOwn.never rfl (pi_list (pv 0)) (pg_name (i := 2) sc_law_pen.nd rfl (Or.inl rfl)) (pss_one (ps_set (i := 1) sc_law_pen.nd rfl (Or.inl rfl) (pe_op op_mod (pe_callTy call_int1 (by rfl) T.f_int PyProof.Rows.boot_int (pa_cons (pe_op op_add (pe_op op_mul (pv 1) pe_int) (pv 2)) pa_nil)) pe_int))))
      (pss_one (ps_ret (pe_disp (pps_cons pe_str (pe_callTy call_list_of (by rfl) T.f_list PyProof.Rows.boot_list (pa_cons (pv 0) pa_nil)) (pps_cons pe_str pe_int (pps_cons pe_str pe_int (pps_cons pe_str pe_int (pps_cons pe_str (pv 1) pps_nil))))) (by rfl) (by rfl) (fun z => by cases z) (by decide)))))), ?_⟩
    refine ⟨_, rfl, _, rfl, ⟨_, hS⟩, for_it walk_list (fun i σ H' => ∃ (f : Nat) (x2 : Option V), σ = [some (.ref s), some (.int (f : Int)), x2] ∧ H = H' ∧ f < 2147483587) ⟨0, none, rfl, rfl, by decide⟩ (fun i σ H' _ ⟨f, x2, _, e, _⟩ => by rw [← e]; exact hS) ?_ ?_⟩
    · rintro i v σ H0 H1 hi ⟨f, x2, rfl, rfl, hf⟩ ⟨e, gx⟩
      subst e
      obtain ⟨n, gn, rfl⟩ := get_map gx
      refine ⟨_, rfl, _, _, rfl, rfl, .inl (by omega), _, rfl, _, _, rfl, rfl, .inl ⟨_, rfl, _, _, rfl, rfl, (by decide : (0 : Int) < 1000000007), ?_⟩⟩
      have e1 : ((f : Int) * 47 + n) % 1000000007 = ((((f : Int) * 47 + n) % 1000000007).toNat : Int) := (Int.toNat_of_nonneg (by omega)).symm
      refine ⟨_, _, by dsimp only; rw [e1]; rfl, rfl, by omega⟩
    · rintro σ H1 ⟨f, x2, rfl, rfl, hf⟩
      refine fun d nd => ?_
      refine ⟨_, rfl, _, _, rfl, .inl ((Kp.refl.new nd (S := [])).sqL0 hS), fun l nl => ?_⟩
      have e2 : (upd (upd H d (.dK [])) l (.lst (ns.map V.int))) d = some (.dK []) := (upd_ne (ne_of_none upd_same nl)).trans upd_same
      refine ⟨_, rfl, e2, penK l 0 0 0 f, rfl, (by show 5 ≤ 15; decide), ?_⟩
      have hld : l ≠ d := (ne_of_none upd_same nl).symm
      have k2 : Kp [] H (upd (upd H d (.dK [])) l (.lst (ns.map V.int))) := (Kp.refl.new nd).new nl
      have em : mergeK [] (penK l 0 0 0 f) = penK l 0 0 0 f := by rfl
      exact q _ d l (k2.put nd) ⟨⟨0, 0, f, ns, by rw [upd_same]; exact congrArg (fun z => some (HO.dK z)) em, (upd_ne hld).trans upd_same, hf⟩⟩
def spDraw (K : PySem.W.Frag) : Sp := fun vs H Q _ => ∃ (p L : Addr) (c m : Nat), vs = [.ref p, .int (m : Int)] ∧ PenAt H p L c ∧ c < maxDraws ∧ 0 < m ∧ m ≤ 1000000 ∧ ∀ H' d, Kp [p] H H' → PenAt H' p L (c + 1) → d < m → Q (.int ((d : Nat) : Int)) H'
theorem pg_cells {H : Hp} {p L : Addr} {a d c f : Nat} (e : H p = some (.dK (penK L a d c f))) : DGet H p (.str "cells") (some (.ref L)) := .inl ⟨_, Sum.inr "cells", .inl e, rfl, by rfl⟩
theorem pg_at {H : Hp} {p L : Addr} {a d c f : Nat} (e : H p = some (.dK (penK L a d c f))) : DGet H p (.str "at") (some (.int (a : Int))) := .inl ⟨_, Sum.inr "at", .inl e, rfl, by rfl⟩
theorem pg_digits {H : Hp} {p L : Addr} {a d c f : Nat} (e : H p = some (.dK (penK L a d c f))) : DGet H p (.str "digits") (some (.int (d : Int))) := .inl ⟨_, Sum.inr "digits", .inl e, rfl, by rfl⟩
theorem pg_count {H : Hp} {p L : Addr} {a d c f : Nat} (e : H p = some (.dK (penK L a d c f))) : DGet H p (.str "count") (some (.int (c : Int))) := .inl ⟨_, Sum.inr "count", .inl e, rfl, by rfl⟩
theorem pg_fold {H : Hp} {p L : Addr} {a d c f : Nat} (e : H p = some (.dK (penK L a d c f))) : DGet H p (.str "fold") (some (.int (f : Int))) := .inl ⟨_, Sum.inr "fold", .inl e, rfl, by rfl⟩
theorem pp_at {H : Hp} {p L : Addr} {a d c f : Nat} (e : H p = some (.dK (penK L a d c f))) {v : V} (x : Nat) (ev : v = .int (x : Int)) : DPut H p (.str "at") v (upd H p (.dK (penK L x d c f))) := by
  subst ev
  exact DPut.k (k := Sum.inr "at") e (by show 5 < sizeLine; decide)
theorem pp_digits {H : Hp} {p L : Addr} {a d c f : Nat} (e : H p = some (.dK (penK L a d c f))) {v : V} (x : Nat) (ev : v = .int (x : Int)) : DPut H p (.str "digits") v (upd H p (.dK (penK L a x c f))) := by
  subst ev
  exact DPut.k (k := Sum.inr "digits") e (by show 5 < sizeLine; decide)
theorem pp_count {H : Hp} {p L : Addr} {a d c f : Nat} (e : H p = some (.dK (penK L a d c f))) {v : V} (x : Nat) (ev : v = .int (x : Int)) : DPut H p (.str "count") v (upd H p (.dK (penK L a d x f))) := by
  subst ev
  exact DPut.k (k := Sum.inr "count") e (by show 5 < sizeLine; decide)
theorem pp_fold {H : Hp} {p L : Addr} {a d c f : Nat} (e : H p = some (.dK (penK L a d c f))) {v : V} (x : Nat) (ev : v = .int (x : Int)) : DPut H p (.str "fold") v (upd H p (.dK (penK L a d c x))) := by
  subst ev
  exact DPut.k (k := Sum.inr "fold") e (by show 5 < sizeLine; decide)
abbrev nm_law_draw : List Str := ["_law_pen_here", "_law_many", "_law_cell", "_law_digit", "_law_blend"]
theorem sc_law_draw : FnScope nm_law_draw ["_law_pen_here", "_law_many"] (C8.fnScope (st 40)) := C8.fnScope_by (by decide +kernel)
theorem cal_law_draw (T : Top K mg) : C8.Cal P w K mg base (1) "_law_draw" (spDraw K) [] := by
  refine calD T.d__law_draw sc_law_draw (fun vs H Q E h => ?_) (fun f cdv A outer s0 H vs Q E hr h => ?_)
  ·
    obtain ⟨p, L, c, m, rfl, _⟩ := h; rfl
  ·
    obtain ⟨p, L, c, m, rfl, ⟨⟨a, d, f, ns, hp, hL, hf⟩⟩, hc, hm, hm2, q⟩ := h
    have hu := hu_of hr
    refine ⟨_, (pss_cons (ps_dput hu (pv 0) pe_str (pe_op op_add (pe_dget hu (pv 0) pe_str (fun _ _ => rfl)) pe_int) rfl)
      (C8.pss_cut (ps_if (PW.pt (pw_and (pt_cmpR op_eq (pe_dget hu (pv 0) pe_str (fun _ _ => rfl)) pe_int (nomark _)) (pw_and1 (pt_cmpR op_lt (pe_dget hu (pv 0) pe_str (fun _ _ => rfl)) (pe_callB call_len_seq (by rfl) T.f_len PySem.boot_len (pa_cons (pe_dget hu (pv 0) pe_str (fun _ _ => rfl)) pa_nil)) (nomark _))))) (pss_cons (ps_set (i := 2) sc_law_draw.nd rfl (Or.inl rfl) (pe_ix ix_list (pe_dget hu (pv 0) pe_str (fun _ _ => rfl)) (pe_dget hu (pv 0) pe_str (fun _ _ => rfl)) (fun _ _ => rfl)))
      (pss_cons (ps_dput hu (pv 0) pe_str (pe_op op_add (pe_dget hu (pv 0) pe_str (fun _ _ => rfl)) pe_int) rfl)
      (pss_one (ps_if (pt_cmpR op_ge (pv 2) (pe_op op_pow pe_int pe_int) (nomark _)) (pss_one (ps_dput hu (pv 0) pe_str (pe_op op_sub (pv 2) (pe_op op_pow pe_int pe_int)) rfl)) (pss_one (ps_dput hu (pv 0) pe_str (pe_op op_mod (pe_callTy call_int1 (by rfl) T.f_int PyProof.Rows.boot_int (pa_cons (pe_op op_add (pe_op op_mul (pe_dget hu (pv 0) pe_str (fun _ _ => rfl)) pe_int) (pv 2)) pa_nil)) pe_int) rfl)))))) pss_nil)
      (pss_cons (ps_if (pt_cmpR op_gt (pe_dget hu (pv 0) pe_str (fun _ _ => rfl)) pe_int (nomark _)) (pss_cons (ps_set (i := 3) sc_law_draw.nd rfl (Or.inl rfl) (pe_op op_mod (pe_callTy call_int1 (by rfl) T.f_int PyProof.Rows.boot_int (pa_cons (pe_dget hu (pv 0) pe_str (fun _ _ => rfl)) pa_nil)) (pv 1)))
      (pss_cons (ps_dput hu (pv 0) pe_str (pe_op op_fdiv (pe_dget hu (pv 0) pe_str (fun _ _ => rfl)) (pv 1)) rfl)
      (pss_one (ps_ret (pv 3))))) pss_nil)
      (pss_cons (ps_set (i := 4) sc_law_draw.nd rfl (Or.inl rfl) (pe_op op_add (pe_op op_add (pe_dget hu (pv 0) pe_str (fun _ _ => rfl)) (pe_op op_mul (pe_dget hu (pv 0) pe_str (fun _ _ => rfl)) pe_int)) pe_int))
      (pss_one (ps_ret (pe_op op_mod (pe_op op_fdiv (pe_callTy call_int1 (by rfl) T.f_int PyProof.Rows.boot_int (pa_cons (pe_op op_mod (pe_op op_pow (pv 4) pe_int) pe_int) pa_nil)) pe_int) (pv 1)))))))), ?_⟩
    have hpl : p ≠ L := fun e => by rw [e, hL] at hp; cases hp
    have hc2 : c < 1000000 := hc
    refine ⟨_, rfl, _, _, rfl, pg_count hp, _, _, rfl, rfl, _, rfl, _, _, rfl, pp_count hp (c + 1) rfl, ?_⟩
    have k1 : Kp [p] H (upd H p (.dK (penK L a d (c + 1) f))) := Kp.putD hp
    have hL1 := k1.at_ _ _ hL (not1 (Ne.symm hpl))
    have hm3 : (m : Int) < 1073741824 := by omega
    have hm4 : (0 : Int) < m := by omega
    refine ⟨fun σ H' => ∃ (x2 : Option V) (a d f : Nat), σ = [some (.ref p), some (.int (m : Int)), x2, none, none] ∧ Kp [p] H H' ∧ H' p = some (.dK (penK L a d (c + 1) f)) ∧ f < 2147483587, ?_, ?_⟩
    · refine ⟨_, rfl, _, _, rfl, pg_digits upd_same, rfl, _, rfl, ?_⟩
      refine ite2 (fun e => ?_) (fun e => ?_)
      · refine ⟨_, rfl, _, _, rfl, pg_at upd_same, _, rfl, _, _, rfl, pg_cells upd_same, _, _, rfl, .inl (SqL.of hL1), _, _, rfl, rfl, _, rfl, ?_⟩
        refine ite2 (fun e2 => ?_) (fun e2 => ?_)
        · have e3 : a < ns.length := by
            have := of_decide_eq_true e2
            rw [List.length_map] at this
            omega
          refine ⟨_, rfl, _, _, rfl, pg_cells upd_same, _, rfl, _, _, rfl, pg_at upd_same, _, _, _, _, rfl, rfl, SqL.of hL1, atI_nat (j := a) (put_map (List.getElem?_eq_getElem e3)), ?_⟩
          refine ⟨_, rfl, _, _, rfl, pg_at upd_same, _, _, rfl, rfl, _, rfl, _, _, rfl, pp_at upd_same (a + 1) rfl, ?_⟩
          have k2 := k1.trans (Kp.putD (o := .dK (penK L (a + 1) d (c + 1) f)) (upd_same (H := H) (a := p) (o := .dK (penK L a d (c + 1) f))))
          refine ⟨_, rfl, _, _, rfl, rfl, ⟨by decide, by decide, by decide⟩, _, _, rfl, rfl, _, rfl, ?_⟩
          refine ite2 (fun e4 => ?_) (fun e4 => ?_)
          · have e5 := of_decide_eq_true e4
            refine ⟨_, rfl, _, _, rfl, rfl, ⟨by decide, by decide, by decide⟩, _, _, rfl, rfl, _, rfl, _, _, rfl, pp_digits upd_same (ns[a] - 10 ^ 18).toNat ?_, ?_⟩
            · dsimp only
              rw [Int.toNat_of_nonneg (by have : (10 : Int) ^ (18 : Int).toNat = 10 ^ 18 := rfl; omega)]; rfl
            · exact ⟨_, _, _, _, rfl, k2.trans (Kp.putD upd_same), upd_same, hf⟩
          · refine ⟨_, rfl, _, _, rfl, pg_fold upd_same, _, _, rfl, rfl, .inl (by omega), _, rfl, _, _, rfl, rfl, .inl ⟨_, rfl, _, _, rfl, rfl, (by decide : (0 : Int) < 2147483587), _, rfl, _, _, rfl, pp_fold upd_same (((f : Int) * 69069 + ns[a]) % 2147483587).toNat ?_, ?_⟩⟩
            · dsimp only
              rw [Int.toNat_of_nonneg (by omega)]
            · exact ⟨_, _, _, _, rfl, k2.trans (Kp.putD upd_same), upd_same, by omega⟩
        · exact ⟨_, _, _, _, rfl, k1, upd_same, hf⟩
      · exact ⟨_, _, _, _, rfl, k1, upd_same, hf⟩
    · rintro σ H1 ⟨x2, a1, d1, f1, rfl, k2, e1, hf1⟩
      have hL2 := k2.at_ _ _ hL (not1 (Ne.symm hpl))
      refine ⟨_, rfl, _, _, rfl, pg_digits e1, _, _, rfl, rfl, _, rfl, ?_⟩
      refine ite2 (fun e => ?_) (fun e => ?_)
      · refine ⟨_, rfl, _, _, rfl, pg_digits e1, .inl ⟨_, rfl, _, rfl, _, _, rfl, rfl, hm4, ?_⟩⟩
        refine ⟨_, rfl, _, _, rfl, pg_digits e1, _, rfl, _, _, rfl, rfl, ⟨hm4, hm3⟩, _, rfl, _, _, rfl, pp_digits e1 (d1 / m) ?_, ?_⟩
        · dsimp only
          rw [Int.natCast_ediv]
        · refine ⟨_, rfl, ?_⟩
          have := q (upd H1 p (.dK (penK L a1 (d1 / m) (c + 1) f1))) (d1 % m) (k2.trans (Kp.putD e1)) ⟨⟨_, _, _, ns, upd_same, (upd_ne (Ne.symm hpl)).trans hL2, hf1⟩⟩ (Nat.mod_lt _ hm)
          rw [Int.natCast_emod] at this
          exact this
      · refine ⟨_, rfl, _, _, rfl, pg_fold e1, _, rfl, _, _, rfl, pg_count e1, _, _, rfl, rfl, .inl (by omega), _, _, rfl, rfl, _, _, rfl, rfl, ?_⟩
        refine ⟨_, rfl, _, _, rfl, rfl, ⟨by decide, by decide, ?_⟩, _, _, rfl, rfl, (by decide : (0 : Int) < 2305843009213693951), .inl ⟨_, rfl, _, _, rfl, rfl, ⟨by decide, by decide⟩, _, rfl, _, _, rfl, rfl, hm4, ?_⟩⟩
        · omega
        · dsimp only
          generalize ((f1 : Int) + ((c + 1 : Nat) : Int) * 7907 + 43) ^ (17 : Int).toNat = X
          have h1 : 0 ≤ X % 2305843009213693951 / 128 := by omega
          have h2 : X % 2305843009213693951 / 128 % (m : Int) = ((X % 2305843009213693951 / 128 % (m : Int)).toNat : Int) := (Int.toNat_of_nonneg (Int.emod_nonneg _ (by omega))).symm
          rw [h2]
          refine q _ _ k2 ⟨⟨_, _, _, ns, e1, hL2, hf1⟩⟩ ?_
          have h3 := Int.emod_lt_of_pos (X % 2305843009213693951 / 128) hm4
          omega
end
end K14
/-! picks, values of nodes, rows, bit by bit -/
namespace K14
open PySem PySem.Spec PyProof.Rows L2
section
variable {P : Program} {w : World} {K : PySem.W.Frag} {mg : Str → Option Value} {base : Heap}
def spPick (K : PySem.W.Frag) : Sp := fun vs H Q _ => ∃ (p L : Addr) (c : Nat) (s : Addr) (ys : List V), vs = [.ref p, .ref s] ∧ PenAt H p L c ∧ c < maxDraws ∧ H s = some (.lst ys) ∧ 0 < ys.length ∧ ys.length ≤ 1000000 ∧ ∀ H' y, Kp [p] H H' → PenAt H' p L (c + 1) → y ∈ ys → Q y H'
abbrev nm_law_pick : List Str := ["_law_pen_here", "_law_some"]
theorem sc_law_pick : FnScope nm_law_pick ["_law_pen_here", "_law_some"] (C8.fnScope (st 41)) := C8.fnScope_by (by decide +kernel)
theorem cal_law_pick (T : Top K mg) : C8.Cal P w K mg base (2) "_law_pick" (spPick K) [] := by
  refine calD T.d__law_pick sc_law_pick (fun vs H Q E h => ?_) (fun f cdv A outer s0 H vs Q E hr h => ?_)
  ·
    obtain ⟨p, L, c, s, ys, rfl, _⟩ := h; rfl
  ·
    obtain ⟨p, L, c, s, ys, rfl, hP, hc, hs, h0, hz, q⟩ := h
    have hu := hu_of hr
    refine ⟨_, (pss_one (ps_ret (pe_ix ix_list (pv 1) (C8.pe_c (cal_law_draw T) hr (by decide) rfl (pa_cons (pv 0) (pa_cons (pe_callB call_len_seq (by rfl) T.f_len PySem.boot_len (pa_cons (pv 1) pa_nil)) pa_nil))) (fun _ _ => rfl)))), ?_⟩
    have hsp : s ≠ p := fun e => by
      obtain ⟨⟨a, d, f, ns, e1, _⟩⟩ := hP
      rw [← e, hs] at e1; cases e1
    refine ⟨_, rfl, _, rfl, _, rfl, _, _, rfl, .inl (SqL.of hs), p, L, c, ys.length, rfl, hP, hc, h0, hz, fun H1 d k1 P1 hd => ?_⟩
    refine ⟨_, _, _, _, rfl, rfl, k1.sqL (SqL.of hs) (not1 hsp), atI_nat (j := d) (List.getElem?_eq_getElem hd), ?_⟩
    exact q H1 _ k1 P1 (List.getElem_mem hd)
/-! ### values -/
def vbit (z : Bits) (m : M) : V := .int (((m z).toNat : Nat) : Int)
def spVBit (K : PySem.W.Frag) : Sp := fun vs H Q _ => ∃ (p : Addr) (ms : List M) (z : Bits) (l : Nat), vs = [.ref p, .int (l : Int)] ∧ SqL K H p (ms.map (vbit z)) ∧ l / 2 < ms.length ∧ Q (.int ((lm ms l z).toNat : Nat)) H
abbrev nm_law_bit : List Str := ["_law_found", "_law_literal"]
theorem sc_law_bit : FnScope nm_law_bit ["_law_found", "_law_literal"] (C8.fnScope (st 43)) := C8.fnScope_by (by decide +kernel)
theorem cal_law_bit (T : Top K mg) : C8.Cal P w K mg base (1) "_law_bit" (spVBit K) [] := by
  refine calD T.d__law_bit sc_law_bit (fun vs H Q E h => ?_) (fun f cdv A outer s0 H vs Q E hr h => ?_)
  ·
    obtain ⟨p, ms, z, l, rfl, _⟩ := h; rfl
  ·
    obtain ⟨p, ms, z, l, rfl, hL, hl, q⟩ := h
    have hu := hu_of hr
    refine ⟨_, (pss_one (ps_ret (pe_callB call_abs (by rfl) T.f_abs PyProof.Rows.boot_abs (pa_cons (pe_op op_sub (pe_ix ix_list (pv 0) (pe_op op_fdiv (pv 1) pe_int) (fun _ _ => rfl)) (pe_op op_mod (pe_callTy call_int1 (by rfl) T.f_int PyProof.Rows.boot_int (pa_cons (pv 1) pa_nil)) pe_int)) pa_nil)))), ?_⟩
    refine ⟨_, rfl, _, rfl, _, _, rfl, rfl, ⟨by decide, by decide⟩, _, _, _, _, rfl, rfl, hL, atI_nat (j := l / 2) (put_map (List.getElem?_eq_getElem hl)), _, rfl, .inl ⟨_, rfl, _, _, rfl, rfl, (by decide : (0 : Int) < 2), _, _, rfl, rfl, ?_⟩⟩
    refine ⟨_, rfl, ?_⟩
    have e : lm ms l z = (((ms[l / 2]) z) != (l % 2 == 1)) := by
      unfold lm
      rw [List.getD_eq_getElem?_getD, List.getElem?_eq_getElem hl]; rfl
    rw [e] at q
    dsimp only
    have h2 : (l : Int) % 2 = ((l % 2 : Nat) : Int) := by omega
    have h3 : l % 2 = 0 ∨ l % 2 = 1 := by omega
    rw [h2]
    rcases h3 with h3 | h3
    · rw [h3] at q ⊢
      cases hb : (ms[l / 2]) z <;> rw [hb] at q <;> exact q
    · rw [h3] at q ⊢
      cases hb : (ms[l / 2]) z <;> rw [hb] at q <;> exact q
def bval (b : Bool) : V := .int ((b.toNat : Nat) : Int)
theorem base_vals (z : Bits) : (base0 z.length).map (vbit z) = .int 0 :: z.map bval := by
  unfold base0
  rw [List.map_cons, List.map_map]
  congr 1
  apply List.ext_getElem?
  intro i
  rw [List.getElem?_map, List.getElem?_map]
  by_cases h : i < z.length
  · rw [List.getElem?_range h, List.getElem?_eq_getElem h]
    simp [vbit, leafM, bval, List.getD_eq_getElem?_getD, List.getElem?_eq_getElem h]
  · rw [List.getElem?_eq_none (by rw [List.length_range]; omega), List.getElem?_eq_none (by omega)]; rfl
def spVals (K : PySem.W.Frag) : Sp := fun vs H Q _ => ∃ (x : V) (tg tb : Addr) (ts : List Addr) (gs : List (Nat × Nat)) (z : Bits), vs = [x, .ref tg, .ref tb] ∧ SqT K H tg (ts.map V.ref) ∧ GT H ts gs ∧ GOk z.length gs ∧ SqT K H tb (z.map bval) ∧ gs.length ≤ big ∧ z.length ≤ 100000 ∧
  ∀ H' p, Kp [] H H' → H' p = some (.lst ((nodes z.length gs).map (vbit z))) → Q (.ref p) H'
abbrev nm_law_values : List Str := ["_law_leaves", "_law_gates", "_law_bits", "_law_found", "_law_one", "_law_two"]
theorem sc_law_values : FnScope nm_law_values ["_law_leaves", "_law_gates", "_law_bits"] (C8.fnScope (st 42)) := C8.fnScope_by (by decide +kernel)
theorem cal_law_values (T : Top K mg) : C8.Cal P w K mg base (2) "_law_values" (spVals K) [] := by
  refine calD T.d__law_values sc_law_values (fun vs H Q E h => ?_) (fun f cdv A outer s0 H vs Q E hr h => ?_)
  ·
    obtain ⟨x, tg, tb, ts, gs, z, rfl, _⟩ := h; rfl
  ·
    obtain ⟨x, tg, tb, ts, gs, z, rfl, hT, hG, hO, hB, hz, hzz, q⟩ := h
    have hu := hu_of hr
    refine ⟨_, (pss_cons (ps_set (i := 3) sc_law_values.nd rfl (Or.inl rfl) (pe_op op_cat (pe_lst (pa_cons pe_int pa_nil)) (pe_callTy call_list_of (by rfl) T.f_list PyProof.Rows.boot_list (pa_cons (pv 2) pa_nil))))
      (pss_cons (ps_for PassesOwn.never rfl (pi_tup (pv 1)) (pg_tup rfl (pgs_cons (pg_name (i := 4) sc_law_values.nd rfl (Or.inl rfl)) (pgs_cons (pg_name (i := 5) sc_law_values.nd rfl (Or.inl rfl)) pgs_nil))) (pss_one (ps_expr (pe_bm PySem.F.plainAttrs_list PySem.F.slot_list_append PySem.F.type_list_append mt_append (pv 3) (pa_cons (pe_op op_mul (C8.pe_c (cal_law_bit T) hr (by decide) rfl (pa_cons (pv 3) (pa_cons (pv 4) pa_nil))) (C8.pe_c (cal_law_bit T) hr (by decide) rfl (pa_cons (pv 3) (pa_cons (pv 5) pa_nil)))) pa_nil)))))
      (pss_one (ps_ret (pv 3))))), ?_⟩
    refine ⟨(by show 1 ≤ sizeLine; decide), fun l nl => ?_⟩
    have k1 : Kp [] H (upd H l (.lst [.int 0])) := Kp.refl.new nl
    refine ⟨_, rfl, _, _, rfl, .inr (k1.sqT hB), fun l2 nl2 => ?_⟩
    have k2 := k1.new (o := .lst (z.map bval)) nl2
    have e1 : (upd (upd H l (.lst [.int 0])) l2 (.lst (z.map bval))) l = some (.lst [.int 0]) := (upd_ne (ne_of_none upd_same nl2)).trans upd_same
    refine ⟨_, _, _, _, rfl, rfl, e1, upd_same, (by rw [List.length_cons, List.length_map]; exact Nat.le_of_lt (small _ (by simp; omega))), fun p np => ?_⟩
    have k3 := k2.new (o := .lst ([.int 0] ++ z.map bval)) np
    refine ⟨_, rfl, _, rfl, ⟨_, k3.sqT hT⟩, for_it walk_tup (fun i σ H' => ∃ (x4 x5 : Option V), σ = [some x, some (.ref tg), some (.ref tb), some (.ref p), x4, x5] ∧ Kp [] H H' ∧ H' p = some (.lst ((nodes z.length (gs.take i)).map (vbit z)))) ⟨none, none, rfl, k3, by rw [upd_same]; exact congrArg (fun y => some (HO.lst y)) (base_vals z).symm⟩ (fun i σ H' _ ⟨_, _, _, k, _⟩ => k.sqT hT) ?_ ?_⟩
    · rintro i v σ H0 H1 hi ⟨x4, x5, rfl, k, ep⟩ ⟨rfl, gx⟩
      obtain ⟨t, gt, rfl⟩ := get_map gx
      obtain ⟨⟨a, b⟩, gg, ht⟩ := Paired.getL hG gt
      obtain ⟨ha, hb⟩ := hO i a b gg
      have hlen : (nodes z.length (gs.take i)).length = z.length + 1 + i := by
        rw [nodes_len, List.length_take]
        have := (List.getElem?_eq_some_iff.mp gg).1
        omega
      refine ⟨t, _, rfl, SqT.of (k.tup _ _ ht), rfl, _, _, rfl, _, _, rfl, rfl, ?_⟩
      refine ⟨_, rfl, .inl ⟨rfl, _, SqL.of ep⟩, ?_⟩
      refine ⟨_, rfl, _, rfl, p, _, z, a, rfl, SqL.of ep, by rw [hlen]; omega, ?_⟩
      refine ⟨_, rfl, _, rfl, p, _, z, b, rfl, SqL.of ep, by rw [hlen]; omega, ?_⟩
      refine ⟨_, _, rfl, rfl, .inl (by cases lm (nodes z.length (gs.take i)) a z <;> exact ⟨by decide, by decide⟩), p, _, _, rfl, rfl, ep, ?_, ?_⟩
      · rw [List.length_map, hlen]
        have := (List.getElem?_eq_some_iff.mp gg).1
        have : sizeLine = 16777216 := rfl
        have : big = 16000000 := rfl
        omega
      · refine ⟨_, _, rfl, k.put (k2.free np), ?_⟩
        rw [upd_same, List.take_add_one, gg]
        show _ = some (HO.lst ((nodes z.length (gs.take i ++ [(a, b)])).map (vbit z)))
        rw [nodes_snoc, List.map_append]
        dsimp only
        have e : ((lm (nodes z.length (gs.take i)) a z).toNat : Int) * ((lm (nodes z.length (gs.take i)) b z).toNat : Int) = (((lm (nodes z.length (gs.take i)) a z && lm (nodes z.length (gs.take i)) b z).toNat : Nat) : Int) := by
          cases lm (nodes z.length (gs.take i)) a z <;> cases lm (nodes z.length (gs.take i)) b z <;> rfl
        rw [e]; rfl
    · rintro σ H1 ⟨x4, x5, rfl, k, ep⟩
      rw [List.length_map, Paired.len hG, List.take_length] at ep
      exact ⟨_, rfl, q H1 p k ep⟩
/-! ### longer -/
def nV (k : Nat) : V := .int (k : Int)
/-- rows of numbers -/
structure RowsAt (K : PySem.W.Frag) (H : Hp) (p : Addr) (rs : List (List Nat)) : Prop where
  ex : ∃ ts : List Addr, H p = some (.lst (ts.map V.ref)) ∧ Paired (fun t (r : List Nat) => SqT K H t (r.map nV)) ts rs
theorem RowsAt.kp {H H' : Hp} {p : Addr} {rs : List (List Nat)} (x : RowsAt K H p rs) (k : Kp [] H H') : RowsAt K H' p rs := by
  obtain ⟨⟨ts, e, h⟩⟩ := x
  exact ⟨⟨ts, k.at_ _ _ e (fun z => nomatch z), Paired.mapP h fun _ _ z => k.sqT z⟩⟩
def longer (rs : List (List Nat)) (m : Nat) : List (List Nat) := rs.flatMap fun r => (List.range m).map fun k => r ++ [k]
theorem longer_snoc (rs : List (List Nat)) (r : List Nat) (m : Nat) : longer (rs ++ [r]) m = longer rs m ++ (List.range m).map fun k => r ++ [k] := by
  unfold longer; rw [List.flatMap_append]; simp
theorem longer_len (rs : List (List Nat)) (m : Nat) : (longer rs m).length = rs.length * m := by
  unfold longer
  induction rs with
  | nil => simp
  | cons a t ih => rw [List.flatMap_cons, List.length_append, ih, List.length_map, List.length_range, List.length_cons, Nat.add_mul, Nat.one_mul, Nat.add_comm]
theorem Paired.appR {α β : Type} {F : α → β → Prop} {l₁ m₁ : List α} {l₂ m₂ : List β} (x : Paired F l₁ l₂) (y : Paired F m₁ m₂) : Paired F (l₁ ++ m₁) (l₂ ++ m₂) := Paired.app x y
theorem op_catK {X : Cx} {K : PySem.W.Frag} (h : X.K = K) : OpR X (binaryOp .Add) (rCatA K) := by subst h; exact op_catA
def spLonger (K : PySem.W.Frag) : Sp := fun vs H Q _ => ∃ (p : Addr) (rs : List (List Nat)) (m : Nat), vs = [.ref p, .int (m : Int)] ∧ RowsAt K H p rs ∧ m ≤ 1000 ∧ rs.length ≤ 10000 ∧ (∀ r ∈ rs, r.length ≤ 1000) ∧ ∀ H' p', Kp [] H H' → RowsAt K H' p' (longer rs m) → Q (.ref p') H'
abbrev nm_law_longer : List Str := ["_law_rows", "_law_many", "_law_found", "_law_row", "_law_number"]
theorem sc_law_longer : FnScope nm_law_longer ["_law_rows", "_law_many"] (C8.fnScope (st 45)) := C8.fnScope_by (by decide +kernel)
theorem cal_law_longer (T : Top K mg) : C8.Cal P w K mg base (1) "_law_longer" (spLonger K) [] := by
  refine calD T.d__law_longer sc_law_longer (fun vs H Q E h => ?_) (fun f cdv A outer s0 H vs Q E hr h => ?_)
  ·
    obtain ⟨p, rs, m, rfl, _⟩ := h; rfl
  ·
    obtain ⟨p, rs, m, rfl, ⟨⟨ts, hp, hR⟩⟩, hm, hz, hw, q⟩ := h
    have hu := hu_of hr
    refine ⟨_, (pss_cons (ps_set (i := 2) sc_law_longer.nd rfl (Or.inl rfl) (pe_lst pa_nil))
      (pss_cons (ps_for PassesOwn.never rfl (pi_list (pv 0)) (pg_name (i := 3) sc_law_longer.nd rfl (Or.inr rfl)) (pss_one (ps_set (i := 2) sc_law_longer.nd rfl (Or.inl rfl) (pe_op op_cat (pv 2) (pe_lc (own := [("_law_number", 4)]) (g := (gName 4)) (tt := tYes)  rfl sc_law_longer.nd (pi_range1 (by rfl) T.f_range (pa_cons (pv 1) pa_nil)) (blkOk_by (own := [("_law_number", 4)]) (N := nm_law_longer) (sc := C8.fnScope (st 45)) (by decide +kernel)) (fun _ _ _ _ _ => (pg_name (i := 4) sc_law_longer.nd rfl (Or.inl rfl))) (fun _ _ _ _ _ => pts_nil) (fun _ _ _ _ _ => (pe_op (op_catK (K := K) rfl) (pv 3) (pe_tup (pa_cons (pv 4) pa_nil)))))))))
      (pss_one (ps_ret (pv 2))))), ?_⟩
    refine ⟨(by show 0 ≤ sizeLine; decide), fun l nl => ?_⟩
    have k1 : Kp [] H (upd H l (.lst [])) := Kp.refl.new nl
    have hlt : ts.length = rs.length := Paired.len hR
    refine ⟨_, rfl, _, rfl, ⟨_, k1.sqL0 (SqL.of hp)⟩, for_it walk_list (fun i σ H' => ∃ (x3 x4 : Option V) (pf : Addr), σ = [some (.ref p), some (.int (m : Int)), some (.ref pf), x3, x4] ∧ Kp [] H H' ∧ RowsAt K H' pf (longer (rs.take i) m))
      ⟨none, none, l, rfl, k1, ⟨⟨[], upd_same, .nil⟩⟩⟩ (fun i σ H' _ ⟨_, _, _, _, k, _⟩ => k.sqL0 (SqL.of hp)) ?_ ?_⟩
    · rintro i v σ H0 H1 hi ⟨x3, x4, pf, rfl, k, ⟨⟨fs, ef, hF⟩⟩⟩ ⟨rfl, gx⟩
      obtain ⟨t, gt, rfl⟩ := get_map gx
      obtain ⟨r, gr, ht⟩ := Paired.getL hR gt
      have hrl := hw r (List.mem_of_getElem? gr)
      have ht1 := k.sqT ht
      have hil : i < rs.length := (List.getElem?_eq_some_iff.mp gr).1
      have hfl : fs.length = i * m := by
        rw [Paired.len hF, longer_len, List.length_take, Nat.min_eq_left (by omega)]
      refine ⟨_, rfl, _, rfl, _, rfl, by omega, by omega, fun D nD => ?_⟩
      refine lc_range (lo := 0) (n := m) (fun j H' => Kp [] H1 H' ∧ ∃ us : List Addr, H' D = some (.lst (us.map V.ref)) ∧ Paired (fun t (r : List Nat) => SqT K H' t (r.map nV)) us ((List.range j).map fun k => r ++ [k])) ⟨Kp.refl.new nD, [], upd_same, .nil⟩ (fun j H' hj ⟨kj, us, eD, hU⟩ => ?_) (fun H' ⟨kj, us, eD, hU⟩ => ?_)
      · refine ⟨rfl, ?_⟩
        refine ⟨_, rfl, _, rfl, (by show 1 ≤ sizeLine; decide), fun t1 nt1 => ?_⟩
        have kt : Kp [] H' (upd H' t1 (.tup [.int (0 + (j : Int))])) := Kp.refl.new nt1
        have e0 : (upd H' t1 (.tup [.int (0 + (j : Int))])) t1 = some (.tup [nV j]) := by rw [upd_same, Int.zero_add]; rfl
        refine cat_all (kt.sqT (kj.sqT ht1)) (SqT.of e0) (by rw [List.length_map]; exact Nat.le_of_lt (small _ (by simp; omega))) fun H5 t5 k5 ht5 => ?_
        have eD5 := k5.at_ _ _ (kt.at_ _ _ eD (fun z => nomatch z)) (fun z => nomatch z)
        have hul : us.length = j := by rw [Paired.len hU, List.length_map, List.length_range]
        have kk := (kj.trans kt).trans k5
        refine ⟨_, eD5, small _ (by rw [List.length_map, hul]; omega), kk.put nD, us ++ [t5], by rw [upd_same, List.map_append]; rfl, ?_⟩
        rw [List.range_succ, List.map_append]
        have kp := Kp.putL (o := .lst (us.map V.ref ++ [.ref t5])) eD5
        refine Paired.appR (Paired.mapP hU fun _ _ z => kp.sqT (k5.sqT (kt.sqT z))) (.cons (kp.sqT ?_) .nil)
        rw [List.map_append]
        exact ht5
      · have hul : us.length = m := by rw [Paired.len hU, List.length_map, List.length_range]
        have e1 := kj.at_ _ _ ef (fun z => nomatch z)
        refine ⟨_, _, _, _, rfl, rfl, e1, eD, ?_, fun p2 np2 => ?_⟩
        · rw [List.length_map, List.length_map, hfl, hul]
          have := Nat.mul_le_mul (show i ≤ 10000 by omega) hm
          exact Nat.le_of_lt (Nat.lt_of_le_of_lt (Nat.add_le_add this hm) (by decide))
        · refine ⟨_, _, p2, rfl, (k.trans kj).new np2, ⟨⟨fs ++ us, by rw [upd_same, List.map_append], ?_⟩⟩⟩
          have kn := Kp.refl.new (o := .lst (fs.map V.ref ++ us.map V.ref)) np2 (S := [])
          rw [List.take_add_one, gr]
          show Paired _ _ (longer (rs.take i ++ [r]) m)
          rw [longer_snoc]
          exact Paired.appR (Paired.mapP hF fun _ _ z => kn.sqT (kj.sqT z)) (Paired.mapP hU fun _ _ z => kn.sqT z)
    · rintro σ H1 ⟨x3, x4, pf, rfl, k, hF⟩
      rw [List.length_map, hlt, List.take_length] at hF
      exact ⟨_, rfl, q H1 pf k hF⟩
end
end K14
set_option maxHeartbeats 200000
/-! expressions: bounds, more names -/
namespace K14
open PySem PySem.Spec PyProof.Rows L2
theorem bwn_lt (f : Bool → Bool → Bool) : ∀ (w x y : Nat), bwn f w x y < 2 ^ w
  | 0, _, _ => by show 0 < 1; decide
  | w + 1, x, y => by
    have ih := bwn_lt f w (x / 2) (y / 2)
    show (f (x % 2 == 1) (y % 2 == 1)).toNat + 2 * bwn f w (x / 2) (y / 2) < 2 ^ (w + 1)
    rw [Nat.pow_succ]
    cases f (x % 2 == 1) (y % 2 == 1) <;> simp <;> omega
theorem bwn_snoc (f : Bool → Bool → Bool) : ∀ (k x y : Nat), bwn f (k + 1) x y = bwn f k x y + 2 ^ k * (f (x / 2 ^ k % 2 == 1) (y / 2 ^ k % 2 == 1)).toNat
  | 0, x, y => by
    show (f (x % 2 == 1) (y % 2 == 1)).toNat + 2 * 0 = 0 + 2 ^ 0 * _
    rw [Nat.pow_zero, Nat.div_one, Nat.div_one]; omega
  | k + 1, x, y => by
    show (f (x % 2 == 1) (y % 2 == 1)).toNat + 2 * bwn f (k + 1) (x / 2) (y / 2) = (f (x % 2 == 1) (y % 2 == 1)).toNat + 2 * bwn f k (x / 2) (y / 2) + _
    rw [bwn_snoc f k (x / 2) (y / 2), Nat.div_div_eq_div_mul, Nat.div_div_eq_div_mul, Nat.pow_succ, Nat.mul_comm 2 (2 ^ k), Nat.mul_add, Nat.add_assoc, Nat.mul_assoc (2 ^ k) 2, Nat.mul_left_comm]
theorem ev_lt {we env : Str → Nat} (h : ∀ x, env x < 2 ^ we x) : ∀ {e : Ex}, e.ok we → e.ev we env < 2 ^ e.wd we
  | .num _ _, o => o.2.2
  | .nm x, _ => h x
  | .un m a, o => by
    have ih := ev_lt h (e := a) o
    have p := Nat.two_pow_pos (a.wd we)
    cases m
    · show 2 ^ a.wd we - 1 - a.ev we env < 2 ^ a.wd we; omega
    · exact Nat.mod_lt _ p
  | .bin k a b, o => by
    have p := Nat.two_pow_pos (a.wd we)
    cases k
    · exact bwn_lt _ _ _ _
    · exact bwn_lt _ _ _ _
    · exact bwn_lt _ _ _ _
    · exact Nat.mod_lt _ p
    · exact Nat.mod_lt _ p
    · show (decide (a.ev we env = b.ev we env)).toNat < 2 ^ 1
      cases decide (a.ev we env = b.ev we env) <;> decide
    · show (decide (a.ev we env < b.ev we env)).toNat < 2 ^ 1
      cases decide (a.ev we env < b.ev we env) <;> decide
  | .sh l a k, o => by
    have ih := ev_lt h (e := a) o.1
    have p := Nat.two_pow_pos (a.wd we)
    cases l
    · exact Nat.lt_of_le_of_lt (Nat.div_le_self _ _) ih
    · exact Nat.mod_lt _ p
  | .ite c a b, o => by
    have iha := ev_lt h (e := a) o.2.1
    have ihb := ev_lt h (e := b) o.2.2.1
    rw [← o.2.2.2.2] at ihb
    show (if c.ev we env = 1 then a.ev we env else b.ev we env) < 2 ^ a.wd we
    split
    · exact iha
    · exact ihb
  | .join a b, o => by
    have iha := ev_lt h (e := a) o.1
    have ihb := ev_lt h (e := b) o.2.1
    show a.ev we env * 2 ^ b.wd we + b.ev we env < 2 ^ (a.wd we + b.wd we)
    rw [Nat.pow_add]
    have h1 : (a.ev we env + 1) * 2 ^ b.wd we ≤ 2 ^ a.wd we * 2 ^ b.wd we := Nat.mul_le_mul_right _ iha
    rw [Nat.add_mul, Nat.one_mul] at h1
    omega
  | .sl a hi lo, o => Nat.mod_lt _ (Nat.two_pow_pos _)
/-- more names do no harm -/
theorem ev_more {we env we' env' : Str → Nat} (h : ∀ x, we x ≠ 0 → we' x = we x ∧ env' x = env x) : ∀ {e : Ex}, e.ok we → e.ok we' ∧ e.wd we' = e.wd we ∧ e.ev we' env' = e.ev we env
  | .num _ _, o => ⟨o, rfl, rfl⟩
  | .nm x, o => by
    have hx := h x (by have := o.1; omega)
    refine ⟨?_, hx.1, hx.2⟩
    show 1 ≤ we' x ∧ we' x ≤ 16
    rw [hx.1]; exact o
  | .un m a, o => by
    obtain ⟨h1, h2, h3⟩ := ev_more h (e := a) o
    refine ⟨h1, h2, ?_⟩
    simp only [Ex.ev]; rw [h2, h3]
  | .bin k a b, o => by
    obtain ⟨h1, h2, h3⟩ := ev_more h (e := a) o.1
    obtain ⟨g1, g2, g3⟩ := ev_more h (e := b) o.2.1
    refine ⟨⟨h1, g1, by rw [h2, g2]; exact o.2.2⟩, ?_, ?_⟩
    · simp only [Ex.wd]; rw [h2]
    · simp only [Ex.ev]; rw [h2, h3, g3]
  | .sh l a k, o => by
    obtain ⟨h1, h2, h3⟩ := ev_more h (e := a) o.1
    refine ⟨⟨h1, o.2⟩, h2, ?_⟩
    simp only [Ex.ev]; rw [h2, h3]
  | .ite c a b, o => by
    obtain ⟨h1, h2, h3⟩ := ev_more h (e := c) o.1
    obtain ⟨g1, g2, g3⟩ := ev_more h (e := a) o.2.1
    obtain ⟨f1, f2, f3⟩ := ev_more h (e := b) o.2.2.1
    refine ⟨⟨h1, g1, f1, by rw [h2]; exact o.2.2.2.1, by rw [g2, f2]; exact o.2.2.2.2⟩, g2, ?_⟩
    simp only [Ex.ev]; rw [h3, g3, f3]
  | .join a b, o => by
    obtain ⟨h1, h2, h3⟩ := ev_more h (e := a) o.1
    obtain ⟨g1, g2, g3⟩ := ev_more h (e := b) o.2.1
    refine ⟨⟨h1, g1, by rw [h2, g2]; exact o.2.2⟩, ?_, ?_⟩
    · simp only [Ex.wd]; rw [h2, g2]
    · simp only [Ex.ev]; rw [h3, g3, g2]
  | .sl a hi lo, o => by
    obtain ⟨h1, h2, h3⟩ := ev_more h (e := a) o.1
    refine ⟨⟨h1, o.2.1, by rw [h2]; exact o.2.2⟩, rfl, ?_⟩
    simp only [Ex.ev]; rw [h3]
end K14
set_option maxHeartbeats 4000000
/-! the law's own reading of an expression -/
namespace K14
open PySem PySem.Spec PyProof.Rows L2
theorem shl1 (w : Nat) : (1 : Int) * 2 ^ ((w : Int)).toNat = ((2 ^ w : Nat) : Int) := by rw [Int.toNat_natCast, Int.one_mul, Int.natCast_pow]; rfl
theorem pow16 {w : Nat} (h : w ≤ 20) : 2 ^ w ≤ 1048576 := Nat.pow_le_pow_right (by decide) h
theorem cdiv {w : Nat} (h : w ≤ 20) : CDiv ((1 : Int) * 2 ^ ((w : Int)).toNat) ((1 : Int) * 2 ^ ((w : Int)).toNat) := by
  rw [shl1]
  have := pow16 h
  have := Nat.two_pow_pos w
  exact ⟨by omega, by omega⟩
theorem cdivN {x : Int} {w : Nat} (h : w ≤ 20) : CDiv x ((1 : Int) * 2 ^ ((w : Int)).toNat) := ⟨(cdiv h).1, (cdiv h).2⟩
theorem cpow1 {w : Nat} (h : w ≤ 20) : CPow 1 (w : Int) := ⟨by omega, by omega, by decide⟩
theorem mod_pos (w : Nat) : (0 : Int) < (1 : Int) * 2 ^ ((w : Int)).toNat := by
  rw [shl1]
  have := Nat.two_pow_pos w
  omega
section
variable {P : Program} {w : World} {K : PySem.W.Frag} {mg : Str → Option Value} {base : Heap}
def spLBitw : Sp := fun vs H Q _ => ∃ (k : Bop) (f : Bool → Bool → Bool) (wd x y : Nat), vs = [.str k.nm, .int (wd : Int), .int (x : Int), .int (y : Int)] ∧ k.bf = some f ∧ wd ≤ 16 ∧ Q (.int ((bwn f wd x y : Nat) : Int)) H
theorem bit_of (x k : Nat) : ((x : Int) / ((1 : Int) * 2 ^ ((k : Int)).toNat)) % 2 = ((x / 2 ^ k % 2 : Nat) : Int) := by rw [shl1, Int.natCast_emod, Int.natCast_ediv]; rfl
theorem bit_eq (x : Nat) : (x % 2 : Nat) = (x % 2 == 1).toNat := by
  have h : x % 2 = 0 ∨ x % 2 = 1 := by omega
  rcases h with h | h <;> rw [h] <;> rfl
abbrev nm_law_bitwise : List Str := ["_law_kind", "_law_width", "_law_one", "_law_two", "_law_amount", "_law_k", "_law_a", "_law_b", "_law_bit_here"]
theorem sc_law_bitwise : FnScope nm_law_bitwise ["_law_kind", "_law_width", "_law_one", "_law_two"] (C8.fnScope (st 47)) := C8.fnScope_by (by decide +kernel)
theorem cal_law_bitwise (T : Top K mg) : C8.Cal P w K mg base (1) "_law_bitwise" (spLBitw) [] := by
  refine calD T.d__law_bitwise sc_law_bitwise (fun vs H Q E h => ?_) (fun f cdv A outer s0 H vs Q E hr h => ?_)
  ·
    obtain ⟨k, f, wd, x, y, rfl, _⟩ := h; rfl
  ·
    obtain ⟨k, f', wd, x, y, rfl, hk, hw, q⟩ := h
    have hu := hu_of hr
    refine ⟨_, (pss_cons (ps_set (i := 4) sc_law_bitwise.nd rfl (Or.inl rfl) pe_int)
      (pss_cons (ps_for PassesOwn.never rfl (pi_range1 (by rfl) T.f_range (pa_cons (pv 1) pa_nil)) (pg_name (i := 5) sc_law_bitwise.nd rfl (Or.inl rfl)) (pss_cons (ps_par (i := 6) (j := 7) (by rfl) sc_law_bitwise.nd rfl rfl (by decide) rfl rfl (pa_cons (pe_op op_mod (pe_callTy call_int1 (by rfl) T.f_int PyProof.Rows.boot_int (pa_cons (pe_op op_fdiv (pv 2) (pe_op op_shl pe_int (pv 5))) pa_nil)) pe_int) (pa_cons (pe_op op_mod (pe_callTy call_int1 (by rfl) T.f_int PyProof.Rows.boot_int (pa_cons (pe_op op_fdiv (pv 3) (pe_op op_shl pe_int (pv 5))) pa_nil)) pe_int) pa_nil)) (by rfl))
      (pss_cons (ps_set (i := 8) sc_law_bitwise.nd rfl (Or.inl rfl) (pe_ifExp (pt_cmpR op_eq (pv 0) pe_str (nomark _)) (pe_op op_mul (pv 6) (pv 7)) (pe_ifExp (pt_cmpR op_eq (pv 0) pe_str (nomark _)) (pe_callB (call_max2 rfl) (by rfl) T.f_max PyProof.Rows.boot_max (pa_cons (pv 6) (pa_cons (pv 7) pa_nil))) (pe_callTy call_int1 (by rfl) T.f_int PyProof.Rows.boot_int (pa_cons (pe_cmpR op_ne (pv 6) (pv 7) (nomark _)) pa_nil)))))
      (pss_one (ps_set (i := 4) sc_law_bitwise.nd rfl (Or.inl rfl) (pe_op op_add (pv 4) (pe_op op_mul (pv 8) (pe_op op_shl pe_int (pv 5)))))))))
      (pss_one (ps_ret (pv 4))))), ?_⟩
    refine ⟨_, rfl, _, rfl, by omega, by omega, for_it walk_range (fun i σ H' => ∃ (x5 x6 x7 x8 : Option V), σ = [some (.str k.nm), some (.int (wd : Int)), some (.int (x : Int)), some (.int (y : Int)), some (.int ((bwn f' i x y : Nat) : Int)), x5, x6, x7, x8] ∧ H = H') ⟨none, none, none, none, rfl, rfl⟩ (fun _ _ _ _ _ => trivial) ?_ ?_⟩
    · rintro i v σ H0 H1 hi ⟨x5, x6, x7, x8, rfl, e0⟩ ⟨e1, ev⟩
      subst e0 e1
      have ev2 : v = .int (i : Int) := ev.trans (congrArg V.int (Int.zero_add _))
      subst ev2
      have hi2 : i < wd := by have : i < ((wd : Int) - 0).toNat := hi; omega
      refine ⟨_, rfl, _, rfl, _, _, rfl, rfl, cpow1 (by omega), _, _, rfl, rfl, cdivN (by omega), .inl ⟨_, rfl, _, _, rfl, rfl, (by decide : (0 : Int) < 2), _, rfl, _, rfl, _, _, rfl, rfl, cpow1 (by omega), _, _, rfl, rfl, cdivN (by omega), .inl ⟨_, rfl, _, _, rfl, rfl, (by decide : (0 : Int) < 2), _, _, rfl, ?_⟩⟩⟩
      dsimp only
      rw [bit_of x i, bit_of y i, bit_eq (x / 2 ^ i), bit_eq (y / 2 ^ i)]
      have ef : ∀ a b : Bool, f' a b = f' a b := fun _ _ => rfl
      have last : ∀ (x6 x7 : Option V) (r : Nat), r = (f' (x / 2 ^ i % 2 == 1) (y / 2 ^ i % 2 == 1)).toNat → ∃ (x5' x6' x7' x8' : Option V),
          [some (V.str k.nm), some (.int (wd : Int)), some (.int (x : Int)), some (.int (y : Int)), some (.int (((bwn f' i x y : Nat) : Int) + (r : Int) * (1 * 2 ^ ((i : Int)).toNat))), some (V.int (i : Int)), x6, x7, some (V.int (r : Int))] = [some (.str k.nm), some (.int (wd : Int)), some (.int (x : Int)), some (.int (y : Int)), some (.int ((bwn f' (i + 1) x y : Nat) : Int)), x5', x6', x7', x8'] ∧ H1 = H1 := fun x6 x7 r hr => by
        refine ⟨some (.int (i : Int)), x6, x7, some (.int (r : Int)), ?_, rfl⟩
        have e : ((bwn f' i x y : Nat) : Int) + (r : Int) * (1 * 2 ^ ((i : Int)).toNat) = ((bwn f' (i + 1) x y : Nat) : Int) := by
          rw [shl1, bwn_snoc, hr, Nat.mul_comm (2 ^ i)]
          rw [Int.natCast_add, Int.natCast_mul]
        rw [e]
      have hr1 : ∀ r : Nat, r ≤ 1 → CMul (r : Int) (1 * 2 ^ ((i : Int)).toNat) := fun r hr => .inl (by omega)
      generalize hb1 : (x / 2 ^ i % 2 == 1) = b1 at *
      generalize hb2 : (y / 2 ^ i % 2 == 1) = b2 at *
      cases k with
      | and =>
        cases hk
        refine ⟨_, rfl, rfl, _, rfl, ifStrT rfl ?_⟩
        refine ⟨_, rfl, _, rfl, _, _, rfl, rfl, .inl (by cases b1 <;> exact ⟨by decide, by decide⟩), ?_⟩
        dsimp only
        rw [show (b1.toNat : Int) * (b2.toNat : Int) = (((b1 && b2).toNat : Nat) : Int) by cases b1 <;> cases b2 <;> rfl]
        refine ⟨_, rfl, _, rfl, _, rfl, _, _, rfl, rfl, cpow1 (by omega), _, _, rfl, rfl, hr1 _ (by cases b1 <;> cases b2 <;> decide), _, _, rfl, rfl, ?_⟩
        exact last _ _ _ rfl
      | or =>
        cases hk
        refine ⟨_, rfl, rfl, _, rfl, ifStrF (nm_ne (by decide +kernel)) ?_⟩
        refine ⟨_, rfl, rfl, _, rfl, ifStrT rfl ?_⟩
        refine ⟨_, rfl, _, rfl, _, _, rfl, ?_⟩
        dsimp only
        rw [show (if (b2.toNat : Int) > (b1.toNat : Int) then (b2.toNat : Int) else (b1.toNat : Int)) = (((b1 || b2).toNat : Nat) : Int) by cases b1 <;> cases b2 <;> rfl]
        refine ⟨_, rfl, _, rfl, _, rfl, _, _, rfl, rfl, cpow1 (by omega), _, _, rfl, rfl, hr1 _ (by cases b1 <;> cases b2 <;> decide), _, _, rfl, rfl, ?_⟩
        exact last _ _ _ rfl
      | xor =>
        cases hk
        refine ⟨_, rfl, rfl, _, rfl, ifStrF (nm_ne (by decide +kernel)) ?_⟩
        refine ⟨_, rfl, rfl, _, rfl, ifStrF (nm_ne (by decide +kernel)) ?_⟩
        refine ⟨_, rfl, _, rfl, rfl, .inr ⟨_, rfl, ?_⟩⟩
        dsimp only
        rw [show (if (!decide (V.int (b1.toNat : Int) = V.int (b2.toNat : Int))) = true then (1 : Int) else 0) = (((b1 ^^ b2).toNat : Nat) : Int) by cases b1 <;> cases b2 <;> decide]
        refine ⟨_, rfl, _, rfl, _, rfl, _, _, rfl, rfl, cpow1 (by omega), _, _, rfl, rfl, hr1 _ (by cases b1 <;> cases b2 <;> decide), _, _, rfl, rfl, ?_⟩
        exact last _ _ _ rfl
      | plus => cases hk
      | times => cases hk
      | equal => cases hk
      | below => cases hk
    · rintro σ H1 ⟨x5, x6, x7, x8, rfl, rfl⟩
      rw [Int.toNat_natCast]
      exact ⟨_, rfl, q⟩
/-! ### the law's word of an expression -/
structure NmAt (K : PySem.W.Frag) (H : Hp) (nd : Addr) (we env : Str → Nat) : Prop where
  ex : ∃ kvs, H nd = some (.dK kvs) ∧ kvs.length ≤ 1000 ∧ ∀ x, we x ≠ 0 → ∃ t, valV kvs (Sum.inr x) = some (.ref t) ∧ SqT K H t [.int (we x : Int), .int (env x : Int)]
theorem NmAt.kp0 {H H' : Hp} {nd : Addr} {we env : Str → Nat} (k : Kp [] H H') (x : NmAt K H nd we env) : NmAt K H' nd we env := by
  obtain ⟨⟨kvs, e, hl, f⟩⟩ := x
  exact ⟨⟨kvs, k.at_ _ _ e (fun z => nomatch z), hl, fun y n => let ⟨t, h1, h2⟩ := f y n; ⟨t, h1, k.sqT h2⟩⟩⟩
def spLW (K : PySem.W.Frag) (dm : Nat) : Sp := fun vs H Q _ => ∃ (ve : V) (nd : Addr) (e : Ex) (we env : Str → Nat), vs = [ve, .ref nd] ∧ ExAt K H e ve ∧ NmAt K H nd we env ∧ e.ok we ∧ e.dep < dm ∧ (∀ x, env x < 2 ^ we x) ∧
  ∀ H' t, Kp [] H H' → SqT K H' t [.int (e.wd we : Int), .int (e.ev we env : Int)] → Q (.ref t) H'
theorem cal_lword0 (T : Top K mg) : C8.Cal P w K mg base 2 "_law_word" (spLW K 0) [] := by
  refine calD T.d__law_word (C8.fnScope_by (N := ["_law_expression", "_law_names", "_law_kind", "_law_width", "_law_words", "_law_word_here", "_law_part", "_law_more", "_law_low", "_law_wide", "_law_other"]) (by decide +kernel)) (fun vs H Q E h => ?_) (fun f cdv A outer s0 H vs Q E hr h => ?_)
  · obtain ⟨ve, nd, e, we, env, _, _, _, _, h, _⟩ := h; omega
  · obtain ⟨ve, nd, e, we, env, _, _, _, _, h, _⟩ := h; omega
theorem lvG {d : Nat} : 1 ≤ 2 + d := by omega
theorem CMul16 {x : Nat} {y : Int} {w : Nat} (h : x < 2 ^ w) (hw : w ≤ 20) : CMul (x : Int) y := by
  have := pow16 hw
  exact .inl (by omega)
abbrev nm_law_word : List Str := ["_law_expression", "_law_names", "_law_kind", "_law_width", "_law_words", "_law_word_here", "_law_part", "_law_more", "_law_low", "_law_wide", "_law_other"]
theorem sc_law_word : FnScope nm_law_word ["_law_expression", "_law_names"] (C8.fnScope (st 46)) := C8.fnScope_by (by decide +kernel)
theorem cal_lword_s {d : Nat} (T : Top K mg) (ih : C8.Cal P w K mg base (2+d) "_law_word" (spLW K d) []) : C8.Cal P w K mg base (2+(d+1)) "_law_word" (spLW K (d+1)) [] := by
  refine calD T.d__law_word sc_law_word (fun vs H Q E h => ?_) (fun f cdv A outer s0 H vs Q E hr h => ?_)
  ·
    obtain ⟨ve, nd, e, we, env, rfl, _⟩ := h; rfl
  ·
    obtain ⟨ve, nd, e, we, env, rfl, hE, hN, hok, hd, henv, q⟩ := h
    have hu := hu_of hr
    refine ⟨_, (pss_cons (ps_set (i := 2) sc_law_word.nd rfl (Or.inl rfl) (pe_ix ix_tup (pv 0) pe_int (fun _ _ => rfl)))
      (pss_cons (ps_if (pt_cmpR op_eq (pv 2) pe_str (nomark _)) (pss_one (ps_ret (pe_tup (pa_cons (pe_ix ix_tup (pv 0) pe_int (fun _ _ => rfl)) (pa_cons (pe_ix ix_tup (pv 0) pe_int (fun _ _ => rfl)) pa_nil))))) pss_nil)
      (pss_cons (ps_if (pt_cmpR op_eq (pv 2) pe_str (nomark _)) (pss_one (ps_ret (pe_dget hu (pv 1) (pe_ix ix_tup (pv 0) pe_int (fun _ _ => rfl)) (fun _ _ => rfl)))) pss_nil)
      (pss_cons (ps_if (pt_cmpR op_eq (pv 2) pe_str (nomark _)) (pss_one (ps_ret (pe_dget hu (pv 1) (pe_tup (pa_cons (pe_ix ix_tup (pv 0) pe_int (fun _ _ => rfl)) (pa_cons (pe_ix ix_tup (pv 0) pe_int (fun _ _ => rfl)) pa_nil))) (fun _ _ => rfl)))) pss_nil)
      (pss_cons (ps_if (pt_cmpR op_eq (pv 2) pe_str (nomark _)) (pss_cons (ps_asg (pe_dget hu (pv 1) (pe_ix ix_tup (pv 0) pe_int (fun _ _ => rfl)) (fun _ _ => rfl)) (pg_tup rfl (pgs_cons (pg_name (i := 3) sc_law_word.nd rfl (Or.inl rfl)) (pgs_cons (pg_name (i := 4) sc_law_word.nd rfl (Or.inl rfl)) pgs_nil))))
      (pss_one (ps_ret (pe_tup (pa_cons (pv 3) (pa_cons (pe_ix ix_tup (pv 4) (pe_ix ix_tup (C8.pe_c ih hr (Nat.le_refl _) rfl (pa_cons (pe_ix ix_tup (pv 0) pe_int (fun _ _ => rfl)) (pa_cons (pv 1) pa_nil))) pe_int (fun _ _ => rfl)) (fun _ _ => rfl)) pa_nil)))))) pss_nil)
      (pss_cons (ps_if (pt_cmpR op_eq (pv 2) pe_str (nomark _)) (pss_cons (ps_asg (pe_tup (pa_cons pe_int (pa_cons pe_int pa_nil))) (pg_tup rfl (pgs_cons (pg_name (i := 3) sc_law_word.nd rfl (Or.inl rfl)) (pgs_cons (pg_name (i := 5) sc_law_word.nd rfl (Or.inl rfl)) pgs_nil))))
      (pss_cons (ps_for PassesOwn.never rfl (pi_tup (pe_ix ix_tup (pv 0) pe_int (fun _ _ => rfl))) (pg_name (i := 6) sc_law_word.nd rfl (Or.inl rfl)) (pss_cons (ps_asg (C8.pe_c ih hr (Nat.le_refl _) rfl (pa_cons (pv 6) (pa_cons (pv 1) pa_nil))) (pg_tup rfl (pgs_cons (pg_name (i := 7) sc_law_word.nd rfl (Or.inl rfl)) (pgs_cons (pg_name (i := 8) sc_law_word.nd rfl (Or.inl rfl)) pgs_nil))))
      (pss_one (ps_par (i := 3) (j := 5) (by rfl) sc_law_word.nd rfl rfl (by decide) rfl rfl (pa_cons (pe_op op_add (pv 3) (pv 7)) (pa_cons (pe_op op_add (pe_op op_mul (pv 5) (pe_op op_shl pe_int (pv 7))) (pv 8)) pa_nil)) (by rfl)))))
      (pss_one (ps_ret (pe_tup (pa_cons (pv 3) (pa_cons (pv 5) pa_nil))))))) pss_nil)
      (pss_cons (ps_if (pt_cmpR op_eq (pv 2) pe_str (nomark _)) (pss_one (ps_ret (C8.pe_c ih hr (Nat.le_refl _) rfl (pa_cons (pe_ix ix_tup (pv 0) (pe_ifExp (pt_cmpR op_eq (pe_ix ix_tup (C8.pe_c ih hr (Nat.le_refl _) rfl (pa_cons (pe_ix ix_tup (pv 0) pe_int (fun _ _ => rfl)) (pa_cons (pv 1) pa_nil))) pe_int (fun _ _ => rfl)) pe_int (nomark _)) pe_int pe_int) (fun _ _ => rfl)) (pa_cons (pv 1) pa_nil))))) pss_nil)
      (pss_cons (ps_asg (C8.pe_c ih hr (Nat.le_refl _) rfl (pa_cons (pe_ix ix_tup (pv 0) pe_int (fun _ _ => rfl)) (pa_cons (pv 1) pa_nil))) (pg_tup rfl (pgs_cons (pg_name (i := 3) sc_law_word.nd rfl (Or.inl rfl)) (pgs_cons (pg_name (i := 5) sc_law_word.nd rfl (Or.inl rfl)) pgs_nil))))
      (pss_cons (ps_if (pt_cmpR op_eq (pv 2) pe_str (nomark _)) (pss_cons (ps_set (i := 9) sc_law_word.nd rfl (Or.inl rfl) (pe_op op_add (pe_op op_sub (pe_ix ix_tup (pv 0) pe_int (fun _ _ => rfl)) (pe_ix ix_tup (pv 0) pe_int (fun _ _ => rfl))) pe_int))
      (pss_one (ps_ret (pe_tup (pa_cons (pv 9) (pa_cons (pe_op op_mod (pe_callTy call_int1 (by rfl) T.f_int PyProof.Rows.boot_int (pa_cons (pe_op op_fdiv (pv 5) (pe_op op_shl pe_int (pe_ix ix_tup (pv 0) pe_int (fun _ _ => rfl)))) pa_nil)) (pe_op op_shl pe_int (pv 9))) pa_nil)))))) pss_nil)
      (pss_cons (ps_if (pt_cmpR op_eq (pv 2) pe_str (nomark _)) (pss_one (ps_ret (pe_tup (pa_cons (pv 3) (pa_cons (pe_op op_mod (pe_callTy call_int1 (by rfl) T.f_int PyProof.Rows.boot_int (pa_cons (pe_op op_mul (pv 5) (pe_op op_shl pe_int (pe_ix ix_tup (pv 0) pe_int (fun _ _ => rfl)))) pa_nil)) (pe_op op_shl pe_int (pv 3))) pa_nil))))) pss_nil)
      (pss_cons (ps_if (pt_cmpR op_eq (pv 2) pe_str (nomark _)) (pss_one (ps_ret (pe_tup (pa_cons (pv 3) (pa_cons (pe_op op_fdiv (pv 5) (pe_op op_shl pe_int (pe_ix ix_tup (pv 0) pe_int (fun _ _ => rfl)))) pa_nil))))) pss_nil)
      (pss_cons (ps_if (pt_cmpR op_eq (pv 2) pe_str (nomark _)) (pss_one (ps_ret (pe_tup (pa_cons (pv 3) (pa_cons (pe_op op_sub (pe_op op_sub (pe_op op_shl pe_int (pv 3)) pe_int) (pv 5)) pa_nil))))) pss_nil)
      (pss_cons (ps_if (pt_cmpR op_eq (pv 2) pe_str (nomark _)) (pss_one (ps_ret (pe_tup (pa_cons (pv 3) (pa_cons (pe_op op_mod (pe_callTy call_int1 (by rfl) T.f_int PyProof.Rows.boot_int (pa_cons (pe_op op_sub (pe_op op_shl pe_int (pv 3)) (pv 5)) pa_nil)) (pe_op op_shl pe_int (pv 3))) pa_nil))))) pss_nil)
      (pss_cons (ps_set (i := 10) sc_law_word.nd rfl (Or.inl rfl) (pe_ix ix_tup (C8.pe_c ih hr (Nat.le_refl _) rfl (pa_cons (pe_ix ix_tup (pv 0) pe_int (fun _ _ => rfl)) (pa_cons (pv 1) pa_nil))) pe_int (fun _ _ => rfl)))
      (pss_cons (ps_if (pt_cmpR op_eq (pv 2) pe_str (nomark _)) (pss_one (ps_ret (pe_tup (pa_cons pe_int (pa_cons (pe_callTy call_int1 (by rfl) T.f_int PyProof.Rows.boot_int (pa_cons (pe_cmpR op_eq (pv 5) (pv 10) (nomark _)) pa_nil)) pa_nil))))) pss_nil)
      (pss_cons (ps_if (pt_cmpR op_eq (pv 2) pe_str (nomark _)) (pss_one (ps_ret (pe_tup (pa_cons pe_int (pa_cons (pe_callTy call_int1 (by rfl) T.f_int PyProof.Rows.boot_int (pa_cons (pe_cmpR op_lt (pv 5) (pv 10) (nomark _)) pa_nil)) pa_nil))))) pss_nil)
      (pss_cons (ps_if (pt_cmpR op_eq (pv 2) pe_str (nomark _)) (pss_one (ps_ret (pe_tup (pa_cons (pv 3) (pa_cons (pe_op op_mod (pe_callTy call_int1 (by rfl) T.f_int PyProof.Rows.boot_int (pa_cons (pe_op op_add (pv 5) (pv 10)) pa_nil)) (pe_op op_shl pe_int (pv 3))) pa_nil))))) pss_nil)
      (pss_cons (ps_if (pt_cmpR op_eq (pv 2) pe_str (nomark _)) (pss_one (ps_ret (pe_tup (pa_cons (pv 3) (pa_cons (pe_op op_mod (pe_callTy call_int1 (by rfl) T.f_int PyProof.Rows.boot_int (pa_cons (pe_op op_mul (pv 5) (pv 10)) pa_nil)) (pe_op op_shl pe_int (pv 3))) pa_nil))))) pss_nil)
      (pss_one (ps_ret (pe_tup (pa_cons (pv 3) (pa_cons (C8.pe_c (cal_law_bitwise T) hr lvG rfl (pa_cons (pv 2) (pa_cons (pv 3) (pa_cons (pv 5) (pa_cons (pv 10) pa_nil))))) pa_nil))))))))))))))))))))))), ?_⟩
    have fin : ∀ (H1 : Hp) (t : Addr) (a b : V), Kp [] H H1 → H1 t = none → a = .int (e.wd we : Int) → b = .int (e.ev we env : Int) → Q (.ref t) (upd H1 t (.tup [a, b])) := fun H1 t a b k nt ea eb => by
      subst ea eb
      exact q _ t (k.new nt) (SqT.of upd_same)
    have elt := ev_lt henv hok
    have ewd := Ex.wd_ok hok
    cases e with
    | num wd v =>
      obtain ⟨p, rfl, hp⟩ := hE
      refine ⟨_, rfl, _, _, _, _, rfl, rfl, hp, atI_nat (j := 0) rfl, ?_⟩
      refine ⟨_, rfl, rfl, _, rfl, ifStrT rfl ?_⟩
      refine ⟨_, rfl, _, _, _, _, rfl, rfl, hp, atI_nat (j := 1) rfl, _, rfl, _, _, _, _, rfl, rfl, hp, atI_nat (j := 2) rfl, (by show 2 ≤ sizeLine; decide), fun t nt => fin _ t _ _ Kp.refl nt rfl rfl⟩
    | nm x =>
      obtain ⟨p, rfl, hp⟩ := hE
      obtain ⟨⟨kvs, eK, hl, hf⟩⟩ := hN
      obtain ⟨t, e1, ht⟩ := hf x (by have := hok.1; omega)
      refine ⟨_, rfl, _, _, _, _, rfl, rfl, hp, atI_nat (j := 0) rfl, ?_⟩
      refine ⟨_, rfl, rfl, _, rfl, ifStrF (nm_ne (by decide +kernel)) ?_⟩
      refine ⟨_, rfl, rfl, _, rfl, ifStrT rfl ?_⟩
      refine ⟨_, rfl, _, rfl, _, _, _, _, rfl, rfl, hp, atI_nat (j := 1) rfl, _, _, rfl, .inl ⟨kvs, Sum.inr x, .inl eK, rfl, e1.symm⟩, ?_⟩
      exact q H t Kp.refl ht
    | join ea eb =>
      obtain ⟨p, tp, x1, x2, rfl, hp, htp, h1, h2⟩ := hE
      obtain ⟨d1, d2⟩ := Nat.max_lt.mp (Nat.lt_of_succ_lt_succ hd)
      have wa := Ex.wd_ok hok.1
      have wb := Ex.wd_ok hok.2.1
      have la := ev_lt henv hok.1
      have lb := ev_lt henv hok.2.1
      refine ⟨_, rfl, _, _, _, _, rfl, rfl, hp, atI_nat (j := 0) rfl, ?_⟩
      refine ⟨_, rfl, rfl, _, rfl, ifStrF (nm_ne (by decide +kernel)) ?_⟩
      refine ⟨_, rfl, rfl, _, rfl, ifStrF (nm_ne (by decide +kernel)) ?_⟩
      refine ⟨_, rfl, rfl, _, rfl, ifStrF (nm_ne (by decide +kernel)) ?_⟩
      refine ⟨_, rfl, rfl, _, rfl, ifStrF (nm_ne (by decide +kernel)) ?_⟩
      refine ⟨_, rfl, rfl, _, rfl, ifStrT rfl ?_⟩
      refine ⟨(by show 2 ≤ sizeLine; decide), fun t nt => ?_⟩
      refine ⟨t, _, rfl, SqT.of upd_same, rfl, _, _, rfl, _, _, rfl, rfl, ?_⟩
      have k0 : Kp [] H (upd H t (.tup [.int 0, .int 0])) := Kp.refl.new nt
      refine ⟨_, rfl, _, _, _, _, rfl, rfl, k0.sqT hp, atI_nat (j := 1) rfl, _, rfl, ⟨_, k0.sqT htp⟩, ?_⟩
      refine for_it walk_tup (fun i σ H' => ∃ (W Vv : Nat) (x4 x6 x7 x8 x9 x10 : Option V), σ = [some (.ref p), some (.ref nd), some (.str "join"), some (.int (W : Int)), x4, some (.int (Vv : Int)), x6, x7, x8, x9, x10] ∧ Kp [] H H' ∧ (i = 0 → W = 0 ∧ Vv = 0) ∧ (i = 1 → W = ea.wd we ∧ Vv = ea.ev we env) ∧ (i = 2 → W = ea.wd we + eb.wd we ∧ Vv = ea.ev we env * 2 ^ eb.wd we + eb.ev we env))
        ⟨0, 0, none, none, none, none, none, none, rfl, k0, fun _ => ⟨rfl, rfl⟩, (fun z => by omega), fun z => by omega⟩ (fun i σ H' _ ⟨_, _, _, _, _, _, _, _, _, k, _⟩ => k.sqT htp) ?_ ?_
      · rintro i v σ H0 H1 hi ⟨W, Vv, x4, x6, x7, x8, x9, x10, rfl, k, c0, c1, c2⟩ ⟨rfl, gx⟩
        have hi' : i = 0 ∨ i = 1 := by have : i < 2 := hi; omega
        rcases hi' with rfl | rfl
        · obtain ⟨rfl, rfl⟩ := c0 rfl
          have ex : v = x1 := (Option.some.inj gx).symm
          subst ex
          refine ⟨_, rfl, _, rfl, _, _, ea, we, env, rfl, ExAt.kp k h1, hN.kp0 k, hok.1, d1, henv, fun H3 t3 k3 h3 => ?_⟩
          refine ⟨t3, _, rfl, h3, rfl, _, _, rfl, _, _, rfl, rfl, ?_⟩
          refine ⟨_, rfl, _, rfl, _, _, rfl, rfl, _, rfl, _, rfl, _, _, rfl, rfl, cpow1 (by omega), _, _, rfl, rfl, .inl ⟨by decide, by decide⟩, _, rfl, _, _, rfl, rfl, _, _, rfl, ?_⟩
          refine ⟨ea.wd we, ea.ev we env, x4, some v, some (.int (ea.wd we : Int)), some (.int (ea.ev we env : Int)), x9, x10, ?_, k.trans k3, (fun z => by omega), (fun _ => ⟨rfl, rfl⟩), fun z => by omega⟩
          dsimp only
          rw [show ((0 : Nat) : Int) = 0 from rfl, Int.zero_mul, Int.zero_add, Int.zero_add]; rfl
        · obtain ⟨rfl, rfl⟩ := c1 rfl
          have ex : v = x2 := (Option.some.inj gx).symm
          subst ex
          refine ⟨_, rfl, _, rfl, _, _, eb, we, env, rfl, ExAt.kp k h2, hN.kp0 k, hok.2.1, d2, henv, fun H3 t3 k3 h3 => ?_⟩
          refine ⟨t3, _, rfl, h3, rfl, _, _, rfl, _, _, rfl, rfl, ?_⟩
          refine ⟨_, rfl, _, rfl, _, _, rfl, rfl, _, rfl, _, rfl, _, _, rfl, rfl, cpow1 (by omega), _, _, rfl, rfl, CMul16 la (by omega), _, rfl, _, _, rfl, rfl, _, _, rfl, ?_⟩
          refine ⟨ea.wd we + eb.wd we, ea.ev we env * 2 ^ eb.wd we + eb.ev we env, x4, some v, some (.int (eb.wd we : Int)), some (.int (eb.ev we env : Int)), x9, x10, ?_, k.trans k3, (fun z => by omega), (fun z => by omega), fun _ => ⟨rfl, rfl⟩⟩
          dsimp only
          rw [shl1, ← Int.natCast_mul, ← Int.natCast_add, ← Int.natCast_add]; rfl
      · rintro σ H1 ⟨W, Vv, x4, x6, x7, x8, x9, x10, rfl, k, c0, c1, c2⟩
        obtain ⟨rfl, rfl⟩ := c2 rfl
        exact ⟨_, rfl, _, rfl, (by show 2 ≤ sizeLine; decide), fun t nt => fin _ t _ _ k nt rfl rfl⟩
    | ite ec ea eb =>
      obtain ⟨p, x0, x1, x2, rfl, hp, h0, h1, h2⟩ := hE
      obtain ⟨d0, d12⟩ := Nat.max_lt.mp (Nat.lt_of_succ_lt_succ hd)
      obtain ⟨d1, d2⟩ := Nat.max_lt.mp d12
      refine ⟨_, rfl, _, _, _, _, rfl, rfl, hp, atI_nat (j := 0) rfl, ?_⟩
      refine ⟨_, rfl, rfl, _, rfl, ifStrF (nm_ne (by decide +kernel)) ?_⟩
      refine ⟨_, rfl, rfl, _, rfl, ifStrF (nm_ne (by decide +kernel)) ?_⟩
      refine ⟨_, rfl, rfl, _, rfl, ifStrF (nm_ne (by decide +kernel)) ?_⟩
      refine ⟨_, rfl, rfl, _, rfl, ifStrF (nm_ne (by decide +kernel)) ?_⟩
      refine ⟨_, rfl, rfl, _, rfl, ifStrF (nm_ne (by decide +kernel)) ?_⟩
      refine ⟨_, rfl, rfl, _, rfl, ifStrT rfl ?_⟩
      refine ⟨_, rfl, _, rfl, _, _, _, _, rfl, rfl, hp, atI_nat (j := 1) rfl, _, rfl, _, _, ec, we, env, rfl, h0, hN, hok.1, d0, henv, fun H1 t1 k1 h1' => ?_⟩
      refine ⟨_, _, _, _, rfl, rfl, h1', atI_nat (j := 1) rfl, ?_⟩
      refine ⟨rfl, _, rfl, ite2 (fun e => ?_) (fun e => ?_)⟩
      · refine ⟨_, _, _, _, rfl, rfl, k1.sqT hp, atI_nat (j := 2) rfl, _, rfl, _, _, ea, we, env, rfl, ExAt.kp k1 h1, hN.kp0 k1, hok.2.1, d1, henv, fun H3 t3 k3 h3 => ?_⟩
        have e1 : ec.ev we env = 1 := by
          have := of_decide_eq_true e
          have := V.int.inj this
          omega
        refine q H3 t3 (k1.trans k3) ?_
        simp only [Ex.wd, Ex.ev]
        rw [if_pos e1]; exact h3
      · refine ⟨_, _, _, _, rfl, rfl, k1.sqT hp, atI_nat (j := 3) rfl, _, rfl, _, _, eb, we, env, rfl, ExAt.kp k1 h2, hN.kp0 k1, hok.2.2.1, d2, henv, fun H3 t3 k3 h3 => ?_⟩
        have e1 : ¬ ec.ev we env = 1 := fun z => by
          rw [z] at e
          exact absurd e (by decide)
        refine q H3 t3 (k1.trans k3) ?_
        simp only [Ex.wd, Ex.ev]
        rw [if_neg e1, hok.2.2.2.2]; exact h3
    | sl ea hi lo =>
      obtain ⟨p, x1, rfl, hp, h1⟩ := hE
      have d1 := Nat.lt_of_succ_lt_succ hd
      have la := ev_lt henv (e := ea) hok.1
      have wa := Ex.wd_ok (e := ea) hok.1
      have hk1 := hok.2.1
      have hk2 := hok.2.2
      refine ⟨_, rfl, _, _, _, _, rfl, rfl, hp, atI_nat (j := 0) rfl, ?_⟩
      refine ⟨_, rfl, rfl, _, rfl, ifStrF (nm_ne (by decide +kernel)) ?_⟩
      refine ⟨_, rfl, rfl, _, rfl, ifStrF (nm_ne (by decide +kernel)) ?_⟩
      refine ⟨_, rfl, rfl, _, rfl, ifStrF (nm_ne (by decide +kernel)) ?_⟩
      refine ⟨_, rfl, rfl, _, rfl, ifStrF (nm_ne (by decide +kernel)) ?_⟩
      refine ⟨_, rfl, rfl, _, rfl, ifStrF (nm_ne (by decide +kernel)) ?_⟩
      refine ⟨_, rfl, rfl, _, rfl, ifStrF (nm_ne (by decide +kernel)) ?_⟩
      refine ⟨_, rfl, _, _, _, _, rfl, rfl, hp, atI_nat (j := 1) rfl, _, rfl, _, _, ea, we, env, rfl, h1, hN, hok.1, d1, henv, fun H1 t1 k1 h1' => ?_⟩
      refine ⟨t1, _, rfl, h1', rfl, _, _, rfl, _, _, rfl, rfl, ?_⟩
      refine ⟨_, rfl, rfl, _, rfl, ifStrT rfl ?_⟩
      refine ⟨_, rfl, _, _, _, _, rfl, rfl, k1.sqT hp, atI_nat (j := 2) rfl, _, rfl, _, _, _, _, rfl, rfl, k1.sqT hp, atI_nat (j := 3) rfl, _, _, rfl, rfl, _, _, rfl, rfl, ?_⟩
      have ew : ((hi : Int) - (lo : Int) + 1) = ((hi - lo + 1 : Nat) : Int) := by omega
      dsimp only
      rw [ew]
      refine ⟨_, rfl, _, rfl, _, rfl, _, _, _, _, rfl, rfl, k1.sqT hp, atI_nat (j := 3) rfl, _, _, rfl, rfl, cpow1 (by omega), _, _, rfl, rfl, cdivN (by omega), .inl ⟨_, rfl, _, rfl, _, _, rfl, rfl, cpow1 (by omega), _, _, rfl, rfl, mod_pos _, (by show 2 ≤ sizeLine; decide), fun t nt => fin _ t _ _ k1 nt rfl ?_⟩⟩
      dsimp only
      rw [shl1, shl1]
      simp only [Ex.ev, Int.natCast_emod, Int.natCast_ediv]
    | sh l ea k =>
      obtain ⟨p, x1, rfl, hp, h1⟩ := hE
      have d1 := Nat.lt_of_succ_lt_succ hd
      have la := ev_lt henv (e := ea) hok.1
      have wa := Ex.wd_ok (e := ea) hok.1
      have hk1 := hok.2
      cases l with
      | true =>
        refine ⟨_, rfl, _, _, _, _, rfl, rfl, hp, atI_nat (j := 0) rfl, ?_⟩
        refine ⟨_, rfl, rfl, _, rfl, ifStrF (nm_ne (by decide +kernel)) ?_⟩
        refine ⟨_, rfl, rfl, _, rfl, ifStrF (nm_ne (by decide +kernel)) ?_⟩
        refine ⟨_, rfl, rfl, _, rfl, ifStrF (nm_ne (by decide +kernel)) ?_⟩
        refine ⟨_, rfl, rfl, _, rfl, ifStrF (nm_ne (by decide +kernel)) ?_⟩
        refine ⟨_, rfl, rfl, _, rfl, ifStrF (nm_ne (by decide +kernel)) ?_⟩
        refine ⟨_, rfl, rfl, _, rfl, ifStrF (nm_ne (by decide +kernel)) ?_⟩
        refine ⟨_, rfl, _, _, _, _, rfl, rfl, hp, atI_nat (j := 1) rfl, _, rfl, _, _, ea, we, env, rfl, h1, hN, hok.1, d1, henv, fun H1 t1 k1 h1' => ?_⟩
        refine ⟨t1, _, rfl, h1', rfl, _, _, rfl, _, _, rfl, rfl, ?_⟩
        refine ⟨_, rfl, rfl, _, rfl, ifStrF (nm_ne (by decide +kernel)) ?_⟩
        refine ⟨_, rfl, rfl, _, rfl, ifStrT rfl ?_⟩
        refine ⟨_, rfl, _, rfl, _, rfl, _, _, _, _, rfl, rfl, k1.sqT hp, atI_nat (j := 2) rfl, _, _, rfl, rfl, cpow1 (by omega), _, _, rfl, rfl, CMul16 la (by omega), .inl ⟨_, rfl, _, rfl, _, _, rfl, rfl, cpow1 (by omega), _, _, rfl, rfl, mod_pos _, (by show 2 ≤ sizeLine; decide), fun t nt => fin _ t _ _ k1 nt rfl ?_⟩⟩
        dsimp only
        rw [shl1, shl1]
        simp [Ex.ev, Int.natCast_emod, Int.natCast_mul]
      | false =>
        refine ⟨_, rfl, _, _, _, _, rfl, rfl, hp, atI_nat (j := 0) rfl, ?_⟩
        refine ⟨_, rfl, rfl, _, rfl, ifStrF (nm_ne (by decide +kernel)) ?_⟩
        refine ⟨_, rfl, rfl, _, rfl, ifStrF (nm_ne (by decide +kernel)) ?_⟩
        refine ⟨_, rfl, rfl, _, rfl, ifStrF (nm_ne (by decide +kernel)) ?_⟩
        refine ⟨_, rfl, rfl, _, rfl, ifStrF (nm_ne (by decide +kernel)) ?_⟩
        refine ⟨_, rfl, rfl, _, rfl, ifStrF (nm_ne (by decide +kernel)) ?_⟩
        refine ⟨_, rfl, rfl, _, rfl, ifStrF (nm_ne (by decide +kernel)) ?_⟩
        refine ⟨_, rfl, _, _, _, _, rfl, rfl, hp, atI_nat (j := 1) rfl, _, rfl, _, _, ea, we, env, rfl, h1, hN, hok.1, d1, henv, fun H1 t1 k1 h1' => ?_⟩
        refine ⟨t1, _, rfl, h1', rfl, _, _, rfl, _, _, rfl, rfl, ?_⟩
        refine ⟨_, rfl, rfl, _, rfl, ifStrF (nm_ne (by decide +kernel)) ?_⟩
        refine ⟨_, rfl, rfl, _, rfl, ifStrF (nm_ne (by decide +kernel)) ?_⟩
        refine ⟨_, rfl, rfl, _, rfl, ifStrT rfl ?_⟩
        refine ⟨_, rfl, _, rfl, _, rfl, _, _, _, _, rfl, rfl, k1.sqT hp, atI_nat (j := 2) rfl, _, _, rfl, rfl, cpow1 (by omega), _, _, rfl, rfl, cdivN (by omega), (by show 2 ≤ sizeLine; decide), fun t nt => fin _ t _ _ k1 nt rfl ?_⟩
        dsimp only
        rw [shl1]
        simp [Ex.ev, Int.natCast_ediv]
    | un m ea =>
      obtain ⟨p, x1, rfl, hp, h1⟩ := hE
      have d1 := Nat.lt_of_succ_lt_succ hd
      have la := ev_lt henv (e := ea) hok
      have wa := Ex.wd_ok (e := ea) hok
      cases m with
      | false =>
        refine ⟨_, rfl, _, _, _, _, rfl, rfl, hp, atI_nat (j := 0) rfl, ?_⟩
        refine ⟨_, rfl, rfl, _, rfl, ifStrF (nm_ne (by decide +kernel)) ?_⟩
        refine ⟨_, rfl, rfl, _, rfl, ifStrF (nm_ne (by decide +kernel)) ?_⟩
        refine ⟨_, rfl, rfl, _, rfl, ifStrF (nm_ne (by decide +kernel)) ?_⟩
        refine ⟨_, rfl, rfl, _, rfl, ifStrF (nm_ne (by decide +kernel)) ?_⟩
        refine ⟨_, rfl, rfl, _, rfl, ifStrF (nm_ne (by decide +kernel)) ?_⟩
        refine ⟨_, rfl, rfl, _, rfl, ifStrF (nm_ne (by decide +kernel)) ?_⟩
        refine ⟨_, rfl, _, _, _, _, rfl, rfl, hp, atI_nat (j := 1) rfl, _, rfl, _, _, ea, we, env, rfl, h1, hN, hok, d1, henv, fun H1 t1 k1 h1' => ?_⟩
        refine ⟨t1, _, rfl, h1', rfl, _, _, rfl, _, _, rfl, rfl, ?_⟩
        refine ⟨_, rfl, rfl, _, rfl, ifStrF (nm_ne (by decide +kernel)) ?_⟩
        refine ⟨_, rfl, rfl, _, rfl, ifStrF (nm_ne (by decide +kernel)) ?_⟩
        refine ⟨_, rfl, rfl, _, rfl, ifStrF (nm_ne (by decide +kernel)) ?_⟩
        refine ⟨_, rfl, rfl, _, rfl, ifStrT rfl ?_⟩
        refine ⟨_, rfl, _, rfl, _, _, rfl, rfl, cpow1 (by omega), _, _, rfl, rfl, _, rfl, _, _, rfl, rfl, (by show 2 ≤ sizeLine; decide), fun t nt => fin _ t _ _ k1 nt rfl ?_⟩
        dsimp only
        rw [shl1]
        simp only [Ex.ev, Bool.false_eq_true, if_false]
        congr 1
        omega
      | true =>
        refine ⟨_, rfl, _, _, _, _, rfl, rfl, hp, atI_nat (j := 0) rfl, ?_⟩
        refine ⟨_, rfl, rfl, _, rfl, ifStrF (nm_ne (by decide +kernel)) ?_⟩
        refine ⟨_, rfl, rfl, _, rfl, ifStrF (nm_ne (by decide +kernel)) ?_⟩
        refine ⟨_, rfl, rfl, _, rfl, ifStrF (nm_ne (by decide +kernel)) ?_⟩
        refine ⟨_, rfl, rfl, _, rfl, ifStrF (nm_ne (by decide +kernel)) ?_⟩
        refine ⟨_, rfl, rfl, _, rfl, ifStrF (nm_ne (by decide +kernel)) ?_⟩
        refine ⟨_, rfl, rfl, _, rfl, ifStrF (nm_ne (by decide +kernel)) ?_⟩
        refine ⟨_, rfl, _, _, _, _, rfl, rfl, hp, atI_nat (j := 1) rfl, _, rfl, _, _, ea, we, env, rfl, h1, hN, hok, d1, henv, fun H1 t1 k1 h1' => ?_⟩
        refine ⟨t1, _, rfl, h1', rfl, _, _, rfl, _, _, rfl, rfl, ?_⟩
        refine ⟨_, rfl, rfl, _, rfl, ifStrF (nm_ne (by decide +kernel)) ?_⟩
        refine ⟨_, rfl, rfl, _, rfl, ifStrF (nm_ne (by decide +kernel)) ?_⟩
        refine ⟨_, rfl, rfl, _, rfl, ifStrF (nm_ne (by decide +kernel)) ?_⟩
        refine ⟨_, rfl, rfl, _, rfl, ifStrF (nm_ne (by decide +kernel)) ?_⟩
        refine ⟨_, rfl, rfl, _, rfl, ifStrT rfl ?_⟩
        refine ⟨_, rfl, _, rfl, _, _, rfl, rfl, cpow1 (by omega), _, rfl, _, _, rfl, rfl, .inl ⟨_, rfl, _, rfl, _, _, rfl, rfl, cpow1 (by omega), _, _, rfl, rfl, mod_pos _, (by show 2 ≤ sizeLine; decide), fun t nt => fin _ t _ _ k1 nt rfl ?_⟩⟩
        dsimp only
        rw [shl1, ← Int.ofNat_sub (Nat.le_of_lt la), ← Int.natCast_emod]
        simp only [Ex.ev, if_true]
    | bin k ea eb =>
      obtain ⟨p, x1, x2, rfl, hp, h1, h2⟩ := hE
      obtain ⟨d1, d2⟩ := Nat.max_lt.mp (Nat.lt_of_succ_lt_succ hd)
      have la := ev_lt henv hok.1
      have lb := ev_lt henv hok.2.1
      have wa := Ex.wd_ok hok.1
      cases k with
      | and =>
        refine ⟨_, rfl, _, _, _, _, rfl, rfl, hp, atI_nat (j := 0) rfl, ?_⟩
        refine ⟨_, rfl, rfl, _, rfl, ifStrF (nm_ne (by decide +kernel)) ?_⟩
        refine ⟨_, rfl, rfl, _, rfl, ifStrF (nm_ne (by decide +kernel)) ?_⟩
        refine ⟨_, rfl, rfl, _, rfl, ifStrF (nm_ne (by decide +kernel)) ?_⟩
        refine ⟨_, rfl, rfl, _, rfl, ifStrF (nm_ne (by decide +kernel)) ?_⟩
        refine ⟨_, rfl, rfl, _, rfl, ifStrF (nm_ne (by decide +kernel)) ?_⟩
        refine ⟨_, rfl, rfl, _, rfl, ifStrF (nm_ne (by decide +kernel)) ?_⟩
        refine ⟨_, rfl, _, _, _, _, rfl, rfl, hp, atI_nat (j := 1) rfl, _, rfl, _, _, ea, we, env, rfl, h1, hN, hok.1, d1, henv, fun H1 t1 k1 h1' => ?_⟩
        refine ⟨t1, _, rfl, h1', rfl, _, _, rfl, _, _, rfl, rfl, ?_⟩
        refine ⟨_, rfl, rfl, _, rfl, ifStrF (nm_ne (by decide +kernel)) ?_⟩
        refine ⟨_, rfl, rfl, _, rfl, ifStrF (nm_ne (by decide +kernel)) ?_⟩
        refine ⟨_, rfl, rfl, _, rfl, ifStrF (nm_ne (by decide +kernel)) ?_⟩
        refine ⟨_, rfl, rfl, _, rfl, ifStrF (nm_ne (by decide +kernel)) ?_⟩
        refine ⟨_, rfl, rfl, _, rfl, ifStrF (nm_ne (by decide +kernel)) ?_⟩
        refine ⟨_, rfl, _, _, _, _, rfl, rfl, k1.sqT hp, atI_nat (j := 2) rfl, _, rfl, _, _, eb, we, env, rfl, (ExAt.kp k1 h2), (hN.kp0 k1), hok.2.1, d2, henv, fun H2 t2 k2 h2' => ?_⟩
        refine ⟨_, _, _, _, rfl, rfl, h2', atI_nat (j := 1) rfl, ?_⟩
        refine ⟨_, rfl, rfl, _, rfl, ifStrF (nm_ne (by decide +kernel)) ?_⟩
        refine ⟨_, rfl, rfl, _, rfl, ifStrF (nm_ne (by decide +kernel)) ?_⟩
        refine ⟨_, rfl, rfl, _, rfl, ifStrF (nm_ne (by decide +kernel)) ?_⟩
        refine ⟨_, rfl, rfl, _, rfl, ifStrF (nm_ne (by decide +kernel)) ?_⟩
        refine ⟨_, rfl, _, rfl, _, rfl, _, rfl, _, rfl, .and, _, _, _, _, rfl, rfl, by omega, (by show 2 ≤ sizeLine; decide), fun t nt => fin _ t _ _ (k1.trans k2) nt rfl rfl⟩
      | or =>
        refine ⟨_, rfl, _, _, _, _, rfl, rfl, hp, atI_nat (j := 0) rfl, ?_⟩
        refine ⟨_, rfl, rfl, _, rfl, ifStrF (nm_ne (by decide +kernel)) ?_⟩
        refine ⟨_, rfl, rfl, _, rfl, ifStrF (nm_ne (by decide +kernel)) ?_⟩
        refine ⟨_, rfl, rfl, _, rfl, ifStrF (nm_ne (by decide +kernel)) ?_⟩
        refine ⟨_, rfl, rfl, _, rfl, ifStrF (nm_ne (by decide +kernel)) ?_⟩
        refine ⟨_, rfl, rfl, _, rfl, ifStrF (nm_ne (by decide +kernel)) ?_⟩
        refine ⟨_, rfl, rfl, _, rfl, ifStrF (nm_ne (by decide +kernel)) ?_⟩
        refine ⟨_, rfl, _, _, _, _, rfl, rfl, hp, atI_nat (j := 1) rfl, _, rfl, _, _, ea, we, env, rfl, h1, hN, hok.1, d1, henv, fun H1 t1 k1 h1' => ?_⟩
        refine ⟨t1, _, rfl, h1', rfl, _, _, rfl, _, _, rfl, rfl, ?_⟩
        refine ⟨_, rfl, rfl, _, rfl, ifStrF (nm_ne (by decide +kernel)) ?_⟩
        refine ⟨_, rfl, rfl, _, rfl, ifStrF (nm_ne (by decide +kernel)) ?_⟩
        refine ⟨_, rfl, rfl, _, rfl, ifStrF (nm_ne (by decide +kernel)) ?_⟩
        refine ⟨_, rfl, rfl, _, rfl, ifStrF (nm_ne (by decide +kernel)) ?_⟩
        refine ⟨_, rfl, rfl, _, rfl, ifStrF (nm_ne (by decide +kernel)) ?_⟩
        refine ⟨_, rfl, _, _, _, _, rfl, rfl, k1.sqT hp, atI_nat (j := 2) rfl, _, rfl, _, _, eb, we, env, rfl, (ExAt.kp k1 h2), (hN.kp0 k1), hok.2.1, d2, henv, fun H2 t2 k2 h2' => ?_⟩
        refine ⟨_, _, _, _, rfl, rfl, h2', atI_nat (j := 1) rfl, ?_⟩
        refine ⟨_, rfl, rfl, _, rfl, ifStrF (nm_ne (by decide +kernel)) ?_⟩
        refine ⟨_, rfl, rfl, _, rfl, ifStrF (nm_ne (by decide +kernel)) ?_⟩
        refine ⟨_, rfl, rfl, _, rfl, ifStrF (nm_ne (by decide +kernel)) ?_⟩
        refine ⟨_, rfl, rfl, _, rfl, ifStrF (nm_ne (by decide +kernel)) ?_⟩
        refine ⟨_, rfl, _, rfl, _, rfl, _, rfl, _, rfl, .or, _, _, _, _, rfl, rfl, by omega, (by show 2 ≤ sizeLine; decide), fun t nt => fin _ t _ _ (k1.trans k2) nt rfl rfl⟩
      | xor =>
        refine ⟨_, rfl, _, _, _, _, rfl, rfl, hp, atI_nat (j := 0) rfl, ?_⟩
        refine ⟨_, rfl, rfl, _, rfl, ifStrF (nm_ne (by decide +kernel)) ?_⟩
        refine ⟨_, rfl, rfl, _, rfl, ifStrF (nm_ne (by decide +kernel)) ?_⟩
        refine ⟨_, rfl, rfl, _, rfl, ifStrF (nm_ne (by decide +kernel)) ?_⟩
        refine ⟨_, rfl, rfl, _, rfl, ifStrF (nm_ne (by decide +kernel)) ?_⟩
        refine ⟨_, rfl, rfl, _, rfl, ifStrF (nm_ne (by decide +kernel)) ?_⟩
        refine ⟨_, rfl, rfl, _, rfl, ifStrF (nm_ne (by decide +kernel)) ?_⟩
        refine ⟨_, rfl, _, _, _, _, rfl, rfl, hp, atI_nat (j := 1) rfl, _, rfl, _, _, ea, we, env, rfl, h1, hN, hok.1, d1, henv, fun H1 t1 k1 h1' => ?_⟩
        refine ⟨t1, _, rfl, h1', rfl, _, _, rfl, _, _, rfl, rfl, ?_⟩
        refine ⟨_, rfl, rfl, _, rfl, ifStrF (nm_ne (by decide +kernel)) ?_⟩
        refine ⟨_, rfl, rfl, _, rfl, ifStrF (nm_ne (by decide +kernel)) ?_⟩
        refine ⟨_, rfl, rfl, _, rfl, ifStrF (nm_ne (by decide +kernel)) ?_⟩
        refine ⟨_, rfl, rfl, _, rfl, ifStrF (nm_ne (by decide +kernel)) ?_⟩
        refine ⟨_, rfl, rfl, _, rfl, ifStrF (nm_ne (by decide +kernel)) ?_⟩
        refine ⟨_, rfl, _, _, _, _, rfl, rfl, k1.sqT hp, atI_nat (j := 2) rfl, _, rfl, _, _, eb, we, env, rfl, (ExAt.kp k1 h2), (hN.kp0 k1), hok.2.1, d2, henv, fun H2 t2 k2 h2' => ?_⟩
        refine ⟨_, _, _, _, rfl, rfl, h2', atI_nat (j := 1) rfl, ?_⟩
        refine ⟨_, rfl, rfl, _, rfl, ifStrF (nm_ne (by decide +kernel)) ?_⟩
        refine ⟨_, rfl, rfl, _, rfl, ifStrF (nm_ne (by decide +kernel)) ?_⟩
        refine ⟨_, rfl, rfl, _, rfl, ifStrF (nm_ne (by decide +kernel)) ?_⟩
        refine ⟨_, rfl, rfl, _, rfl, ifStrF (nm_ne (by decide +kernel)) ?_⟩
        refine ⟨_, rfl, _, rfl, _, rfl, _, rfl, _, rfl, .xor, _, _, _, _, rfl, rfl, by omega, (by show 2 ≤ sizeLine; decide), fun t nt => fin _ t _ _ (k1.trans k2) nt rfl rfl⟩
      | plus =>
        refine ⟨_, rfl, _, _, _, _, rfl, rfl, hp, atI_nat (j := 0) rfl, ?_⟩
        refine ⟨_, rfl, rfl, _, rfl, ifStrF (nm_ne (by decide +kernel)) ?_⟩
        refine ⟨_, rfl, rfl, _, rfl, ifStrF (nm_ne (by decide +kernel)) ?_⟩
        refine ⟨_, rfl, rfl, _, rfl, ifStrF (nm_ne (by decide +kernel)) ?_⟩
        refine ⟨_, rfl, rfl, _, rfl, ifStrF (nm_ne (by decide +kernel)) ?_⟩
        refine ⟨_, rfl, rfl, _, rfl, ifStrF (nm_ne (by decide +kernel)) ?_⟩
        refine ⟨_, rfl, rfl, _, rfl, ifStrF (nm_ne (by decide +kernel)) ?_⟩
        refine ⟨_, rfl, _, _, _, _, rfl, rfl, hp, atI_nat (j := 1) rfl, _, rfl, _, _, ea, we, env, rfl, h1, hN, hok.1, d1, henv, fun H1 t1 k1 h1' => ?_⟩
        refine ⟨t1, _, rfl, h1', rfl, _, _, rfl, _, _, rfl, rfl, ?_⟩
        refine ⟨_, rfl, rfl, _, rfl, ifStrF (nm_ne (by decide +kernel)) ?_⟩
        refine ⟨_, rfl, rfl, _, rfl, ifStrF (nm_ne (by decide +kernel)) ?_⟩
        refine ⟨_, rfl, rfl, _, rfl, ifStrF (nm_ne (by decide +kernel)) ?_⟩
        refine ⟨_, rfl, rfl, _, rfl, ifStrF (nm_ne (by decide +kernel)) ?_⟩
        refine ⟨_, rfl, rfl, _, rfl, ifStrF (nm_ne (by decide +kernel)) ?_⟩
        refine ⟨_, rfl, _, _, _, _, rfl, rfl, k1.sqT hp, atI_nat (j := 2) rfl, _, rfl, _, _, eb, we, env, rfl, (ExAt.kp k1 h2), (hN.kp0 k1), hok.2.1, d2, henv, fun H2 t2 k2 h2' => ?_⟩
        refine ⟨_, _, _, _, rfl, rfl, h2', atI_nat (j := 1) rfl, ?_⟩
        refine ⟨_, rfl, rfl, _, rfl, ifStrF (nm_ne (by decide +kernel)) ?_⟩
        refine ⟨_, rfl, rfl, _, rfl, ifStrF (nm_ne (by decide +kernel)) ?_⟩
        refine ⟨_, rfl, rfl, _, rfl, ifStrT rfl ?_⟩
        refine ⟨_, rfl, _, rfl, _, rfl, _, _, rfl, rfl, .inl ⟨_, rfl, _, rfl, _, _, rfl, rfl, cpow1 (by omega), _, _, rfl, rfl, mod_pos _, (by show 2 ≤ sizeLine; decide), fun t nt => fin _ t _ _ (k1.trans k2) nt rfl ?_⟩⟩
        dsimp only
        rw [shl1, ← Int.natCast_add, ← Int.natCast_emod]
        rfl
      | times =>
        refine ⟨_, rfl, _, _, _, _, rfl, rfl, hp, atI_nat (j := 0) rfl, ?_⟩
        refine ⟨_, rfl, rfl, _, rfl, ifStrF (nm_ne (by decide +kernel)) ?_⟩
        refine ⟨_, rfl, rfl, _, rfl, ifStrF (nm_ne (by decide +kernel)) ?_⟩
        refine ⟨_, rfl, rfl, _, rfl, ifStrF (nm_ne (by decide +kernel)) ?_⟩
        refine ⟨_, rfl, rfl, _, rfl, ifStrF (nm_ne (by decide +kernel)) ?_⟩
        refine ⟨_, rfl, rfl, _, rfl, ifStrF (nm_ne (by decide +kernel)) ?_⟩
        refine ⟨_, rfl, rfl, _, rfl, ifStrF (nm_ne (by decide +kernel)) ?_⟩
        refine ⟨_, rfl, _, _, _, _, rfl, rfl, hp, atI_nat (j := 1) rfl, _, rfl, _, _, ea, we, env, rfl, h1, hN, hok.1, d1, henv, fun H1 t1 k1 h1' => ?_⟩
        refine ⟨t1, _, rfl, h1', rfl, _, _, rfl, _, _, rfl, rfl, ?_⟩
        refine ⟨_, rfl, rfl, _, rfl, ifStrF (nm_ne (by decide +kernel)) ?_⟩
        refine ⟨_, rfl, rfl, _, rfl, ifStrF (nm_ne (by decide +kernel)) ?_⟩
        refine ⟨_, rfl, rfl, _, rfl, ifStrF (nm_ne (by decide +kernel)) ?_⟩
        refine ⟨_, rfl, rfl, _, rfl, ifStrF (nm_ne (by decide +kernel)) ?_⟩
        refine ⟨_, rfl, rfl, _, rfl, ifStrF (nm_ne (by decide +kernel)) ?_⟩
        refine ⟨_, rfl, _, _, _, _, rfl, rfl, k1.sqT hp, atI_nat (j := 2) rfl, _, rfl, _, _, eb, we, env, rfl, (ExAt.kp k1 h2), (hN.kp0 k1), hok.2.1, d2, henv, fun H2 t2 k2 h2' => ?_⟩
        refine ⟨_, _, _, _, rfl, rfl, h2', atI_nat (j := 1) rfl, ?_⟩
        refine ⟨_, rfl, rfl, _, rfl, ifStrF (nm_ne (by decide +kernel)) ?_⟩
        refine ⟨_, rfl, rfl, _, rfl, ifStrF (nm_ne (by decide +kernel)) ?_⟩
        refine ⟨_, rfl, rfl, _, rfl, ifStrF (nm_ne (by decide +kernel)) ?_⟩
        refine ⟨_, rfl, rfl, _, rfl, ifStrT rfl ?_⟩
        refine ⟨_, rfl, _, rfl, _, rfl, _, _, rfl, rfl, CMul16 la (by omega), .inl ⟨_, rfl, _, rfl, _, _, rfl, rfl, cpow1 (by omega), _, _, rfl, rfl, mod_pos _, (by show 2 ≤ sizeLine; decide), fun t nt => fin _ t _ _ (k1.trans k2) nt rfl ?_⟩⟩
        dsimp only
        rw [shl1, ← Int.natCast_mul, ← Int.natCast_emod]
        rfl
      | equal =>
        refine ⟨_, rfl, _, _, _, _, rfl, rfl, hp, atI_nat (j := 0) rfl, ?_⟩
        refine ⟨_, rfl, rfl, _, rfl, ifStrF (nm_ne (by decide +kernel)) ?_⟩
        refine ⟨_, rfl, rfl, _, rfl, ifStrF (nm_ne (by decide +kernel)) ?_⟩
        refine ⟨_, rfl, rfl, _, rfl, ifStrF (nm_ne (by decide +kernel)) ?_⟩
        refine ⟨_, rfl, rfl, _, rfl, ifStrF (nm_ne (by decide +kernel)) ?_⟩
        refine ⟨_, rfl, rfl, _, rfl, ifStrF (nm_ne (by decide +kernel)) ?_⟩
        refine ⟨_, rfl, rfl, _, rfl, ifStrF (nm_ne (by decide +kernel)) ?_⟩
        refine ⟨_, rfl, _, _, _, _, rfl, rfl, hp, atI_nat (j := 1) rfl, _, rfl, _, _, ea, we, env, rfl, h1, hN, hok.1, d1, henv, fun H1 t1 k1 h1' => ?_⟩
        refine ⟨t1, _, rfl, h1', rfl, _, _, rfl, _, _, rfl, rfl, ?_⟩
        refine ⟨_, rfl, rfl, _, rfl, ifStrF (nm_ne (by decide +kernel)) ?_⟩
        refine ⟨_, rfl, rfl, _, rfl, ifStrF (nm_ne (by decide +kernel)) ?_⟩
        refine ⟨_, rfl, rfl, _, rfl, ifStrF (nm_ne (by decide +kernel)) ?_⟩
        refine ⟨_, rfl, rfl, _, rfl, ifStrF (nm_ne (by decide +kernel)) ?_⟩
        refine ⟨_, rfl, rfl, _, rfl, ifStrF (nm_ne (by decide +kernel)) ?_⟩
        refine ⟨_, rfl, _, _, _, _, rfl, rfl, k1.sqT hp, atI_nat (j := 2) rfl, _, rfl, _, _, eb, we, env, rfl, (ExAt.kp k1 h2), (hN.kp0 k1), hok.2.1, d2, henv, fun H2 t2 k2 h2' => ?_⟩
        refine ⟨_, _, _, _, rfl, rfl, h2', atI_nat (j := 1) rfl, ?_⟩
        refine ⟨_, rfl, rfl, _, rfl, ifStrT rfl ?_⟩
        refine ⟨_, rfl, _, rfl, rfl, .inr ⟨_, rfl, (by show 2 ≤ sizeLine; decide), fun t nt => fin _ t _ _ (k1.trans k2) nt rfl ?_⟩⟩
        by_cases h : ea.ev we env = eb.ev we env
        · simp [Ex.ev, Bop.ev, h]
        · have h2 : ¬ ((ea.ev we env : Nat) : Int) = ((eb.ev we env : Nat) : Int) := by omega
          simp [Ex.ev, Bop.ev, h, h2]
      | below =>
        refine ⟨_, rfl, _, _, _, _, rfl, rfl, hp, atI_nat (j := 0) rfl, ?_⟩
        refine ⟨_, rfl, rfl, _, rfl, ifStrF (nm_ne (by decide +kernel)) ?_⟩
        refine ⟨_, rfl, rfl, _, rfl, ifStrF (nm_ne (by decide +kernel)) ?_⟩
        refine ⟨_, rfl, rfl, _, rfl, ifStrF (nm_ne (by decide +kernel)) ?_⟩
        refine ⟨_, rfl, rfl, _, rfl, ifStrF (nm_ne (by decide +kernel)) ?_⟩
        refine ⟨_, rfl, rfl, _, rfl, ifStrF (nm_ne (by decide +kernel)) ?_⟩
        refine ⟨_, rfl, rfl, _, rfl, ifStrF (nm_ne (by decide +kernel)) ?_⟩
        refine ⟨_, rfl, _, _, _, _, rfl, rfl, hp, atI_nat (j := 1) rfl, _, rfl, _, _, ea, we, env, rfl, h1, hN, hok.1, d1, henv, fun H1 t1 k1 h1' => ?_⟩
        refine ⟨t1, _, rfl, h1', rfl, _, _, rfl, _, _, rfl, rfl, ?_⟩
        refine ⟨_, rfl, rfl, _, rfl, ifStrF (nm_ne (by decide +kernel)) ?_⟩
        refine ⟨_, rfl, rfl, _, rfl, ifStrF (nm_ne (by decide +kernel)) ?_⟩
        refine ⟨_, rfl, rfl, _, rfl, ifStrF (nm_ne (by decide +kernel)) ?_⟩
        refine ⟨_, rfl, rfl, _, rfl, ifStrF (nm_ne (by decide +kernel)) ?_⟩
        refine ⟨_, rfl, rfl, _, rfl, ifStrF (nm_ne (by decide +kernel)) ?_⟩
        refine ⟨_, rfl, _, _, _, _, rfl, rfl, k1.sqT hp, atI_nat (j := 2) rfl, _, rfl, _, _, eb, we, env, rfl, (ExAt.kp k1 h2), (hN.kp0 k1), hok.2.1, d2, henv, fun H2 t2 k2 h2' => ?_⟩
        refine ⟨_, _, _, _, rfl, rfl, h2', atI_nat (j := 1) rfl, ?_⟩
        refine ⟨_, rfl, rfl, _, rfl, ifStrF (nm_ne (by decide +kernel)) ?_⟩
        refine ⟨_, rfl, rfl, _, rfl, ifStrT rfl ?_⟩
        refine ⟨_, rfl, _, rfl, _, _, rfl, rfl, .inr ⟨_, rfl, (by show 2 ≤ sizeLine; decide), fun t nt => fin _ t _ _ (k1.trans k2) nt rfl ?_⟩⟩
        by_cases h : ea.ev we env < eb.ev we env
        · simp [Ex.ev, Bop.ev, h]
        · simp [Ex.ev, Bop.ev, h]
end
end K14
set_option maxHeartbeats 200000
/-! rules with the written part named: for use within comprehensions -/
namespace K14
open PySem PySem.Spec PyProof.Rows L2
variable {X : Cx} {K : PySem.W.Frag}
theorem ix_tupK (h : X.K = K) : IxR X (rIxT K) := by subst h; exact ix_tup
theorem ix_listK (h : X.K = K) : IxR X (rIxL K) := by subst h; exact ix_list
theorem sl_tupAK (h : X.K = K) : SlR X (rSlA K) := by subst h; exact sl_tupA
theorem sl_listK (h : X.K = K) : SlR X (rSlL K) := by subst h; exact sl_list
theorem op_in_seqK (h : X.K = K) : OpR X (compareOp .In) (rIn K false) := by subst h; exact op_in_seq
theorem op_notIn_seqK (h : X.K = K) : OpR X (compareOp .NotIn) (rIn K true) := by subst h; exact op_notIn_seq
theorem call_len_seqK (h : X.K = K) : CallR X (.builtin "len") (fun xs H Q => ∃ p ys, xs = [.ref p] ∧ (SqL K H p ys ∨ SqT K H p ys) ∧ Q (.int ys.length) H) := by subst h; exact call_len_seq
theorem call_list_ofK (h : X.K = K) : CallR X (.type "list") (fun xs H Q => ∃ p ys, xs = [.ref p] ∧ (SqL K H p ys ∨ SqT K H p ys) ∧ ∀ l, H l = none → Q (.ref l) (upd H l (.lst ys))) := by subst h; exact call_list_of
def tNever : TS := fun _ _ _ => False
theorem pss_never {ss : List Stmt} : PSs X ss tNever := ⟨fun _ _ _ _ _ _ h => h.elim⟩
end K14
set_option maxHeartbeats 4000000
/-! a design's module, its resets, its rows of inputs -/
namespace K14
open PySem PySem.Spec PyProof.Rows L2
section
variable {P : Program} {w : World} {K : PySem.W.Frag} {mg : Str → Option Value} {base : Heap}
theorem cal_lword (T : Top K mg) : ∀ d, C8.Cal P w K mg base (2 + d) "_law_word" (spLW K d) []
  | 0 => cal_lword0 T
  | d + 1 => cal_lword_s T (cal_lword T d)
theorem cal_law_word (T : Top K mg) : C8.Cal P w K mg base 14 "_law_word" (spLW K maxDep) [] := cal_lword T 12
/-- a module: its name, its items -/
def MoAt (K : PySem.W.Frag) (H : Hp) (M I : Addr) (nm : Str) (its : List It0) : Prop := SqT K H M [.str "module", .str nm, .ref I] ∧ ItsAt K H I its
theorem MoAt.kp {S : List Addr} {H H' : Hp} {M I : Addr} {nm : Str} {its : List It0} (k : Kp S H H') (x : MoAt K H M I nm its) : MoAt K H' M I nm its := ⟨k.sqT x.1, x.2.kp k⟩
/-- a design of one module -/
def DsAt (K : PySem.W.Frag) (H : Hp) (D : Addr) (nm : Str) (its : List It0) : Prop := ∃ M I, SqT K H D [.ref M] ∧ MoAt K H M I nm its
theorem DsAt.kp {S : List Addr} {H H' : Hp} {D : Addr} {nm : Str} {its : List It0} (k : Kp S H H') (x : DsAt K H D nm its) : DsAt K H' D nm its := by
  obtain ⟨M, I, h1, h2⟩ := x
  exact ⟨M, I, k.sqT h1, h2.kp k⟩
def spModule (K : PySem.W.Frag) : Sp := fun vs H Q _ => ∃ (D M I : Addr) (nm : Str) (its : List It0), vs = [.ref D, .str nm] ∧ SqT K H D [.ref M] ∧ MoAt K H M I nm its ∧ ∀ H', Kp [] H H' → Q (.ref M) H'
abbrev nm_law_module : List Str := ["_law_design", "_law_name", "_law_module_here"]
theorem sc_law_module : FnScope nm_law_module ["_law_design", "_law_name"] (C8.fnScope (st 50)) := C8.fnScope_by (by decide +kernel)
theorem cal_law_module (T : Top K mg) : C8.Cal P w K mg base (1) "_law_module" (spModule K) [] := by
  refine calD T.d__law_module sc_law_module (fun vs H Q E h => ?_) (fun f cdv A outer s0 H vs Q E hr h => ?_)
  ·
    obtain ⟨D, M, I, nm, its, rfl, _⟩ := h; rfl
  ·
    obtain ⟨D, M, I, nm, its, rfl, hD, hM, q⟩ := h
    have hu := hu_of hr
    refine ⟨_, (pss_one (ps_ret (pe_ix ix_list (pe_lc (own := [("_law_module_here", 2)]) (g := (gName 2))  rfl sc_law_module.nd (pi_tup (pv 0)) (blkOk_by (own := [("_law_module_here", 2)]) (N := nm_law_module) (sc := C8.fnScope (st 50)) (by decide +kernel)) (fun _ _ _ _ _ => (pg_name (i := 2) sc_law_module.nd rfl (Or.inl rfl))) (fun _ _ _ _ _ => (pts_one (pt_cmpR op_eq (pe_ix (ix_tupK (K := K) rfl) (pv 2) pe_int (fun _ _ => rfl)) (pv 1) (nomark _)))) (fun _ _ _ _ _ => (pv 2))) pe_int (fun _ _ => rfl)))), ?_⟩
    refine ⟨_, rfl, _, rfl, ⟨_, hD⟩, fun L nL => ?_⟩
    refine lc_it walk_tup (fun i H' => H' L = some (.lst ([V.ref M].take i)) ∧ Kp [] H H') ⟨upd_same, Kp.refl.new nL⟩ (fun i H' _ ⟨_, k⟩ => k.sqT hD) ?_ ?_
    · rintro i v H0 H1 hi ⟨eD, k⟩ ⟨rfl, gx⟩
      have hi0 : i = 0 := by have : i < 1 := hi; omega
      subst hi0
      have ev : v = .ref M := (Option.some.inj gx).symm
      subst ev
      refine ⟨rfl, ?_⟩
      refine ⟨_, rfl, _, _, _, _, rfl, rfl, k.sqT hM.1, atI_nat (j := 1) rfl, _, rfl, rfl, _, rfl, ifStrT rfl ?_⟩
      refine ⟨_, rfl, _, eD, (by show 0 < sizeLine; decide), ?_, k.put nL⟩
      rw [upd_same]; rfl
    · rintro H1 ⟨eD, k⟩
      exact ⟨_, _, _, _, rfl, rfl, SqL.of eD, atI_nat (j := 0) rfl, q H1 k⟩
/-! ### reset -/
def It0.rst : It0 → Option Nat | .reg _ _ r => some r | _ => none
def resets (its : List It0) : List Nat := its.filterMap It0.rst
theorem resets_snoc {its : List It0} {i : Nat} {it : It0} (h : its[i]? = some it) : resets (its.take (i + 1)) = resets (its.take i) ++ (match it.rst with | some r => [r] | none => []) := by
  unfold resets
  rw [List.take_add_one, h, List.filterMap_append]
  cases e : it.rst <;> simp [e]
theorem resets_len (its : List It0) : (resets its).length ≤ its.length := List.length_filterMap_le _ _
def spReset (K : PySem.W.Frag) : Sp := fun vs H Q _ => ∃ (D : Addr) (nm : Str) (its : List It0), vs = [.ref D, .str nm] ∧ DsAt K H D nm its ∧ its.length ≤ 100 ∧ ∀ H' t, Kp [] H H' → SqT K H' t ((resets its).map nV) → Q (.ref t) H'
abbrev nm_law_reset : List Str := ["_law_design", "_law_name", "_law_found", "_law_item"]
theorem sc_law_reset : FnScope nm_law_reset ["_law_design", "_law_name"] (C8.fnScope (st 49)) := C8.fnScope_by (by decide +kernel)
theorem cal_law_reset (T : Top K mg) : C8.Cal P w K mg base (2) "_law_reset" (spReset K) [] := by
  refine calD T.d__law_reset sc_law_reset (fun vs H Q E h => ?_) (fun f cdv A outer s0 H vs Q E hr h => ?_)
  ·
    obtain ⟨D, nm, its, rfl, _⟩ := h; rfl
  ·
    obtain ⟨D, nm, its, rfl, ⟨M, I, hD, hM⟩, hz, q⟩ := h
    have hu := hu_of hr
    refine ⟨_, (pss_cons (ps_set (i := 2) sc_law_reset.nd rfl (Or.inl rfl) (pe_lst pa_nil))
      (pss_cons (ps_for PassesOwn.never rfl (pi_tup (pe_ix ix_tup (C8.pe_c (cal_law_module T) hr (by decide) rfl (pa_cons (pv 0) (pa_cons (pv 1) pa_nil))) pe_int (fun _ _ => rfl))) (pg_name (i := 3) sc_law_reset.nd rfl (Or.inl rfl)) (pss_one (ps_if (pt_cmpR op_eq (pe_ix ix_tup (pv 3) pe_int (fun _ _ => rfl)) pe_str (nomark _)) (pss_one (ps_expr (pe_bm PySem.F.plainAttrs_list PySem.F.slot_list_append PySem.F.type_list_append mt_append (pv 2) (pa_cons (pe_ix ix_tup (pv 3) pe_int (fun _ _ => rfl)) pa_nil)))) (pss_one (ps_if (pt_cmpR op_eq (pe_ix ix_tup (pv 3) pe_int (fun _ _ => rfl)) pe_str (nomark _)) (pss_one ps_never) (pss_one (ps_if (pt_cmpR op_eq (pe_ix ix_tup (pv 3) pe_int (fun _ _ => rfl)) pe_str (nomark _)) (pss_one ps_never) pss_nil)))))))
      (pss_one (ps_ret (pe_callTy call_tuple_of (by rfl) T.f_tuple PyProof.Rows.boot_tuple (pa_cons (pv 2) pa_nil)))))), ?_⟩
    refine ⟨(by show 0 ≤ sizeLine; decide), fun l nl => ?_⟩
    have k1 : Kp [] H (upd H l (.lst [])) := Kp.refl.new nl
    refine ⟨_, rfl, _, rfl, D, M, I, nm, its, rfl, k1.sqT hD, hM.kp k1, fun H1 k2 => ?_⟩
    have e1 := k2.at_ _ _ (upd_same (H := H) (a := l) (o := .lst [])) (fun z => nomatch z)
    have k3 := k1.trans k2
    obtain ⟨vs, hT, hP⟩ := hM.2
    refine ⟨_, _, _, _, rfl, rfl, k3.sqT hM.1, atI_nat (j := 2) rfl, _, rfl, ⟨_, k3.sqT hT⟩, ?_⟩
    refine for_it walk_tup (fun i σ H' => ∃ (x3 : Option V), σ = [some (.ref D), some (.str nm), some (.ref l), x3] ∧ Kp [] H H' ∧ H' l = some (.lst ((resets (its.take i)).map nV))) ⟨none, rfl, k3, e1⟩ (fun i σ H' _ ⟨_, _, k, _⟩ => k.sqT hT) ?_ ?_
    · rintro i v σ H2 H3 hi ⟨x3, rfl, k, eL⟩ ⟨rfl, gv⟩
      obtain ⟨it, gi, hit⟩ := Paired.getR hP gv
      have em := resets_snoc gi
      have hl := resets_len (its.take i)
      rw [List.length_take] at hl
      obtain ⟨p, xs, rfl, hp, hr⟩ := ItAt.kp k hit
      cases it with
      | reg x wd r =>
        cases hr
        refine ⟨_, rfl, _, _, _, _, rfl, rfl, hp, atI_nat (j := 0) rfl, rfl, _, rfl, ifStrT rfl ?_⟩
        refine ⟨_, rfl, .inl ⟨rfl, _, SqL.of eL⟩, _, rfl, _, _, _, _, rfl, rfl, hp, atI_nat (j := 3) rfl, _, _, _, rfl, rfl, eL, small _ (by rw [List.length_map]; omega), ?_⟩
        refine ⟨_, rfl, k.put nl, ?_⟩
        rw [upd_same, em, List.map_append]; rfl
      | inp x wd =>
        refine ⟨_, rfl, _, _, _, _, rfl, rfl, hp, atI_nat (j := 0) rfl, rfl, _, rfl, ifStrF (nm_ne (a := "input") (by decide +kernel)) ?_⟩
        refine ⟨_, rfl, _, _, _, _, rfl, rfl, hp, atI_nat (j := 0) rfl, rfl, _, rfl, ifStrF (nm_ne (a := "input") (by decide +kernel)) ?_⟩
        refine ⟨_, rfl, _, _, _, _, rfl, rfl, hp, atI_nat (j := 0) rfl, rfl, _, rfl, ifStrF (nm_ne (a := "input") (by decide +kernel)) ?_⟩
        exact ⟨some (.ref p), rfl, k, by rw [em]; simpa [It0.rst] using eL⟩
      | sig o x wd e =>
        cases o with
        | false =>
          refine ⟨_, rfl, _, _, _, _, rfl, rfl, hp, atI_nat (j := 0) rfl, rfl, _, rfl, ifStrF (nm_ne (a := "wire") (by decide +kernel)) ?_⟩
          refine ⟨_, rfl, _, _, _, _, rfl, rfl, hp, atI_nat (j := 0) rfl, rfl, _, rfl, ifStrF (nm_ne (a := "wire") (by decide +kernel)) ?_⟩
          refine ⟨_, rfl, _, _, _, _, rfl, rfl, hp, atI_nat (j := 0) rfl, rfl, _, rfl, ifStrF (nm_ne (a := "wire") (by decide +kernel)) ?_⟩
          exact ⟨some (.ref p), rfl, k, by rw [em]; simpa [It0.rst] using eL⟩
        | true =>
          refine ⟨_, rfl, _, _, _, _, rfl, rfl, hp, atI_nat (j := 0) rfl, rfl, _, rfl, ifStrF (nm_ne (a := "output") (by decide +kernel)) ?_⟩
          refine ⟨_, rfl, _, _, _, _, rfl, rfl, hp, atI_nat (j := 0) rfl, rfl, _, rfl, ifStrF (nm_ne (a := "output") (by decide +kernel)) ?_⟩
          refine ⟨_, rfl, _, _, _, _, rfl, rfl, hp, atI_nat (j := 0) rfl, rfl, _, rfl, ifStrF (nm_ne (a := "output") (by decide +kernel)) ?_⟩
          exact ⟨some (.ref p), rfl, k, by rw [em]; simpa [It0.rst] using eL⟩
      | nxt x e =>
        refine ⟨_, rfl, _, _, _, _, rfl, rfl, hp, atI_nat (j := 0) rfl, rfl, _, rfl, ifStrF (nm_ne (a := "next") (by decide +kernel)) ?_⟩
        refine ⟨_, rfl, _, _, _, _, rfl, rfl, hp, atI_nat (j := 0) rfl, rfl, _, rfl, ifStrF (nm_ne (a := "next") (by decide +kernel)) ?_⟩
        refine ⟨_, rfl, _, _, _, _, rfl, rfl, hp, atI_nat (j := 0) rfl, rfl, _, rfl, ifStrF (nm_ne (a := "next") (by decide +kernel)) ?_⟩
        exact ⟨some (.ref p), rfl, k, by rw [em]; simpa [It0.rst] using eL⟩
    · rintro σ H1 ⟨x3, rfl, k, eL⟩
      have hlen : its.take vs.length = its := by rw [← Paired.len hP, List.take_length]
      rw [hlen] at eL
      exact ⟨_, rfl, _, _, rfl, .inl ⟨SqL.of eL, fun p np => q _ p (k.new np) (SqT.of upd_same)⟩⟩
end
end K14
/-! zip of a tuple and a list -/
namespace K14
open PySem PySem.Spec PyProof.Rows L2
def ItzM (K : PySem.W.Frag) (a b : Addr) : It :=
  ⟨fun i H => ∃ (xs ys : List V) (x y : V), SqT K H a xs ∧ SqL K H b ys ∧ xs[i]? = some x ∧ ys[i]? = some y,
    fun i H v H' => ∃ T x y, v = .ref T ∧ H T = none ∧ H' = upd H T (.tup [x, y]) ∧ (∀ xs, SqT K H a xs → xs[i]? = some x) ∧ ∀ ys, SqL K H b ys → ys[i]? = some y,
    fun i H => ∃ xs ys : List V, SqT K H a xs ∧ SqL K H b ys ∧ xs.length = i ∧ ys.length = i⟩
theorem turn_zipM {P : Program} {w : World} {K : PySem.W.Frag} {elts : List Expr} {kk : Nat} {tpos : Pos} {a b z TI TO i1 i2 : Addr} (D : ZipSep2 z TI TO i1 i2 [i1, a] [i2, b]) (ha : a ≠ i1) (hb : b ≠ i2) :
    Turn P w K (.Tuple elts kk tpos) (ItzM K a b) [z, TI, TO, i1, i2] z (fun i h => IsZip h z TI TO .none ∧ IsTupOf2 h TI (.ref i1) (.ref i2) ∧ (∃ x y, IsTupOf2 h TO x y) ∧ h.IsTupleIter i1 a i ∧ h.IsListIter i2 b i) where
  mem := by simp
  obj := fun i h st c hc => by
    obtain ⟨hz, hTI, ⟨x, y, hTO⟩, ⟨o1, e1, _, d1⟩, ⟨o2, e2, _, d2⟩⟩ := st
    have e' : c = z ∨ c = TI ∨ c = TO ∨ c = i1 ∨ c = i2 := by simpa using hc
    rcases e' with q | q | q | q | q
    · rw [q]; exact ⟨_, hz, fun v q => nomatch q⟩
    · rw [q]; exact ⟨_, hTI, fun v q => nomatch q⟩
    · rw [q]; exact ⟨_, hTO, fun v q => nomatch q⟩
    · rw [q]; exact ⟨o1, e1, fun v q => by rw [d1] at q; cases q⟩
    · rw [q]; exact ⟨o2, e2, fun v q => by rw [d2] at q; cases q⟩
  keep := fun i h h' st k => by
    obtain ⟨hz, hTI, ⟨x, y, hTO⟩, h1, h2⟩ := st
    exact ⟨k z (by simp) _ hz, k TI (by simp) _ hTI, ⟨x, y, k TO (by simp) _ hTO⟩, h1.at fun o q => k i1 (by simp) o q, h2.at fun o q => k i2 (by simp) o q⟩
  item := by
    intro X hP hw hK hc i pins s σ H E I hf st hg
    subst hP hw hK
    obtain ⟨hz, hTI, ⟨x0, y0, hTO⟩, h1, h2⟩ := st
    obtain ⟨xs, ys, x, y, hqx, hqy, hx, hy⟩ := hg
    obtain ⟨its, rv, p, _⟩ := I.tuple hqx
    obtain ⟨its2, rv2, p2, _⟩ := I.list hqy
    obtain ⟨u, hu, ru⟩ := rv.get hx
    obtain ⟨u2, hu2, ru2⟩ := rv2.get hy
    have hzl : z < s.heap.objs.size := Heap.lt_size hz
    have hh : X.A.in1.handled = none := I.ok.hd hc
    have hl1 : i < its.toArray.size := by have := (List.getElem?_eq_some_iff.mp hu).1; simpa using this
    have hl2 : i < its2.toArray.size := by have := (List.getElem?_eq_some_iff.mp hu2).1; simpa using this
    refine wpAny_pyNext_zipD2_item D (Draws.tuple hh i1 a ha its.toArray) (Draws.list hh i2 b hb its2.toArray) hz hTI hTO ⟨h1, p⟩ ⟨h2, p2.isList⟩ hl1 hl2 fun x1 x2 h' tk g1 g2 z' TO' st1 st2 hT hsz hk => ?_
    have e1 : x1 = u := by
      have q : its.toArray[i]? = some x1 := g1
      rw [show its.toArray[i]? = its[i]? by simp, hu] at q
      exact (Option.some.inj q).symm
    have e2 : x2 = u2 := by
      have q : its2.toArray[i]? = some x2 := g2
      rw [show its2.toArray[i]? = its2[i]? by simp, hu2] at q
      exact (Option.some.inj q).symm
    subst e1 e2
    refine ⟨_, rfl, wpAny_letOwnedTupleGo_zip (s := { s with heap := h', toks := tk }) z' fun h'' z'' sb => ?_⟩
    have hT2 : h''.get? s.heap.objs.size = some { cls := .type "tuple", data := .seq #[x1, x2] } := (sb.2 _ (Nat.ne_of_gt hzl)).trans hT
    have new : ObjOk X.prog X.w (upd H s.heap.objs.size (.tup [x, y])) h'' s.heap.objs.size (.tup [x, y]) :=
      ⟨by show 2 ≤ sizeLine; decide, [x1, x2], .cons ru (.cons ru2 .nil), ⟨_, hT2, rfl, _, rfl⟩⟩
    have I1 : Inv X pins σ (upd H s.heap.objs.size (.tup [x, y])) { s with heap := h'', toks := tk } :=
      I.turnedNew (ch := [z, TI, TO, i1, i2]) (fun c o hb q => (sb.2 c (fun q' => hb (by simp [q']))).trans (hk c o (fun q' => hb (by simp [q'])) (fun q' => hb (by simp [q'])) (fun q' => hb (by simp [q'])) (fun q' => hb (by simp [q'])) q)) hf (Nat.le_refl _) new
    have neTI1 := D.TIi1
    refine ⟨.ref s.heap.objs.size, _, I1, rfl, ⟨_, x, y, rfl, I.hok.fresh (Nat.le_refl _), rfl, fun l hl => by rw [I.tuple_inj hl hqx]; exact hx, fun l hl => by rw [I.list_inj hl hqy]; exact hy⟩, ⟨z'', ?_, ⟨x1, x2, ?_⟩, ?_, ?_⟩, fun c hcm => ?_⟩
    · exact (sb.2 _ D.TIz).trans (hk _ _ D.TIz D.TITO D.TIi1 D.TIi2 hTI)
    · exact (sb.2 _ D.TOz).trans TO'
    · exact st1.1.at fun o q => (sb.2 _ (fun e => D.zf1 (by rw [← e]; simp))).trans q
    · exact st2.1.at fun o q => (sb.2 _ (fun e => D.zf2 (by rw [← e]; simp))).trans q
    · have hlt : c < s.heap.objs.size := by
        have e' : c = z ∨ c = TI ∨ c = TO ∨ c = i1 ∨ c = i2 := by simpa using hcm
        rcases e' with q | q | q | q | q
        · rw [q]; exact hzl
        · rw [q]; exact Heap.lt_size hTI
        · rw [q]; exact Heap.lt_size hTO
        · rw [q]; obtain ⟨_, e1, _⟩ := h1; exact Heap.lt_size e1
        · rw [q]; obtain ⟨_, e2, _⟩ := h2; exact Heap.lt_size e2
      rw [upd_ne (Nat.ne_of_lt hlt)]
      exact (hf c hcm).1
  done := by
    intro X hP hw hK hc i pins s σ H E I hf st hg
    subst hP hw hK
    obtain ⟨hz, hTI, ⟨x0, y0, hTO⟩, h1, h2⟩ := st
    obtain ⟨xs, ys, hqx, hqy, hend1, hend2⟩ := hg
    obtain ⟨its, rv, p, _⟩ := I.tuple hqx
    obtain ⟨its2, rv2, p2, _⟩ := I.list hqy
    have l1 := rv.length
    have l2 := rv2.length
    have hh : X.A.in1.handled = none := I.ok.hd hc
    have z1 : its.toArray.size = i := by simp; omega
    have z2 : its2.toArray.size = i := by simp; omega
    exact wpAny_pyNext_zipD2_end D (Draws.tuple hh i1 a ha its.toArray) (Draws.list hh i2 b hb its2.toArray) hz hTI hTO ⟨h1, p⟩ ⟨h2, p2.isList⟩ (Nat.le_of_eq z1.symm) (Nat.le_of_eq z2.symm) (.inl z1.symm) fun h' tk hk => ⟨rfl, I.turnedL (t' := tk) (ch := [z, TI, TO, i1, i2]) (fun c o hb q =>
      hk c o (fun q' => hb (by simp [q'])) (fun q' => hb (by simp [q'])) (fun q' => hb (by simp [q'])) (fun q' => hb (by simp [q'])) q) hf⟩
  self := fun A i s Q E st h => wpAny_pyIter_zip st.1 h
def iZipM (K : PySem.W.Frag) (ta : TA) : TI := fun σ H R => ta σ H fun vs H1 => ∃ a b xs ys, vs = [.ref a, .ref b] ∧ SqT K H1 a xs ∧ SqL K H1 b ys ∧ R (ItzM K a b) H1
theorem pi_zipM {X : Cx} {e e2 : Expr} {ta : TA} {p pos tpos : Pos} {elts : List Expr} {kk : Nat} (hg : Gl X "zip") (hm : X.mg "zip" = none) (ha : PA X [e, e2] ta)
    (hs : starEach [e, e2] X.env = (false, eval e X.env) :: starEach [e2] X.env := by rfl) (hpl : (backTo pos (starEach [e2] X.env)).any (·.1) = false := by rfl) :
    PI X (.Tuple elts kk tpos) (.Call (.Name "zip" p) [e, e2] [] pos) (iZipM X.K ta) := by
  refine ⟨fun pins s σ H R I h => ?_⟩
  refine Call_ (ld_blt I hg hm PyProof.Rows.boot_zip (PyProof.Rows.callWith_type1 (thn (ha.run pos pins s σ H _ I h) fun us s1 ⟨vs, H1, I1, r1, q1⟩ => ?_) hs hpl))
  obtain ⟨a, b, xs, ys, ex, hqx, hqy, q⟩ := q1
  subst ex
  cases r1 with
  | cons r rr =>
    cases rr with
    | cons r' rr =>
      cases rr
      cases r
      cases r'
      have fresh5 : ∀ c, c ∈ [s1.heap.objs.size + 4, s1.heap.objs.size + 2, s1.heap.objs.size + 3, s1.heap.objs.size, s1.heap.objs.size + 1] → FpOk X pins H1 c := fun c hcm => by
        have e' : c = s1.heap.objs.size + 4 ∨ c = s1.heap.objs.size + 2 ∨ c = s1.heap.objs.size + 3 ∨ c = s1.heap.objs.size ∨ c = s1.heap.objs.size + 1 := by simpa using hcm
        have hle : s1.heap.objs.size ≤ c := by
          rcases e' with z | z | z | z | z
          · rw [z]; exact Nat.le_add_right _ _
          · rw [z]; exact Nat.le_add_right _ _
          · rw [z]; exact Nat.le_add_right _ _
          · rw [z]; exact Nat.le_refl _
          · rw [z]; exact Nat.le_add_right _ _
        exact I1.fpOk hle (I1.hok.fresh hle)
      obtain ⟨its, rv, p1, _⟩ := I1.tuple hqx
      obtain ⟨its2, rv2, p2, _⟩ := I1.list hqy
      obtain ⟨o1, ho1, _⟩ := id p1
      have la := Heap.lt_size ho1
      have lb := p2.lt
      refine zip_begins2 (begins_tuple a its.toArray) (begins_list b its2.toArray) p1 p2.isList fun h' hz hTI hTO h1 h2 hsz hk => wpAny_pyIter_zip hz ?_
      have I2 : Inv X pins σ H1 { s1 with heap := h' } := I1.kept (t' := s1.toks) hk
      have D : ZipSep2 (s1.heap.objs.size + 4) (s1.heap.objs.size + 2) (s1.heap.objs.size + 3) s1.heap.objs.size (s1.heap.objs.size + 1) [s1.heap.objs.size, a] [s1.heap.objs.size + 1, b] :=
        zip_sep2 (fun c hc => by rw [List.mem_singleton.mp hc]; exact la) (fun c hc => by rw [List.mem_singleton.mp hc]; exact lb)
      exact ⟨s1.heap.objs.size + 4, [s1.heap.objs.size + 4, s1.heap.objs.size + 2, s1.heap.objs.size + 3, s1.heap.objs.size, s1.heap.objs.size + 1], _, _, H1, rfl, I2, turn_zipM D (Nat.ne_of_lt la) (Nat.ne_of_lt (Nat.lt_succ_of_lt lb)),
        ⟨hz, hTI, ⟨_, _, hTO⟩, ⟨_, h1, rfl, rfl⟩, ⟨_, h2, rfl, rfl⟩⟩, fresh5, q⟩
theorem walk_zipM {K : PySem.W.Frag} {a b : Addr} {xs ys : List V} (hl : xs.length = ys.length) : Walk (ItzM K a b) xs.length (fun H => SqT K H a xs ∧ SqL K H b ys) (YPair (fun i => xs[i]?) (fun i => ys[i]?)) := by
  refine ⟨fun i H hi h => ⟨xs, ys, xs[i], ys[i], h.1, h.2, List.getElem?_eq_getElem hi, List.getElem?_eq_getElem (by omega)⟩, fun H h => ⟨xs, ys, h.1, h.2, rfl, hl.symm⟩, fun i H x H' hi h y => ?_⟩
  obtain ⟨T, z, z', rfl, hT, rfl, f, f'⟩ := y
  exact ⟨T, z, z', rfl, hT, rfl, f xs h.1, f' ys h.2⟩
end K14
/-! rows of inputs, parts of a design, bits of words -/
namespace K14
open PySem PySem.Spec PyProof.Rows L2
def wI (its : List It0) : List Nat := (sel "input" its).map (·.2)
def wR (its : List It0) : List Nat := (sel "reg" its).map (·.2)
theorem wI_snoc {its : List It0} {i : Nat} {it : It0} (h : its[i]? = some it) : wI (its.take (i + 1)) = if it.kd = "input" then wI (its.take i) ++ [it.wd] else wI (its.take i) := by
  unfold wI; rw [sel_snoc _ h]; split <;> simp
theorem wR_snoc {its : List It0} {i : Nat} {it : It0} (h : its[i]? = some it) : wR (its.take (i + 1)) = if it.kd = "reg" then wR (its.take i) ++ [it.wd] else wR (its.take i) := by
  unfold wR; rw [sel_snoc _ h]; split <;> simp
theorem wI_len (its : List It0) : (wI its).length ≤ its.length := by unfold wI; rw [List.length_map]; exact sel_len _ _
theorem wR_len (its : List It0) : (wR its).length ≤ its.length := by unfold wR; rw [List.length_map]; exact sel_len _ _
def rowsOf (ws : List Nat) : List (List Nat) := ws.foldl (fun rs w => longer rs (2 ^ w)) [[]]
theorem rowsOf_snoc (ws : List Nat) (w : Nat) : rowsOf (ws ++ [w]) = longer (rowsOf ws) (2 ^ w) := by unfold rowsOf; rw [List.foldl_append]; rfl
theorem list_snoc {α : Type} (P : List α → Prop) (h0 : P []) (h1 : ∀ l a, P l → P (l ++ [a])) (l : List α) : P l := by
  have : ∀ r : List α, P r.reverse := fun r => by
    induction r with
    | nil => exact h0
    | cons a r ih => rw [List.reverse_cons]; exact h1 _ _ ih
  have h := this l.reverse
  rwa [List.reverse_reverse] at h
theorem rowsOf_len (ws : List Nat) : (rowsOf ws).length = 2 ^ ws.sum := by
  induction ws using list_snoc with
  | h0 => rfl
  | h1 l a ih => rw [rowsOf_snoc, longer_len, ih, List.sum_append, Nat.pow_add]; simp
/-- a row fits its widths -/
def Fits : List Nat → List Nat → Prop := Paired fun x w => x < 2 ^ w
theorem rowsOf_fits (ws : List Nat) : ∀ r ∈ rowsOf ws, Fits r ws := by
  induction ws using list_snoc with
  | h0 => intro r m; rw [List.mem_singleton.mp m]; exact .nil
  | h1 l a ih =>
    intro r m
    rw [rowsOf_snoc] at m
    obtain ⟨r0, m0, m1⟩ := List.mem_flatMap.mp m
    obtain ⟨k, mk, rfl⟩ := List.mem_map.mp m1
    exact Paired.app (ih r0 m0) (.cons (List.mem_range.mp mk) .nil)
theorem sum_take_le : ∀ (l : List Nat) (i : Nat), (l.take i).sum ≤ l.sum
  | [], i => by simp
  | a :: l, 0 => by simp
  | a :: l, i + 1 => by
    have := sum_take_le l i
    simp only [List.take_succ_cons, List.sum_cons]; omega
section
variable {P : Program} {w : World} {K : PySem.W.Frag} {mg : Str → Option Value} {base : Heap}
theorem wI_sum_take (its : List It0) (i : Nat) : (wI (its.take i)).sum ≤ (wI its).sum := by
  have e : wI its = wI (its.take i) ++ wI (its.drop i) := by
    unfold wI sel
    rw [← List.map_append, ← List.filterMap_append, List.take_append_drop]
  rw [e, List.sum_append]; omega
def spInRows (K : PySem.W.Frag) : Sp := fun vs H Q _ => ∃ (D : Addr) (nm : Str) (its : List It0), vs = [.ref D] ∧ DsAt K H D nm its ∧ its.length ≤ 100 ∧ (wI its).sum ≤ 9 ∧ ∀ H' p, Kp [] H H' → RowsAt K H' p (rowsOf (wI its)) → Q (.ref p) H'
abbrev nm_law_input_rows : List Str := ["_law_design", "_law_rows", "_law_item"]
theorem sc_law_input_rows : FnScope nm_law_input_rows ["_law_design"] (C8.fnScope (st 52)) := C8.fnScope_by (by decide +kernel)
theorem cal_law_input_rows (T : Top K mg) : C8.Cal P w K mg base (2) "_law_input_rows" (spInRows K) [] := by
  refine calD T.d__law_input_rows sc_law_input_rows (fun vs H Q E h => ?_) (fun f cdv A outer s0 H vs Q E hr h => ?_)
  ·
    obtain ⟨D, nm, its, rfl, _⟩ := h; rfl
  ·
    obtain ⟨D, nm, its, rfl, ⟨M, I, hD, hM⟩, hz, hs, q⟩ := h
    have hu := hu_of hr
    refine ⟨_, (pss_cons (ps_set (i := 1) sc_law_input_rows.nd rfl (Or.inl rfl) (pe_lst (pa_cons (pe_tup pa_nil) pa_nil)))
      (pss_cons (ps_for PassesOwn.never rfl (pi_tup (pe_ix ix_tup (pe_ix ix_tup (pv 0) (pe_un un_neg pe_int) (fun _ _ => rfl)) pe_int (fun _ _ => rfl))) (pg_name (i := 2) sc_law_input_rows.nd rfl (Or.inl rfl)) (pss_one (ps_if (pt_cmpR op_eq (pe_ix ix_tup (pv 2) pe_int (fun _ _ => rfl)) pe_str (nomark _)) (pss_one (ps_set (i := 1) sc_law_input_rows.nd rfl (Or.inl rfl) (C8.pe_c (cal_law_longer T) hr (by decide) rfl (pa_cons (pv 1) (pa_cons (pe_op op_shl pe_int (pe_ix ix_tup (pv 2) pe_int (fun _ _ => rfl))) pa_nil))))) pss_nil)))
      (pss_one (ps_ret (pv 1))))), ?_⟩
    refine ⟨(by show 0 ≤ sizeLine; decide), fun t nt => ⟨(by show 1 ≤ sizeLine; decide), fun l nl => ?_⟩⟩
    have k1 : Kp [] H (upd (upd H t (.tup [])) l (.lst [.ref t])) := (Kp.refl.new nt).new nl
    have rw0 : RowsAt K (upd (upd H t (.tup [])) l (.lst [.ref t])) l [[]] := ⟨⟨[t], upd_same, .cons (SqT.of ((upd_ne (ne_of_none upd_same nl)).trans upd_same)) .nil⟩⟩
    obtain ⟨vs, hT, hP⟩ := hM.2
    refine ⟨_, rfl, _, rfl, _, _, _, _, rfl, rfl, k1.sqT hD, atI_last [] _, _, _, _, _, rfl, rfl, k1.sqT hM.1, atI_nat (j := 2) rfl, _, rfl, ⟨_, k1.sqT hT⟩, ?_⟩
    refine for_it walk_tup (fun i σ H' => ∃ (x2 : Option V) (pr : Addr), σ = [some (.ref D), some (.ref pr), x2] ∧ Kp [] H H' ∧ RowsAt K H' pr (rowsOf (wI (its.take i)))) ⟨none, l, rfl, k1, rw0⟩ (fun i σ H' _ ⟨_, _, _, k, _⟩ => k.sqT hT) ?_ ?_
    · rintro i v σ H2 H3 hi ⟨x2, pr, rfl, k, hR⟩ ⟨rfl, gv⟩
      obtain ⟨it, gi, hit⟩ := Paired.getR hP gv
      have em := wI_snoc gi
      have hit3 := ItAt.kp k hit
      by_cases hk : it.kd = "input"
      · rw [if_pos hk] at em
        obtain ⟨p, xs, rfl, hp⟩ := hit3.leafAt (.inl hk)
        have hs2 := wI_sum_take its (i + 1)
        rw [em, List.sum_append, List.sum_singleton] at hs2
        have hw16 : it.wd ≤ 9 := by omega
        have hp2 : 2 ^ it.wd ≤ 2 ^ 9 := Nat.pow_le_pow_right (by decide) hw16
        refine ⟨_, rfl, _, _, _, _, rfl, rfl, hp, atI_nat (j := 0) rfl, rfl, _, rfl, ifStrT hk ?_⟩
        refine ⟨_, rfl, _, rfl, _, _, _, _, rfl, rfl, hp, atI_nat (j := 2) rfl, _, _, rfl, rfl, cpow1 (by omega), ?_⟩
        refine ⟨pr, _, 2 ^ it.wd, by dsimp only; rw [shl1]; rfl, hR, by omega, ?_, ?_, fun H5 p5 k5 hR5 => ?_⟩
        · rw [rowsOf_len]
          exact Nat.le_trans (Nat.pow_le_pow_right (by decide) (show (wI (its.take i)).sum ≤ 9 by omega)) (by decide)
        · intro r hr
          have hf := rowsOf_fits _ r hr
          have := Paired.len hf
          have := wI_len (its.take i)
          rw [List.length_take] at this
          omega
        · exact ⟨_, p5, rfl, k.trans k5, by rw [em, rowsOf_snoc]; exact hR5⟩
      · rw [if_neg hk] at em
        obtain ⟨p, xs, rfl, hp, _⟩ := hit3
        refine ⟨_, rfl, _, _, _, _, rfl, rfl, hp, atI_nat (j := 0) rfl, rfl, _, rfl, ifStrF hk ?_⟩
        exact ⟨some (.ref p), pr, rfl, k, by rw [em]; exact hR⟩
    · rintro σ H1 ⟨x2, pr, rfl, k, hR⟩
      have hlen : its.take vs.length = its := by rw [← Paired.len hP, List.take_length]
      rw [hlen] at hR
      exact ⟨_, rfl, q H1 pr k hR⟩
/-! ### bits of words -/
def bitsOf : List Nat → List Nat → Bits
  | x :: xs, w :: ws => (List.range w).map (fun k => x / 2 ^ k % 2 == 1) ++ bitsOf xs ws
  | _, _ => []
theorem bitsOf_snoc : ∀ {xs ws : List Nat} (x w : Nat), xs.length = ws.length → bitsOf (xs ++ [x]) (ws ++ [w]) = bitsOf xs ws ++ (List.range w).map (fun k => x / 2 ^ k % 2 == 1)
  | [], [], x, w, _ => by simp [bitsOf]
  | a :: xs, b :: ws, x, w, h => by
    show (List.range b).map _ ++ bitsOf (xs ++ [x]) (ws ++ [w]) = (List.range b).map _ ++ bitsOf xs ws ++ _
    rw [bitsOf_snoc x w (by simpa using h), List.append_assoc]
  | [], _ :: _, _, _, h => by simp at h
  | _ :: _, [], _, _, h => by simp at h
theorem bitsOf_len : ∀ {xs ws : List Nat}, xs.length = ws.length → (bitsOf xs ws).length = ws.sum
  | [], [], _ => rfl
  | a :: xs, b :: ws, h => by
    show ((List.range b).map _ ++ bitsOf xs ws).length = _
    rw [List.length_append, bitsOf_len (by simpa using h), List.length_map, List.length_range]; rfl
  | [], _ :: _, h => by simp at h
  | _ :: _, [], h => by simp at h
theorem bit_val (x k : Nat) : ((x : Int) / 2 ^ ((k : Int)).toNat) % 2 = (((x / 2 ^ k % 2 == 1).toNat : Nat) : Int) := by
  rw [← bit_eq, Int.toNat_natCast, Int.natCast_emod, Int.natCast_ediv, Int.natCast_pow]; rfl
def spBitsOf (K : PySem.W.Frag) : Sp := fun vs H Q _ => ∃ (p d : Addr) (xs ws : List Nat), vs = [.ref p, .ref d] ∧ SqT K H p (xs.map nV) ∧ H d = some (.lst (ws.map nV)) ∧ xs.length = ws.length ∧ ws.length ≤ 100 ∧ (∀ x ∈ ws, x ≤ 100) ∧ ∀ H' t, Kp [] H H' → SqT K H' t ((bitsOf xs ws).map bval) → Q (.ref t) H'
theorem sum_le_mul {l : List Nat} {n : Nat} (h : ∀ x ∈ l, x ≤ n) : l.sum ≤ n * l.length := by
  induction l with
  | nil => simp
  | cons a l ih =>
    have h1 := h a (by simp)
    have h2 := ih fun x m => h x (by simp [m])
    rw [List.sum_cons, List.length_cons, Nat.mul_add]; omega
abbrev nm_law_bits_of : List Str := ["_law_words", "_law_widths", "_law_found", "_law_word_here", "_law_width", "_law_k"]
theorem sc_law_bits_of : FnScope nm_law_bits_of ["_law_words", "_law_widths"] (C8.fnScope (st 56)) := C8.fnScope_by (by decide +kernel)
theorem cal_law_bits_of (T : Top K mg) : C8.Cal P w K mg base (1) "_law_bits_of" (spBitsOf K) [] := by
  refine calD T.d__law_bits_of sc_law_bits_of (fun vs H Q E h => ?_) (fun f cdv A outer s0 H vs Q E hr h => ?_)
  ·
    obtain ⟨p, d, xs, ws, rfl, _⟩ := h; rfl
  ·
    obtain ⟨p, d, xs, ws, rfl, hT, hL, hl, hz, hw, q⟩ := h
    have hu := hu_of hr
    refine ⟨_, (pss_cons (ps_set (i := 2) sc_law_bits_of.nd rfl (Or.inl rfl) (pe_lst pa_nil))
      (pss_cons (ps_for PassesOwn.never rfl (pi_zipM (by rfl) T.f_zip (pa_cons (pv 0) (pa_cons (pv 1) pa_nil))) (pg_tup rfl (pgs_cons (pg_name (i := 3) sc_law_bits_of.nd rfl (Or.inr rfl)) (pgs_cons (pg_name (i := 4) sc_law_bits_of.nd rfl (Or.inl rfl)) pgs_nil))) (pss_one (ps_set (i := 2) sc_law_bits_of.nd rfl (Or.inl rfl) (pe_op op_cat (pv 2) (pe_lc (own := [("_law_k", 5)]) (g := (gName 5)) (tt := tYes)  rfl sc_law_bits_of.nd (pi_range1 (by rfl) T.f_range (pa_cons (pv 4) pa_nil)) (blkOk_by (own := [("_law_k", 5)]) (N := nm_law_bits_of) (sc := C8.fnScope (st 56)) (by decide +kernel)) (fun _ _ _ _ _ => (pg_name (i := 5) sc_law_bits_of.nd rfl (Or.inl rfl))) (fun _ _ _ _ _ => pts_nil) (fun _ _ _ _ _ => (pe_op op_mod (pe_callTy call_int1 (by rfl) T.f_int PyProof.Rows.boot_int (pa_cons (pe_op op_shr (pv 3) (pv 5)) pa_nil)) pe_int)))))))
      (pss_one (ps_ret (pe_callTy call_tuple_of (by rfl) T.f_tuple PyProof.Rows.boot_tuple (pa_cons (pv 2) pa_nil)))))), ?_⟩
    refine ⟨(by show 0 ≤ sizeLine; decide), fun l nl => ?_⟩
    have k1 : Kp [] H (upd H l (.lst [])) := Kp.refl.new nl
    refine ⟨_, rfl, _, rfl, _, _, _, _, rfl, k1.sqT hT, k1.sqL0 (SqL.of hL), ?_⟩
    refine for_it (walk_zipM (by rw [List.length_map, List.length_map, hl])) (fun i σ H' => ∃ (x3 x4 x5 : Option V) (pf : Addr), σ = [some (.ref p), some (.ref d), some (.ref pf), x3, x4, x5] ∧ Kp [] H H' ∧ H' pf = some (.lst ((bitsOf (xs.take i) (ws.take i)).map bval)))
      ⟨none, none, none, l, rfl, k1, upd_same⟩ (fun i σ H' _ ⟨_, _, _, _, _, k, _⟩ => ⟨k.sqT hT, k.sqL0 (SqL.of hL)⟩) ?_ ?_
    · rintro i v σ H1 H2 hi ⟨x3, x4, x5, pf, rfl, k, ef⟩ ⟨T0, x, y, rfl, nT, rfl, gx, gy⟩
      rw [List.length_map] at hi
      obtain ⟨a, ga, rfl⟩ := get_map gx
      obtain ⟨b, gb, rfl⟩ := get_map gy
      have hb := hw b (List.mem_of_getElem? gb)
      refine ⟨T0, _, rfl, SqT.of upd_same, rfl, _, _, rfl, _, _, rfl, rfl, ?_⟩
      have kT := k.new (o := .tup [nV a, nV b]) nT
      have ef1 := (upd_ne (o := .tup [nV a, nV b]) (ne_of_none ef nT)).trans ef
      refine ⟨_, rfl, _, rfl, _, rfl, by omega, by omega, fun D nD => ?_⟩
      refine lc_range (lo := 0) (n := b) (fun j H' => H' D = some (.lst (((List.range j).map fun k => a / 2 ^ k % 2 == 1).map bval)) ∧ Kp [] (upd H1 T0 (.tup [nV a, nV b])) H') ⟨upd_same, Kp.refl.new nD⟩ (fun j H' hj ⟨eD, kj⟩ => ?_) (fun H' ⟨eD, kj⟩ => ?_)
      · refine ⟨rfl, ?_⟩
        refine ⟨_, rfl, _, rfl, _, _, rfl, rfl, by omega, .inl ⟨_, rfl, _, _, rfl, rfl, (by decide : (0 : Int) < 2), _, eD, small _ (by simp; omega), ?_, kj.put nD⟩⟩
        rw [upd_same, List.range_succ, List.map_append, List.map_append]
        dsimp only
        rw [show (0 : Int) + (j : Int) = ((j : Nat) : Int) from Int.zero_add _, bit_val]; rfl
      · have ef2 := kj.at_ _ _ ef1 (fun z => nomatch z)
        have ltk : (bitsOf (xs.take i) (ws.take i)).length ≤ 10000 := by
          rw [bitsOf_len (by rw [List.length_take, List.length_take]; omega)]
          have h1 := sum_take_le ws i
          have h2 := sum_le_mul hw
          omega
        refine ⟨_, _, _, _, rfl, rfl, ef2, eD, Nat.le_of_lt (small _ (by simp; omega)), fun p2 np2 => ?_⟩
        refine ⟨_, _, _, p2, rfl, (kT.trans kj).new np2, ?_⟩
        rw [upd_same, List.take_add_one, List.take_add_one, ga, gb]
        show _ = some (HO.lst ((bitsOf (xs.take i ++ [a]) (ws.take i ++ [b])).map bval))
        rw [bitsOf_snoc _ _ (by rw [List.length_take, List.length_take]; omega), List.map_append]
    · rintro σ H1 ⟨x3, x4, x5, pf, rfl, k, ef⟩
      rw [List.length_map, List.take_length, hl, List.take_length] at ef
      exact ⟨_, rfl, _, _, rfl, .inl ⟨SqL.of ef, fun t nt => q _ t (k.new nt) (SqT.of upd_same)⟩⟩
end
end K14
/-! parts of a design; the machine's own numbers -/
namespace K14
open PySem PySem.Spec PyProof.Rows L2
/-- the named words, in order -/
def namedL (its : List It0) : List (Str × Nat) := its.filterMap fun it => if it.named = true then some (it.nm, it.wd) else none
def namedK (its : List It0) : List (Key × V) := (namedL its).map fun x => (Sum.inr x.1, nV x.2)
theorem namedL_snoc {its : List It0} {i : Nat} {it : It0} (h : its[i]? = some it) : namedL (its.take (i + 1)) = if it.named = true then namedL (its.take i) ++ [(it.nm, it.wd)] else namedL (its.take i) := by
  unfold namedL
  rw [List.take_add_one, h, List.filterMap_append]
  by_cases e : it.named = true
  · simp [e]
  · simp [e]
theorem namedL_len (its : List It0) : (namedL its).length ≤ its.length := List.length_filterMap_le _ _
theorem mergeK_nodup : ∀ (more acc : List (Key × V)), ((acc ++ more).map (·.1)).Nodup → mergeK acc more = acc ++ more
  | [], acc, _ => by rw [List.append_nil]; rfl
  | kv :: r, acc, h => by
    have hn : valV acc kv.1 = none := by
      cases e : valV acc kv.1 with
      | none => rfl
      | some v =>
        exfalso
        unfold valV at e
        obtain ⟨p, hp, _⟩ := Option.map_eq_some_iff.mp e
        have hm := List.mem_of_find?_eq_some hp
        have hk : p.1 = kv.1 := by simpa using List.find?_some hp
        rw [List.map_append, List.nodup_append] at h
        exact h.2.2 p.1 (List.mem_map_of_mem hm) kv.1 (by simp) hk
    show mergeK (putK acc kv.1 kv.2) r = _
    rw [putK_new _ hn, mergeK_nodup r _ (by rw [List.append_assoc]; exact h), List.append_assoc]; rfl
/-- the names are all different -/
def NamesOk (its : List It0) : Prop := ((namedL its).map (·.1)).Nodup
theorem namedK_nodup {its : List It0} (h : NamesOk its) : ((namedK its).map (·.1)).Nodup := by
  unfold namedK
  rw [List.map_map]
  have e : ((fun x : Key × V => x.1) ∘ fun x : Str × Nat => ((Sum.inr x.1 : Key), nV x.2)) = (fun s : Str => (Sum.inr s : Key)) ∘ fun x : Str × Nat => x.1 := rfl
  rw [e, ← List.map_map]
  exact List.Pairwise.map _ (fun _ _ hne z => hne (Sum.inr.inj z)) h
section
variable {P : Program} {w : World} {K : PySem.W.Frag} {mg : Str → Option Value} {base : Heap}
theorem Paired.takeP {α β : Type} {F : α → β → Prop} : ∀ {l₁ : List α} {l₂ : List β}, Paired F l₁ l₂ → ∀ i, Paired F (l₁.take i) (l₂.take i)
  | _, _, .nil, i => by rw [List.take_nil, List.take_nil]; exact .nil
  | _, _, .cons h t, 0 => .nil
  | _, _, .cons h t, i + 1 => .cons h (Paired.takeP t i)
def namedV : List It0 → List V → List V
  | it :: its, v :: vs => if it.named = true then v :: namedV its vs else namedV its vs
  | _, _ => []
theorem namedV_snoc {H : Hp} : ∀ {its : List It0} {vs : List V}, Paired (fun it x => ItAt K H it x) its vs → ∀ {i : Nat} {it : It0} {v : V}, its[i]? = some it → vs[i]? = some v →
    namedV (its.take (i + 1)) (vs.take (i + 1)) = if it.named = true then namedV (its.take i) (vs.take i) ++ [v] else namedV (its.take i) (vs.take i)
  | _, _, .nil, i, it, v, h, _ => by simp at h
  | a :: its, b :: vs, .cons _ t, 0, it, v, h, h' => by
    cases (Option.some.inj h); cases (Option.some.inj h')
    rfl
  | a :: its, b :: vs, .cons _ t, i + 1, it, v, h, h' => by
    have ih := namedV_snoc t (i := i) h h'
    show (if a.named = true then b :: namedV (its.take (i + 1)) (vs.take (i + 1)) else namedV (its.take (i + 1)) (vs.take (i + 1))) = _
    rw [ih]
    show _ = if it.named = true then (if a.named = true then b :: namedV (its.take i) (vs.take i) else namedV (its.take i) (vs.take i)) ++ [v] else (if a.named = true then b :: namedV (its.take i) (vs.take i) else namedV (its.take i) (vs.take i))
    by_cases h1 : a.named = true
    · by_cases h2 : it.named = true
      · simp [h1, h2]
      · simp [h1, h2]
    · by_cases h2 : it.named = true
      · simp [h1, h2]
      · simp [h1, h2]
theorem namedV_at {H : Hp} : ∀ {its : List It0} {vs : List V}, Paired (fun it x => ItAt K H it x) its vs → Paired (fun it x => ItAt K H it x) (its.filter It0.named) (namedV its vs)
  | _, _, .nil => .nil
  | a :: its, b :: vs, .cons h t => by
    have ih := namedV_at t
    show Paired _ ((a :: its).filter It0.named) (if a.named = true then b :: namedV its vs else namedV its vs)
    by_cases h1 : a.named = true
    · rw [List.filter_cons_of_pos h1, if_pos h1]; exact .cons h ih
    · rw [List.filter_cons_of_neg h1, if_neg h1]; exact ih
theorem namedK_filter (its : List It0) : namedK its = (its.filter It0.named).map fun it => (Sum.inr it.nm, nV it.wd) := by
  unfold namedK namedL
  induction its with
  | nil => rfl
  | cons a its ih =>
    by_cases h1 : a.named = true
    · rw [List.filter_cons_of_pos h1]
      simp only [List.filterMap_cons, h1, if_true, List.map_cons]
      rw [ih]
    · rw [List.filter_cons_of_neg h1]
      simp only [List.filterMap_cons, h1]
      exact ih
/-- what parts tells -/
structure PartsAt (K : PySem.W.Frag) (H : Hp) (t Li Lr Dn : Addr) (its : List It0) : Prop where
  tup : SqT K H t [.ref Li, .ref Lr, .ref Dn]
  li : H Li = some (.lst ((wI its).map nV))
  lr : H Lr = some (.lst ((wR its).map nV))
  dn : H Dn = some (.dK (namedK its))
def kindsK (Li Lr : Addr) : List (Key × V) := [(Sum.inr "input", .ref Li), (Sum.inr "reg", .ref Lr)]
def inNm4 (s : Str) : Bool := inV (.str s) [.str "input", .str "reg", .str "wire", .str "output"]
theorem inNm4_kd (it : It0) : inNm4 it.kd = it.named := by
  cases it with
  | inp x w => exact (show inV (.str "input") [.str "input", .str "reg", .str "wire", .str "output"] = true by decide +kernel)
  | reg x w r => exact (show inV (.str "reg") [.str "input", .str "reg", .str "wire", .str "output"] = true by decide +kernel)
  | sig o x w e =>
    cases o
    · exact (show inV (.str "wire") [.str "input", .str "reg", .str "wire", .str "output"] = true by decide +kernel)
    · exact (show inV (.str "output") [.str "input", .str "reg", .str "wire", .str "output"] = true by decide +kernel)
  | nxt x e => exact (show inV (.str "next") [.str "input", .str "reg", .str "wire", .str "output"] = false by decide +kernel)
/-- a named item's width, third in its tuple -/
theorem ItAt.widthAt {H : Hp} {it : It0} {x : V} (h : ItAt K H it x) (hk : it.named = true) : ∃ p xs, x = .ref p ∧ SqT K H p (.str it.kd :: .str it.nm :: .int (it.wd : Int) :: xs) := by
  obtain ⟨p, xs, rfl, h1, h2⟩ := h
  cases it with
  | inp x w => cases h2; exact ⟨p, _, rfl, h1⟩
  | reg x w r => cases h2; exact ⟨p, _, rfl, h1⟩
  | sig o x w e => obtain ⟨ve, rfl, _⟩ := h2; exact ⟨p, _, rfl, h1⟩
  | nxt x e => cases hk
def spParts (K : PySem.W.Frag) : Sp := fun vs H Q _ => ∃ (D : Addr) (nm : Str) (its : List It0), vs = [.ref D] ∧ DsAt K H D nm its ∧ its.length ≤ 100 ∧ NamesOk its ∧ ∀ H' t Li Lr Dn, Kp [] H H' → PartsAt K H' t Li Lr Dn its → Q (.ref t) H'
abbrev nm_law_parts : List Str := ["_law_design", "_law_items", "_law_kinds", "_law_item", "_law_named"]
theorem sc_law_parts : FnScope nm_law_parts ["_law_design"] (C8.fnScope (st 57)) := C8.fnScope_by (by decide +kernel)
theorem cal_law_parts (T : Top K mg) : C8.Cal P w K mg base (1) "_law_parts" (spParts K) [] := by
  refine calD T.d__law_parts sc_law_parts (fun vs H Q E h => ?_) (fun f cdv A outer s0 H vs Q E hr h => ?_)
  ·
    obtain ⟨D, nm, its, rfl, _⟩ := h; rfl
  ·
    obtain ⟨D, nm, its, rfl, ⟨M, I, hD, hM⟩, hz, hN, q⟩ := h
    have hu := hu_of hr
    refine ⟨_, (pss_cons (ps_par (i := 1) (j := 2) (by rfl) sc_law_parts.nd rfl rfl (by decide) rfl rfl (pa_cons (pe_ix ix_tup (pe_ix ix_tup (pv 0) pe_int (fun _ _ => rfl)) pe_int (fun _ _ => rfl)) (pa_cons (pe_disp (pps_cons pe_str (pe_lst pa_nil) (pps_cons pe_str (pe_lst pa_nil) pps_nil)) (by rfl) (by rfl) (fun z => by cases z) (by decide)) pa_nil)) (by rfl))
      (pss_cons (ps_for PassesOwn.never rfl (pi_tup (pv 1)) (pg_name (i := 3) sc_law_parts.nd rfl (Or.inl rfl)) (pss_one (ps_if (pt_cmp (pc_din hu (pe_ix ix_tup (pv 3) pe_int (fun _ _ => rfl)) (pv 2))) (pss_one (ps_expr (pe_bm PySem.F.plainAttrs_list PySem.F.slot_list_append PySem.F.type_list_append mt_append (pe_dget hu (pv 2) (pe_ix ix_tup (pv 3) pe_int (fun _ _ => rfl)) (fun _ _ => rfl)) (pa_cons (pe_ix ix_tup (pv 3) pe_int (fun _ _ => rfl)) pa_nil)))) pss_nil)))
      (pss_cons (ps_setLc (i := 4) (own := [("_law_item", 3)]) (g := (gName 3))  rfl sc_law_parts.nd rfl rfl (sw_true rfl rfl rfl (by decide +kernel)) (pi_tup (pv 1)) (blkOk_by (own := [("_law_item", 3)]) (N := nm_law_parts) (sc := C8.fnScope (st 57)) (by decide +kernel)) (fun _ _ _ _ _ => (pg_name (i := 3) sc_law_parts.nd rfl (Or.inl rfl))) (fun _ _ _ _ _ => (pts_one (pt_cmpR (op_in_seqK (K := K) rfl) (pe_ix (ix_tupK (K := K) rfl) (pv 3) pe_int (fun _ _ => rfl)) (pe_lst (pa_cons pe_str (pa_cons pe_str (pa_cons pe_str (pa_cons pe_str pa_nil))))) (by rfl)))) (fun _ _ _ _ _ => (pv 3)))
      (pss_one (ps_ret (pe_tup (pa_cons (pe_dget hu (pv 2) pe_str (fun _ _ => rfl)) (pa_cons (pe_dget hu (pv 2) pe_str (fun _ _ => rfl)) (pa_cons (pe_callTy (call_dictP rfl) (by rfl) T.f_dict PyProof.Rows.boot_dict (pa_cons (pe_lc (own := [("_law_item", 3)]) (g := (gName 3)) (tt := tYes)  rfl sc_law_parts.nd (pi_list (pv 4)) (blkOk_by (own := [("_law_item", 3)]) (N := nm_law_parts) (sc := C8.fnScope (st 57)) (by decide +kernel)) (fun _ _ _ _ _ => (pg_name (i := 3) sc_law_parts.nd rfl (Or.inl rfl))) (fun _ _ _ _ _ => pts_nil) (fun _ _ _ _ _ => (pe_tup (pa_cons (pe_ix (ix_tupK (K := K) rfl) (pv 3) pe_int (fun _ _ => rfl)) (pa_cons (pe_ix (ix_tupK (K := K) rfl) (pv 3) pe_int (fun _ _ => rfl)) pa_nil))))) pa_nil)) pa_nil))))))))), ?_⟩
    obtain ⟨vs, hT, hP⟩ := hM.2
    refine ⟨_, rfl, _, _, _, _, rfl, rfl, hD, atI_nat (j := 0) rfl, _, _, _, _, rfl, rfl, hM.1, atI_nat (j := 2) rfl, fun d nd => ?_⟩
    refine ⟨(by show 0 ≤ sizeLine; decide), fun l1 nl1 => ⟨(by show 0 ≤ sizeLine; decide), fun l2 nl2 => ?_⟩⟩
    have k3 : Kp [] H (upd (upd (upd H d (.dK [])) l1 (.lst [])) l2 (.lst [])) := ((Kp.refl.new nd).new nl1).new nl2
    have hd1 : d ≠ l1 := fun e => by rw [← e, upd_same] at nl1; cases nl1
    have h12 : l1 ≠ l2 := fun e => by rw [← e, upd_same] at nl2; cases nl2
    have hd2 : d ≠ l2 := fun e => by rw [← e, upd_ne hd1, upd_same] at nl2; cases nl2
    have n1 : H l1 = none := by rw [upd_ne hd1.symm] at nl1; exact nl1
    have n2 : H l2 = none := by rw [upd_ne h12.symm, upd_ne hd2.symm] at nl2; exact nl2
    refine ⟨by rw [upd_ne hd2, upd_ne hd1, upd_same], kindsK l1 l2, rfl, (by show 2 ≤ 15; decide), ?_⟩
    have em0 : mergeK [] (kindsK l1 l2) = kindsK l1 l2 := by rfl
    rw [em0]
    have k4 := k3.put (o := .dK (kindsK l1 l2)) nd
    refine ⟨_, _, rfl, ?_⟩
    refine ⟨_, rfl, _, rfl, ⟨_, k4.sqT hT⟩, ?_⟩
    refine for_it walk_tup (fun i σ H' => ∃ (x3 : Option V), σ = [some (.ref D), some (.ref I), some (.ref d), x3, none] ∧ Kp [] H H' ∧ H' d = some (.dK (kindsK l1 l2)) ∧ H' l1 = some (.lst ((wI (its.take i)).map nV)) ∧ H' l2 = some (.lst ((wR (its.take i)).map nV)))
      ⟨none, rfl, k4, upd_same, by rw [upd_ne hd1.symm, upd_ne h12, upd_same]; rfl, by rw [upd_ne hd2.symm, upd_same]; rfl⟩ (fun i σ H' _ ⟨_, _, k, _⟩ => k.sqT hT) ?_ ?_
    · rintro i v σ H2 H3 hi ⟨x3, rfl, k, ed, e1, e2⟩ ⟨rfl, gv⟩
      obtain ⟨it, gi, hit⟩ := Paired.getR hP gv
      have ei := wI_snoc gi
      have er := wR_snoc gi
      have l1l := wI_len (its.take i)
      have l2l := wR_len (its.take i)
      rw [List.length_take] at l1l l2l
      have hit3 := ItAt.kp k hit
      have hno : ∀ (hF : valV (kindsK l1 l2) (Sum.inr it.kd) = none) (h1 : ¬ it.kd = "input") (h2 : ¬ it.kd = "reg") (p : Addr), _ := fun hF h1 h2 p =>
        (⟨some (.ref p), rfl, k, ed, by rw [ei, if_neg h1]; exact e1, by rw [er, if_neg h2]; exact e2⟩ : ∃ (x3 : Option V), [some (.ref D), some (.ref I), some (.ref d), some (.ref p), none] = [some (.ref D), some (.ref I), some (.ref d), x3, none] ∧ Kp [] H H3 ∧ H3 d = some (.dK (kindsK l1 l2)) ∧ H3 l1 = some (.lst ((wI (its.take (i + 1))).map nV)) ∧ H3 l2 = some (.lst ((wR (its.take (i + 1))).map nV)))
      by_cases hI : it.kd = "input"
      · obtain ⟨p, xs, rfl, hp⟩ := hit3.leafAt (.inl hI)
        have h2 : ¬ it.kd = "reg" := fun z => nm_ne (a := "input") (b := "reg") (by decide +kernel) (hI.symm.trans z)
        rw [hI] at hp
        have g1 : DGet H3 d (.str "input") (some (.ref l1)) := .inl ⟨_, Sum.inr "input", .inl ed, rfl, rfl⟩
        refine ⟨_, rfl, _, _, _, _, rfl, rfl, hp, atI_nat (j := 0) rfl, _, rfl, _, _, rfl, g1, _, rfl, ifBT rfl ?_⟩
        refine ⟨_, rfl, _, rfl, _, _, _, _, rfl, rfl, hp, atI_nat (j := 0) rfl, _, _, rfl, g1, .inl ⟨rfl, _, SqL.of e1⟩, _, rfl, _, _, _, _, rfl, rfl, hp, atI_nat (j := 2) rfl, _, _, _, rfl, rfl, e1, small _ (by rw [List.length_map]; omega), ?_⟩
        refine ⟨_, rfl, k.put n1, (upd_ne hd1).trans ed, ?_, ?_⟩
        · rw [upd_same, ei, if_pos hI, List.map_append]; rfl
        · rw [upd_ne h12.symm, er, if_neg h2]; exact e2
      · by_cases hR : it.kd = "reg"
        · obtain ⟨p, xs, rfl, hp⟩ := hit3.leafAt (.inr hR)
          rw [hR] at hp
          have g1 : DGet H3 d (.str "reg") (some (.ref l2)) := .inl ⟨_, Sum.inr "reg", .inl ed, rfl, rfl⟩
          refine ⟨_, rfl, _, _, _, _, rfl, rfl, hp, atI_nat (j := 0) rfl, _, rfl, _, _, rfl, g1, _, rfl, ifBT rfl ?_⟩
          refine ⟨_, rfl, _, rfl, _, _, _, _, rfl, rfl, hp, atI_nat (j := 0) rfl, _, _, rfl, g1, .inl ⟨rfl, _, SqL.of e2⟩, _, rfl, _, _, _, _, rfl, rfl, hp, atI_nat (j := 2) rfl, _, _, _, rfl, rfl, e2, small _ (by rw [List.length_map]; omega), ?_⟩
          refine ⟨_, rfl, k.put n2, (upd_ne hd2).trans ed, ?_, ?_⟩
          · rw [upd_ne h12, ei, if_neg hI]; exact e1
          · rw [upd_same, er, if_pos hR, List.map_append]; rfl
        · obtain ⟨p, xs, rfl, hp, _⟩ := hit3
          have hF : valV (kindsK l1 l2) (Sum.inr it.kd) = none := by
            unfold kindsK
            rw [valV_neg (fun z => hI (Sum.inr.inj z).symm), valV_neg (fun z => hR (Sum.inr.inj z).symm)]; rfl
          have g1 : DGet H3 d (.str it.kd) none := .inl ⟨_, Sum.inr it.kd, .inl ed, rfl, hF.symm⟩
          refine ⟨_, rfl, _, _, _, _, rfl, rfl, hp, atI_nat (j := 0) rfl, _, rfl, _, _, rfl, g1, _, rfl, ifBF rfl ?_⟩
          exact hno hF hI hR p
    · rintro σ H1 ⟨x3, rfl, k, ed, e1, e2⟩
      have hlen : its.take vs.length = its := by rw [← Paired.len hP, List.take_length]
      rw [hlen] at e1 e2
      refine ⟨_, rfl, _, rfl, ⟨_, k.sqT hT⟩, fun B nB => ?_⟩
      refine lc_it walk_tup (fun i H' => H' B = some (.lst (namedV (its.take i) (vs.take i))) ∧ Kp [] H1 H') ⟨upd_same, Kp.refl.new nB⟩ (fun i H' _ ⟨_, kk⟩ => kk.sqT (k.sqT hT)) ?_ ?_
      · rintro i v H2 H3 hi ⟨eB, kk⟩ ⟨rfl, gv⟩
        obtain ⟨it, gi, hit⟩ := Paired.getR hP gv
        have en := namedV_snoc hP gi gv
        obtain ⟨p, xs, rfl, hp, _⟩ := ItAt.kp (k.trans kk) hit
        have ll : (namedV (its.take i) (vs.take i)).length ≤ 100 := by
          have h1 := Paired.len (namedV_at (K := K) (H := H) (its := its.take i) (vs := vs.take i) (Paired.takeP hP i))
          have h2 := List.length_filter_le It0.named (its.take i)
          rw [List.length_take] at h2
          omega
        refine ⟨rfl, ?_⟩
        refine ⟨_, rfl, _, _, _, _, rfl, rfl, hp, atI_nat (j := 0) rfl, (by show 4 ≤ sizeLine; decide), fun l nl => ⟨_, _, rfl, .inl (SqL.of upd_same), rfl, rfl, _, rfl, ?_⟩⟩
        have e0 : inV (.str it.kd) [.str "input", .str "reg", .str "wire", .str "output"] = it.named := inNm4_kd it
        have eB2 := (upd_ne (o := .lst [.str "input", .str "reg", .str "wire", .str "output"]) (ne_of_none eB nl)).trans eB
        have kl := kk.new (o := .lst [.str "input", .str "reg", .str "wire", .str "output"]) nl
        by_cases hn : it.named = true
        · refine ifBT (e0.trans hn) ?_
          refine ⟨_, rfl, _, eB2, small _ (by omega), ?_, kl.put nB⟩
          rw [upd_same, en, if_pos hn]
        · refine ifBF (e0.trans (by simpa using hn)) ?_
          exact ⟨by rw [en, if_neg hn]; exact eB2, kl⟩
      · rintro H2 ⟨eB, kk⟩
        have hvl : vs.take vs.length = vs := List.take_length
        rw [hlen, hvl] at eB
        have k5 := k.trans kk
        have ed2 := kk.at_ _ _ ed (fun z => nomatch z)
        have e12 := kk.at_ _ _ e1 (fun z => nomatch z)
        have e22 := kk.at_ _ _ e2 (fun z => nomatch z)
        refine ⟨_, rfl, _, _, rfl, .inl ⟨_, Sum.inr "input", .inl ed2, rfl, rfl⟩, _, rfl, _, _, rfl, .inl ⟨_, Sum.inr "reg", .inl ed2, rfl, rfl⟩, ?_⟩
        have hPn := namedV_at hP
        refine ⟨_, rfl, _, rfl, ⟨_, SqL.of eB⟩, fun C nC => ?_⟩
        refine lc_it walk_list (fun j H' => Kp [] H2 H' ∧ ∃ ps : List Addr, H' C = some (.lst (ps.map V.ref)) ∧ Paired (fun p (kv : Key × V) => SqT K H' p [kV kv.1, kv.2]) ps ((namedK its).take j)) ⟨Kp.refl.new nC, [], upd_same, .nil⟩ (fun j H' _ ⟨kk, _⟩ => kk.sqL0 (SqL.of eB)) ?_ ?_
        · rintro j v H3 H4 hj ⟨kk3, ps, eC, hps⟩ ⟨rfl, gv⟩
          obtain ⟨it, gi, hit⟩ := Paired.getR hPn gv
          have hnm : it.named = true := (List.mem_filter.mp (List.mem_of_getElem? gi)).2
          obtain ⟨p, xs, rfl, hp⟩ := (ItAt.kp (k5.trans kk3) hit).widthAt hnm
          have eK : (namedK its)[j]? = some (Sum.inr it.nm, nV it.wd) := by rw [namedK_filter, List.getElem?_map, gi]; rfl
          refine ⟨rfl, ?_⟩
          refine ⟨_, rfl, _, _, _, _, rfl, rfl, hp, atI_nat (j := 1) rfl, _, rfl, _, _, _, _, rfl, rfl, hp, atI_nat (j := 2) rfl, (by show 2 ≤ sizeLine; decide), fun t nt => ?_⟩
          have eC2 := (upd_ne (o := .tup [.str it.nm, .int (it.wd : Int)]) (ne_of_none eC nt)).trans eC
          have k6 := kk3.new (o := .tup [.str it.nm, .int (it.wd : Int)]) nt
          have hpl : ps.length ≤ 100 := by
            have h1 := Paired.len hps
            rw [List.length_take] at h1
            have h2 : (namedK its).length ≤ its.length := by unfold namedK; rw [List.length_map]; exact namedL_len _
            omega
          refine ⟨_, eC2, small _ (by rw [List.length_map]; omega), k6.put nC, ps ++ [t], by rw [upd_same, List.map_append]; rfl, ?_⟩
          rw [List.take_add_one, eK]
          have kp := Kp.putL (o := .lst (ps.map V.ref ++ [.ref t])) eC2
          have kt := Kp.refl.new (o := .tup [.str it.nm, .int (it.wd : Int)]) nt (S := [])
          exact Paired.app (Paired.mapP hps fun _ _ z => kp.sqT (kt.sqT z)) (.cons (kp.sqT (SqT.of upd_same)) .nil)
        · rintro H3 ⟨kk3, ps, eC, hps⟩
          have hkl : (namedK its).take (namedV its vs).length = namedK its := by rw [namedK_filter, ← Paired.len hPn, List.take_of_length_le (by rw [List.length_map]; exact Nat.le_refl _)]
          rw [hkl] at hps
          refine ⟨_, ps, namedK its, rfl, SqL.of eC, hps, fun Dn nDn => ?_⟩
          refine ⟨(by show 3 ≤ sizeLine; decide), fun t nt => ?_⟩
          have em1 : mergeK [] (namedK its) = namedK its := mergeK_nodup _ [] (by rw [List.nil_append]; exact namedK_nodup hN)
          rw [em1] at nt ⊢
          have k7 : Kp [] H (upd (upd H3 Dn (.dK (namedK its))) t (.tup [.ref l1, .ref l2, .ref Dn])) := ((k5.trans kk3).new nDn).new nt
          have k8 : Kp [] H2 (upd (upd H3 Dn (.dK (namedK its))) t (.tup [.ref l1, .ref l2, .ref Dn])) := (kk3.new nDn).new nt
          exact q _ t l1 l2 Dn k7 ⟨SqT.of upd_same, k8.at_ _ _ e12 (fun z => nomatch z), k8.at_ _ _ e22 (fun z => nomatch z), (upd_ne (ne_of_none upd_same nt)).trans upd_same⟩
end
end K14
/-! dict of a tuple of pairs: the tuple is one that tuple() made -/
namespace K14
open PySem PySem.Spec PyProof.Rows L2
def pxt (l : Addr) (ps : List Addr) : HO := .ext fun h => ∃ n, h.get? l = some ({ cls := .type "tuple", data := .seq (ps.map Value.ref).toArray n } : Obj)
theorem pxt_at {P : Program} {w : World} {H : Hp} {h : Heap} {l : Addr} {ps : List Addr} (hok : HOk P w H h) (e : H l = some (pxt l ps)) : ∃ n, h.get? l = some ({ cls := .type "tuple", data := .seq (ps.map Value.ref).toArray n } : Obj) := by
  have x : ObjOk P w H h l (.ext fun h => ∃ n, h.get? l = some ({ cls := .type "tuple", data := .seq (ps.map Value.ref).toArray n } : Obj)) := hok l _ e
  exact x.1
theorem pxt_ok {P : Program} {w : World} {H : Hp} {h : Heap} {l : Addr} {ps : List Addr} {n : Nat} (e : h.get? l = some ({ cls := .type "tuple", data := .seq (ps.map Value.ref).toArray n } : Obj)) : ObjOk P w H h l (pxt l ps) :=
  ⟨⟨n, e⟩, ⟨_, e⟩, fun h1 h2 z k => by
    obtain ⟨m, q⟩ := z
    exact ⟨m, k _ q⟩⟩
theorem call_tuple_x {X : Cx} : CallR X (.type "tuple") (fun xs H Q => ∃ p ps, xs = [.ref p] ∧ SqL X.K H p (ps.map V.ref) ∧ ∀ l, H l = none → Q (.ref l) (upd H l (pxt l ps))) := by
  intro pins s σ H xs us Q I r h
  obtain ⟨p, ps, rfl, hq, q⟩ := h
  obtain ⟨u, rfl, rx⟩ := vals1 r
  cases rx
  obtain ⟨its, r', pl, hz⟩ := I.list hq
  have ei := refs_at r'
  subst ei
  refine call_tuple_list pl.isList (fun h' kp => ?_) (by simp only [List.size_toArray, List.length_map] at * <;> omega)
  have I1 : Inv X pins σ H { s with heap := h' } := I.kept (t' := s.toks) kp
  have I2 : Inv X pins σ (upd H h'.objs.size (pxt h'.objs.size ps)) { s with heap := h'.push { cls := .type "tuple", data := .seq (ps.map Value.ref).toArray } } :=
    I1.laid (t' := s.toks) (fun b o e => Heap.get?_push_of_some _ e) (Nat.le_refl _) (pxt_ok (Heap.get?_push_size _ rfl))
  exact ⟨.ref h'.objs.size, _, I2, rfl, q _ (I1.hok.fresh (Nat.le_refl _))⟩
theorem pairs_ofX {X : Cx} {pins : List (Addr × Obj)} {σ : L2.St} {H : Hp} {s : Shared} (I : Inv X pins σ H s) : ∀ {ps : List Addr} {kvs : List (Key × V)}, Paired (fun p kv => SqT X.K H p [kV kv.1, kv.2]) ps kvs →
    ∃ (prs : List (Key × Value)) (us : List (Value × Value)), KV kvs prs ∧ prs.length = ps.length ∧ us.length = ps.length ∧ ∀ (j : Nat) (u v : Value), us[j]? = some (u, v) → ∃ (b : Addr) (k : Key), ps[j]? = some b ∧ IsTup s.heap b #[u, v] ∧ prs[j]? = some (k, v) ∧ keyIs k u = true
  | _, _, .nil => ⟨[], [], .nil, rfl, rfl, fun j q v e => by simp at e⟩
  | _, _, .cons (a := p) (b := kv) h t => by
    obtain ⟨prs, us, r, hl, hl2, hp⟩ := pairs_ofX I t
    obtain ⟨its, rv, ht, _⟩ := I.tuple h
    obtain ⟨u, y, ei, ru, ry⟩ := vals2 rv
    subst ei
    refine ⟨(kv.1, y) :: prs, (u, y) :: us, .cons ⟨rfl, ry⟩ r, by rw [List.length_cons, List.length_cons, hl], by rw [List.length_cons, List.length_cons, hl2], fun j q v e => ?_⟩
    cases j with
    | zero =>
      have e' : (u, y) = (q, v) := Option.some.inj e
      cases e'
      exact ⟨p, kv.1, rfl, ht, rfl, kV_is (P := X.prog) (w := X.w) ru⟩
    | succ j =>
      obtain ⟨b, k, e1, e2, e3, e4⟩ := hp j q v (by simpa using e)
      exact ⟨b, k, by simpa using e1, e2, by simpa using e3, e4⟩
theorem call_dictX {X : Cx} (hcalm : X.calm = true) : CallR X (.type "dict") (fun xs H Q => ∃ (a : Addr) (ps : List Addr) (kvs : List (Key × V)), xs = [.ref a] ∧ H a = some (pxt a ps) ∧ ps.length ≤ 1000 ∧ Paired (fun p kv => SqT X.K H p [kV kv.1, kv.2]) ps kvs ∧
    ∀ p, H p = none → Q (.ref p) (upd H p (.dK (mergeK [] kvs)))) := by
  intro pins s σ H xs us Q I r q
  obtain ⟨a, ps, kvs, ex, hq, hz, hp, q⟩ := q
  subst ex
  obtain ⟨u, eu, rx⟩ := vals1 r
  subst eu
  cases rx
  obtain ⟨n, ho⟩ := pxt_at I.hok hq
  obtain ⟨prs, us, rel, hl, hl2, hpr⟩ := pairs_ofX I hp
  have ok : PlainSeq "tuple" s.heap a (ps.map Value.ref).toArray ∧ PairItems s.heap (ps.map Value.ref).toArray (fun j => ps.getD j 0) us := by
    refine ⟨⟨_, n, ho, rfl, rfl, rfl⟩, by rw [List.size_toArray, List.length_map, hl2], fun j k v e => ?_⟩
    obtain ⟨b, k', e1, e2, _, _⟩ := hpr j k v e
    have eg : ps.getD j 0 = b := by rw [List.getD_eq_getElem?_getD, e1]; rfl
    refine ⟨?_, .inl ?_⟩
    · show (ps.map Value.ref).toArray[j]? = some (.ref (ps.getD j 0))
      rw [eg]
      simp [e1]
    · show s.heap.IsTuple (ps.getD j 0) #[k, v]
      rw [eg]; exact e2
  refine PySem.call_dict_pairs (knd := mixKind X.prog X.w) (kvs := prs) (PairArg.tuple a _ _ us) (I.ok.hd hcalm) ok ⟨by rw [hl, hl2], fun i key v e => ?_⟩ (by rw [hl2, sizeLine_eq]; omega) fun h' tk hd' k => ?_
  · obtain ⟨b, k, e1, e2, e3, e4⟩ := hpr i key v e
    exact ⟨k, e3, e4⟩
  · have hm : (s.heap.objs.size == sysModules) = false := beq_eq_false_iff_ne.mpr (Nat.ne_of_gt I.big)
    have hlen : (mergeK [] kvs).length ≤ sizeLine := by
      refine Nat.le_trans (length_mergeK kvs []) ?_
      rw [List.length_nil, Nat.zero_add, rel.length, hl, sizeLine_eq]
      omega
    exact ⟨.ref s.heap.objs.size, upd H s.heap.objs.size (.dK (mergeK [] kvs)), I.laid (t' := tk) (fun b o e => k b o (fun z => nomatch z) e) (Nat.le_refl _) (show ObjOk X.prog X.w _ _ _ (.dK (mergeK [] kvs)) from ⟨hlen, hm, merged [] prs, KV.merge rel .nil, hd'⟩), rfl, q _ (I.hok.fresh (Nat.le_refl _))⟩
end K14
/-! the machine's own numbers; a tick; the word of the wish -/
namespace K14
open PySem PySem.Spec PyProof.Rows L2
/-- a machine's object -/
structure MacAt (K : PySem.W.Frag) (H : Hp) (x : Addr) (n : Nat) (gs : List (Nat × Nat)) (i : Nat) (rs ns : List Nat) (w : Nat) : Prop where
  ex : ∃ dx G dg tg ts tr tn, H x = some (.ins (cMachine K) dx (mF G tr tn i w)) ∧ H G = some (.ins (cGraph K) dg [("leaves", .int (n : Int)), ("gates", .ref tg)]) ∧ SqT K H tg (ts.map V.ref) ∧ GT H ts gs ∧ WAt K H tr rs ∧ WAt K H tn ns
  gok : GOk n gs
  nok : WOk n gs ns
  wok : Ok n gs w
  small : gs.length ≤ big ∧ n ≤ 100000 ∧ ns.length ≤ 100000
theorem MacAt.kp {K : PySem.W.Frag} {H H' : Hp} {x : Addr} {n : Nat} {gs : List (Nat × Nat)} {i : Nat} {rs ns : List Nat} {w : Nat} (m : MacAt K H x n gs i rs ns w) (k : Kp [] H H') : MacAt K H' x n gs i rs ns w := by
  obtain ⟨⟨dx, G, dg, tg, ts, tr, tn, h1, h2, h3, h4, h5, h6⟩, a, b, c, d⟩ := m
  exact ⟨⟨dx, G, dg, tg, ts, tr, tn, k.at_ _ _ h1 (by simp), k.at_ _ _ h2 (by simp), k.sqT h3, h4.kp k, k.sqT h5, k.sqT h6⟩, a, b, c, d⟩
def ownK (tg tr tn : Addr) (n i w : Nat) : List (Key × V) := [(Sum.inr "leaves", .int (n : Int)), (Sum.inr "gates", .ref tg), (Sum.inr "inputs", .int (i : Int)), (Sum.inr "resets", .ref tr), (Sum.inr "nexts", .ref tn), (Sum.inr "wish", .int (w : Int))]
def ownK3 (tg : Addr) (n i : Nat) : List (Key × V) := [(Sum.inr "leaves", .int (n : Int)), (Sum.inr "gates", .ref tg), (Sum.inr "inputs", .int (i : Int))]
theorem own_put (tg tr tn : Addr) (n i w : Nat) : putK (putK (putK (ownK3 tg n i) (Sum.inr "resets") (.ref tr)) (Sum.inr "nexts") (.ref tn)) (Sum.inr "wish") (.int (w : Int)) = ownK tg tr tn n i w := by rfl
structure OwnAt (K : PySem.W.Frag) (H : Hp) (d tr tn : Addr) (n : Nat) (gs : List (Nat × Nat)) (i : Nat) (rs ns : List Nat) (w : Nat) : Prop where
  ex : ∃ tg ts, H d = some (.dK (ownK tg tr tn n i w)) ∧ SqT K H tg (ts.map V.ref) ∧ GT H ts gs ∧ WAt K H tr rs ∧ WAt K H tn ns
  gok : GOk n gs
  nok : WOk n gs ns
  wok : Ok n gs w
  small : gs.length ≤ big ∧ n ≤ 100000 ∧ ns.length ≤ 100000
theorem OwnAt.kp {K : PySem.W.Frag} {S : List Addr} {H H' : Hp} {d tr tn : Addr} {n : Nat} {gs : List (Nat × Nat)} {i : Nat} {rs ns : List Nat} {w : Nat} (m : OwnAt K H d tr tn n gs i rs ns w) (k : Kp S H H') (h : d ∉ S) : OwnAt K H' d tr tn n gs i rs ns w := by
  obtain ⟨⟨tg, ts, h1, h3, h4, h5, h6⟩, a, b, c, e⟩ := m
  exact ⟨⟨tg, ts, k.at_ _ _ h1 h, k.sqT h3, h4.kp k, k.sqT h5, k.sqT h6⟩, a, b, c, e⟩
section
variable {P : Program} {w : World} {K : PySem.W.Frag} {mg : Str → Option Value} {base : Heap}
def spOwn (K : PySem.W.Frag) : Sp := fun vs H Q _ => ∃ (x : Addr) (n : Nat) (gs : List (Nat × Nat)) (i : Nat) (rs ns : List Nat) (w : Nat), vs = [.ref x] ∧ MacAt K H x n gs i rs ns w ∧ ∀ H' d tr tn, Kp [] H H' → OwnAt K H' d tr tn n gs i rs ns w → Q (.ref d) H'
abbrev nm_law_own : List Str := ["_law_machine", "_law_own_here"]
theorem sc_law_own : FnScope nm_law_own ["_law_machine"] (C8.fnScope (st 58)) := C8.fnScope_by (by decide +kernel)
theorem cal_law_own (T : Top K mg) : C8.Cal P w K mg base (1) "_law_own" (spOwn K) [] := by
  refine calD T.d__law_own sc_law_own (fun vs H Q E h => ?_) (fun f cdv A outer s0 H vs Q E hr h => ?_)
  ·
    obtain ⟨x, n, gs, i, rs, ns, w', rfl, _⟩ := h; rfl
  ·
    obtain ⟨x, n, gs, i, rs, ns, w', rfl, hM, q⟩ := h
    have hu := hu_of hr
    refine ⟨_, (pss_cons (ps_if (PW.pt (pw_or (pt_not (pt_val (pe_callB (C8.call_isC T.i_Machine) (by rfl) T.f_isinstance PyProof.Rows.boot_isinstance (pa_cons (pv 0) (pa_cons (pe_glob (v := .ref (He.ga K "Machine")) (by rfl) T.g_Machine rfl) pa_nil))))) (pw_or1 (pt_not (pt_val (pe_callB (C8.call_isC T.i_Graph) (by rfl) T.f_isinstance PyProof.Rows.boot_isinstance (pa_cons (pe_fld (pv 0) rfl) (pa_cons (pe_glob (v := .ref (He.ga K "Graph")) (by rfl) T.g_Graph rfl) pa_nil)))))))) (pss_one (ps_ret pe_non)) pss_nil)
      (pss_cons (ps_set (i := 1) sc_law_own.nd rfl (Or.inl rfl) (pe_disp (pps_cons pe_str (pe_fld (pe_fld (pv 0) rfl) rfl) (pps_cons pe_str (pe_fld (pe_fld (pv 0) rfl) rfl) (pps_cons pe_str (pe_fld (pv 0) rfl) pps_nil))) (by rfl) (by rfl) (fun z => by cases z) (by decide)))
      (pss_cons (ps_asg (pe_tup (pa_cons (pe_fld (pv 0) rfl) (pa_cons (pe_fld (pv 0) rfl) (pa_cons (pe_fld (pv 0) rfl) pa_nil)))) (pg_tup rfl (pgs_cons (pg_sub (pv 1) pe_str (set_dict hu)) (pgs_cons (pg_sub (pv 1) pe_str (set_dict hu)) (pgs_cons (pg_sub (pv 1) pe_str (set_dict hu)) pgs_nil)))))
      (pss_one (ps_ret (pv 1)))))), ?_⟩
    obtain ⟨⟨dx, G, dg, tg, ts, tr, tn, h1, h2, h3, h4, h5, h6⟩, ha, hb, hc, hd⟩ := hM
    have fG : (mF G tr tn i w').lookup ("graph" : Str) = some (V.ref G) := rfl
    have fi : (mF G tr tn i w').lookup ("inputs" : Str) = some (V.int (i : Int)) := rfl
    have fr : (mF G tr tn i w').lookup ("resets" : Str) = some (V.ref tr) := rfl
    have fn : (mF G tr tn i w').lookup ("nexts" : Str) = some (V.ref tn) := rfl
    have fw : (mF G tr tn i w').lookup ("wish" : Str) = some (V.int (w' : Int)) := rfl
    have gl : ([("leaves", .int (n : Int)), ("gates", .ref tg)] : List (Str × V)).lookup ("leaves" : Str) = some (V.int (n : Int)) := rfl
    have gg : ([("leaves", .int (n : Int)), ("gates", .ref tg)] : List (Str × V)).lookup ("gates" : Str) = some (V.ref tg) := rfl
    refine ⟨_, rfl, x, dx, _, rfl, h1, _, rfl, ?_⟩
    refine ⟨_, rfl, x, _, dx, _, _, rfl, h1, T.c_Machine, T.n_Machine_graph, fG, G, dg, _, rfl, h2, _, rfl, ?_⟩
    refine fun d nd => ?_
    have kd : Kp [] H (upd H d (.dK [])) := Kp.refl.new nd
    have h1' := kd.at_ _ _ h1 (by simp)
    have h2' := kd.at_ _ _ h2 (by simp)
    refine ⟨_, rfl, x, _, dx, _, _, rfl, h1', T.c_Machine, T.n_Machine_graph, fG, G, _, dg, _, _, rfl, h2', T.c_Graph, T.n_Graph_leaves, gl, ?_⟩
    refine ⟨_, rfl, x, _, dx, _, _, rfl, h1', T.c_Machine, T.n_Machine_graph, fG, G, _, dg, _, _, rfl, h2', T.c_Graph, T.n_Graph_gates, gg, ?_⟩
    refine ⟨_, rfl, x, _, dx, _, _, rfl, h1', T.c_Machine, T.n_Machine_inputs, fi, upd_same, ownK3 tg n i, rfl, (by show 3 ≤ 15; decide), ?_⟩
    have em : mergeK [] (ownK3 tg n i) = ownK3 tg n i := by rfl
    rw [em]
    have k2 := kd.put (o := .dK (ownK3 tg n i)) nd
    have h1'' := k2.at_ _ _ h1 (by simp)
    refine ⟨_, rfl, x, _, dx, _, _, rfl, h1'', T.c_Machine, T.n_Machine_resets, fr, _, rfl, x, _, dx, _, _, rfl, h1'', T.c_Machine, T.n_Machine_nexts, fn, _, rfl, x, _, dx, _, _, rfl, h1'', T.c_Machine, T.n_Machine_wish, fw, (by show 3 ≤ sizeLine; decide), fun t nt => ?_⟩
    have k3 := k2.new (o := .tup [.ref tr, .ref tn, .int (w' : Int)]) nt
    have ed : (upd (upd (upd H d (.dK [])) d (.dK (ownK3 tg n i))) t (.tup [.ref tr, .ref tn, .int (w' : Int)])) d = some (.dK (ownK3 tg n i)) := (upd_ne (ne_of_none upd_same nt)).trans upd_same
    refine ⟨t, _, rfl, SqT.of upd_same, rfl, _, _, rfl, ?_⟩
    refine ⟨_, rfl, d, _, rfl, DPut.k (k := Sum.inr "resets") ed (by show 3 < sizeLine; decide), _, _, rfl, ?_⟩
    refine ⟨_, rfl, d, _, rfl, DPut.k (k := Sum.inr "nexts") upd_same (by show 4 < sizeLine; decide), _, _, rfl, ?_⟩
    refine ⟨_, rfl, d, _, rfl, DPut.k (k := Sum.inr "wish") upd_same (by show 5 < sizeLine; decide), rfl, ?_⟩
    have k6 := ((k3.put (o := .dK (putK (ownK3 tg n i) (Sum.inr "resets") (.ref tr))) nd).put (o := .dK (putK (putK (ownK3 tg n i) (Sum.inr "resets") (.ref tr)) (Sum.inr "nexts") (.ref tn))) nd).put (o := .dK (putK (putK (putK (ownK3 tg n i) (Sum.inr "resets") (.ref tr)) (Sum.inr "nexts") (.ref tn)) (Sum.inr "wish") (.int (w' : Int)))) nd
    exact ⟨_, rfl, q _ d tr tn k6 ⟨⟨tg, ts, by rw [upd_same, own_put], k6.sqT h3, h4.kp k6, k6.sqT h5, k6.sqT h6⟩, ha, hb, hc, hd⟩⟩
/-! ### tick -/
theorem own_leaves (tg tr tn : Addr) (n i w : Nat) : valV (ownK tg tr tn n i w) (Sum.inr "leaves") = some (.int (n : Int)) := by rfl
theorem own_gates (tg tr tn : Addr) (n i w : Nat) : valV (ownK tg tr tn n i w) (Sum.inr "gates") = some (.ref tg) := by rfl
theorem own_inputs (tg tr tn : Addr) (n i w : Nat) : valV (ownK tg tr tn n i w) (Sum.inr "inputs") = some (.int (i : Int)) := by rfl
theorem own_resets (tg tr tn : Addr) (n i w : Nat) : valV (ownK tg tr tn n i w) (Sum.inr "resets") = some (.ref tr) := by rfl
theorem own_nexts (tg tr tn : Addr) (n i w : Nat) : valV (ownK tg tr tn n i w) (Sum.inr "nexts") = some (.ref tn) := by rfl
theorem own_wish (tg tr tn : Addr) (n i w : Nat) : valV (ownK tg tr tn n i w) (Sum.inr "wish") = some (.int (w : Int)) := by rfl
theorem dg_own {H : Hp} {d : Addr} {kvs : List (Key × V)} (e : H d = some (.dK kvs)) {k : Str} {v : V} (h : valV kvs (Sum.inr k) = some v) : DGet H d (.str k) (some v) := .inl ⟨kvs, Sum.inr k, .inl e, rfl, h.symm⟩
def spTick (K : PySem.W.Frag) : Sp := fun vs H Q _ => ∃ (d tr tn : Addr) (n : Nat) (gs : List (Nat × Nat)) (i : Nat) (rs ns : List Nat) (w : Nat) (ts tb : Addr) (zs zb : Bits), vs = [.ref d, .ref ts, .ref tb] ∧ OwnAt K H d tr tn n gs i rs ns w ∧ SqT K H ts (zs.map bval) ∧ SqT K H tb (zb.map bval) ∧ (zb ++ zs).length = n ∧
  ∀ H' t t2, Kp [] H H' → SqT K H' t [.ref t2, bval (lm (nodes n gs) w (zb ++ zs))] → SqT K H' t2 ((ns.map fun l => lm (nodes n gs) l (zb ++ zs)).map bval) → Q (.ref t) H'
abbrev nm_law_tick : List Str := ["_law_machine", "_law_state", "_law_bits", "_law_found", "_law_literal"]
theorem sc_law_tick : FnScope nm_law_tick ["_law_machine", "_law_state", "_law_bits"] (C8.fnScope (st 44)) := C8.fnScope_by (by decide +kernel)
theorem cal_law_tick (T : Top K mg) : C8.Cal P w K mg base (3) "_law_tick" (spTick K) [] := by
  refine calD T.d__law_tick sc_law_tick (fun vs H Q E h => ?_) (fun f cdv A outer s0 H vs Q E hr h => ?_)
  ·
    obtain ⟨d, tr, tn, n, gs, i, rs, ns, w', ts, tb, zs, zb, rfl, _⟩ := h; rfl
  ·
    obtain ⟨d, tr, tn, n, gs, i, rs, ns, w', ts, tb, zs, zb, rfl, hO, h1, h2, hn, q⟩ := h
    have hu := hu_of hr
    refine ⟨_, (pss_cons (ps_set (i := 3) sc_law_tick.nd rfl (Or.inr rfl) (C8.pe_c (cal_law_values T) hr (by decide) rfl (pa_cons (pe_dget hu (pv 0) pe_str (fun _ _ => rfl)) (pa_cons (pe_dget hu (pv 0) pe_str (fun _ _ => rfl)) (pa_cons (pe_op op_catA (pe_callTy call_tuple_of (by rfl) T.f_tuple PyProof.Rows.boot_tuple (pa_cons (pv 2) pa_nil)) (pe_callTy call_tuple_of (by rfl) T.f_tuple PyProof.Rows.boot_tuple (pa_cons (pv 1) pa_nil))) pa_nil)))))
      (pss_one (ps_ret (pe_tup (pa_cons (pe_callTy call_tuple_of (by rfl) T.f_tuple PyProof.Rows.boot_tuple (pa_cons (pe_lc (own := [("_law_literal", 4)]) (g := (gName 4)) (tt := tYes)  rfl sc_law_tick.nd (pi_tup (pe_dget hu (pv 0) pe_str (fun _ _ => rfl))) (blkOk_by (own := [("_law_literal", 4)]) (N := nm_law_tick) (sc := C8.fnScope (st 44)) (by decide +kernel)) (fun _ _ _ _ _ => (pg_name (i := 4) sc_law_tick.nd rfl (Or.inl rfl))) (fun _ _ _ _ _ => pts_nil) (fun _ _ _ _ _ => (C8.pe_c (cal_law_bit T) hr (by decide) rfl (pa_cons (pv 3) (pa_cons (pv 4) pa_nil))))) pa_nil)) (pa_cons (C8.pe_c (cal_law_bit T) hr (by decide) rfl (pa_cons (pv 3) (pa_cons (pe_dget hu (pv 0) pe_str (fun _ _ => rfl)) pa_nil))) pa_nil)))))), ?_⟩
    subst hn
    obtain ⟨⟨tg, gts, ed, g1, g2, g3, g4⟩, a, b, c, e⟩ := hO
    have nl := e.2.1
    rw [List.length_append] at nl
    refine ⟨_, rfl, _, _, rfl, dg_own ed (own_leaves _ _ _ _ _ _), _, rfl, _, _, rfl, dg_own ed (own_gates _ _ _ _ _ _), _, rfl, _, _, rfl, .inr ⟨h2, _, rfl, _, _, rfl, .inr ⟨h1, ?_⟩⟩⟩
    refine cat_all h2 h1 (by rw [List.length_map, List.length_map]; exact Nat.le_of_lt (small _ (by omega))) fun H1 tz k1 hz => ?_
    rw [← List.map_append] at hz
    refine ⟨_, tg, tz, gts, gs, zb ++ zs, rfl, k1.sqT g1, g2.kp k1, a, hz, e.1, e.2.1, fun H2 p2 k2 hp2 => ?_⟩
    have k12 := k1.trans k2
    have ed2 := k12.at_ _ _ ed (by simp)
    have hnl : (nodes (zb ++ zs).length gs).length = (zb ++ zs).length + 1 + gs.length := nodes_len _ _
    refine ⟨_, rfl, _, _, rfl, dg_own ed2 (own_nexts _ _ _ _ _ _), _, rfl, ⟨_, k12.sqT g4⟩, fun D nD => ?_⟩
    refine lc_it walk_tup (fun j H' => Kp [] H2 H' ∧ H' D = some (.lst (((ns.take j).map fun l => lm (nodes (zb ++ zs).length gs) l (zb ++ zs)).map bval))) ⟨Kp.refl.new nD, upd_same⟩ (fun j H' _ ⟨kk, _⟩ => kk.sqT (k12.sqT g4)) ?_ ?_
    · rintro j v H3 H4 hj ⟨kk, eD⟩ ⟨rfl, gv⟩
      obtain ⟨l, gl, rfl⟩ := get_map gv
      have hl := b l (List.mem_of_getElem? gl)
      refine ⟨rfl, ?_⟩
      refine ⟨_, rfl, _, rfl, p2, _, zb ++ zs, l, rfl, SqL.of (kk.at_ _ _ hp2 (by simp)), by rw [hnl]; unfold Ok at hl; omega, _, eD, ?_, kk.put nD, ?_⟩
      · rw [List.length_map, List.length_map]
        rw [List.length_take]
        exact small _ (by have := e.2.2; omega)
      · rw [upd_same, List.take_add_one, gl, List.map_append, List.map_append]; rfl
    · rintro H3 ⟨kk, eD⟩
      rw [List.length_map, List.take_length] at eD
      refine ⟨_, _, rfl, .inl ⟨SqL.of eD, fun p np => ?_⟩⟩
      have k3 := kk.new (o := .tup ((ns.map fun l => lm (nodes (zb ++ zs).length gs) l (zb ++ zs)).map bval)) np
      have k13 := k12.trans k3
      refine ⟨_, rfl, _, rfl, _, _, rfl, dg_own (k13.at_ _ _ ed (by simp)) (own_wish _ _ _ _ _ _), p2, _, zb ++ zs, w', rfl, SqL.of (k3.at_ _ _ hp2 (by simp)), by rw [hnl]; unfold Ok at c; omega, ?_⟩
      refine ⟨(by show 2 ≤ sizeLine; decide), fun t nt => ?_⟩
      exact q _ t p (k13.new nt) (SqT.of upd_same) ((Kp.refl.new nt (S := [])).sqT (SqT.of upd_same))
/-! ### the word of the wish -/
def gN (its : List It0) : List Str := (sel "input" its).map (·.1)
def hN (its : List It0) : List Str := (sel "reg" its).map (·.1)
theorem inV_str {x : Str} {l : List Str} : inV (.str x) (l.map V.str) = true ↔ x ∈ l := by
  unfold inV
  rw [List.any_map, List.any_eq_true]
  constructor
  · rintro ⟨y, hy, e⟩
    have e' : (y == x) = true := e
    have := eq_of_beq e'
    subst this; exact hy
  · intro h
    exact ⟨x, h, (beq_self_eq_true x : (x == x) = true)⟩
theorem inV_strF {x : Str} {l : List Str} (h : x ∉ l) : inV (.str x) (l.map V.str) = false := by
  cases e : inV (.str x) (l.map V.str) with
  | true => exact absurd (inV_str.mp e) h
  | false => rfl
theorem strs_flat (l : List Str) : (l.map V.str).all flatV = true := by
  rw [List.all_map, List.all_eq_true]; intro x _; rfl
theorem first_at {x : Str} : ∀ {l : List Str}, x ∈ l → ∃ j : Nat, l[j]? = some x ∧ ∀ (m : Nat) (y : Str), m < j → l[m]? = some y → ¬ y = x
  | [], h => nomatch h
  | a :: l, h => by
    by_cases e : a = x
    · exact ⟨0, by rw [e]; rfl, fun m y hm => absurd hm (Nat.not_lt_zero _)⟩
    · obtain ⟨j, h1, h2⟩ := first_at (l := l) (by
        rcases List.mem_cons.mp h with z | z
        · exact absurd z.symm e
        · exact z)
      refine ⟨j + 1, h1, fun m y hm hy => ?_⟩
      cases m with
      | zero => rw [← Option.some.inj hy]; exact e
      | succ m => exact h2 m y (by omega) hy
theorem index_str {H : Hp} {Q : VK} {a : Addr} {l : List Str} {x : Str} {j : Nat} (hs : SqL K H a (l.map V.str)) (h1 : l[j]? = some x) (h2 : ∀ (m : Nat) (y : Str), m < j → l[m]? = some y → ¬ y = x) (q : Q (.int (j : Nat)) H) : rIndex K (.ref a) [.str x] H Q := by
  refine ⟨a, _, .str x, j, .str x, rfl, rfl, hs, rfl, strs_flat l, put_map h1, (beq_self_eq_true x : (x == x) = true), fun m z hm hz => ?_, q⟩
  obtain ⟨y, hy, rfl⟩ := get_map hz
  show (y == x) = false
  exact beq_eq_false_iff_ne.mpr (h2 m y hm hy)
theorem valV_mem : ∀ {kvs : List (Key × V)} {k : Key} {v : V}, (kvs.map (·.1)).Nodup → (k, v) ∈ kvs → valV kvs k = some v
  | [], _, _, _, h => nomatch h
  | p :: r, k, v, hn, h => by
    rw [List.map_cons, List.nodup_cons] at hn
    rcases List.mem_cons.mp h with z | z
    · rw [← z]; exact valV_pos rfl
    · rw [valV_neg (fun e => hn.1 (by rw [e]; exact List.mem_map_of_mem z))]
      exact valV_mem hn.2 z
def sgK (sg : List (Str × Nat)) : List (Key × V) := sg.map fun x => (Sum.inr x.1, nV x.2)
theorem sgK_nodup {sg : List (Str × Nat)} (h : (sg.map (·.1)).Nodup) : ((sgK sg).map (·.1)).Nodup := by
  unfold sgK
  rw [List.map_map]
  have e : ((fun x : Key × V => x.1) ∘ fun x : Str × Nat => ((Sum.inr x.1 : Key), nV x.2)) = (fun s : Str => (Sum.inr s : Key)) ∘ fun x : Str × Nat => x.1 := rfl
  rw [e, ← List.map_map]
  exact List.Pairwise.map _ (fun _ _ hne z => hne (Sum.inr.inj z)) h
/-- the signals' tuple -/
def SgAt (K : PySem.W.Frag) (H : Hp) (t : Addr) (sg : List (Str × Nat)) : Prop := ∃ ps, H t = some (pxt t ps) ∧ Paired (fun p (kv : Key × V) => SqT K H p [kV kv.1, kv.2]) ps (sgK sg)
theorem SgAt.kp {H H' : Hp} {t : Addr} {sg : List (Str × Nat)} (x : SgAt K H t sg) (k : Kp [] H H') : SgAt K H' t sg := by
  obtain ⟨ps, h1, h2⟩ := x
  exact ⟨ps, k.at_ _ _ h1 (by simp), Paired.mapP h2 fun _ _ z => k.sqT z⟩
def spWishW (K : PySem.W.Frag) : Sp := fun vs H Q _ => ∃ (D : Addr) (nm : Str) (its : List It0) (x : Str) (ts tw tg : Addr) (sts ws : List Nat) (sg : List (Str × Nat)) (r : Nat), vs = [.ref D, .str x, .ref ts, .ref tw, .ref tg] ∧ DsAt K H D nm its ∧ its.length ≤ 100 ∧ SqT K H ts (sts.map nV) ∧ SqT K H tw (ws.map nV) ∧ SgAt K H tg sg ∧ sg.length ≤ 1000 ∧ (sg.map (·.1)).Nodup ∧
  (∀ i : Nat, (gN its)[i]? = some x → ws[i]? = some r) ∧ (∀ i : Nat, (hN its)[i]? = some x → sts[i]? = some r) ∧ (x ∉ gN its → x ∉ hN its → (x, r) ∈ sg) ∧ ∀ H', Kp [] H H' → Q (.int (r : Int)) H'
abbrev nm_law_wish_word : List Str := ["_law_design", "_law_wish", "_law_state", "_law_words", "_law_signals", "_law_given", "_law_held", "_law_item"]
theorem sc_law_wish_word : FnScope nm_law_wish_word ["_law_design", "_law_wish", "_law_state", "_law_words", "_law_signals"] (C8.fnScope (st 59)) := C8.fnScope_by (by decide +kernel)
theorem cal_law_wish_word (T : Top K mg) : C8.Cal P w K mg base (1) "_law_wish_word" (spWishW K) [] := by
  refine calD T.d__law_wish_word sc_law_wish_word (fun vs H Q E h => ?_) (fun f cdv A outer s0 H vs Q E hr h => ?_)
  ·
    obtain ⟨D, nm, its, x, ts, tw, tg, sts, ws, sg, r, rfl, _⟩ := h; rfl
  ·
    obtain ⟨D, nm, its, x, ts, tw, tg, sts, ws, sg, r, rfl, ⟨M, I, hD, hM⟩, hz, hS, hW, hG, hgz, hgn, c1, c2, c3, q⟩ := h
    have hu := hu_of hr
    refine ⟨_, (pss_cons (ps_setLc (i := 5) (own := [("_law_item", 7)]) (g := (gName 7))  rfl sc_law_wish_word.nd rfl rfl (sw_true rfl rfl rfl (by decide +kernel)) (pi_tup (pe_ix ix_tup (pe_ix ix_tup (pv 0) pe_int (fun _ _ => rfl)) pe_int (fun _ _ => rfl))) (blkOk_by (own := [("_law_item", 7)]) (N := nm_law_wish_word) (sc := C8.fnScope (st 59)) (by decide +kernel)) (fun _ _ _ _ _ => (pg_name (i := 7) sc_law_wish_word.nd rfl (Or.inl rfl))) (fun _ _ _ _ _ => (pts_one (pt_cmpR op_eq (pe_ix (ix_tupK (K := K) rfl) (pv 7) pe_int (fun _ _ => rfl)) pe_str (nomark _)))) (fun _ _ _ _ _ => (pe_ix (ix_tupK (K := K) rfl) (pv 7) pe_int (fun _ _ => rfl))))
      (pss_cons (ps_setLc (i := 6) (own := [("_law_item", 7)]) (g := (gName 7))  rfl sc_law_wish_word.nd rfl rfl (sw_true rfl rfl rfl (by decide +kernel)) (pi_tup (pe_ix ix_tup (pe_ix ix_tup (pv 0) pe_int (fun _ _ => rfl)) pe_int (fun _ _ => rfl))) (blkOk_by (own := [("_law_item", 7)]) (N := nm_law_wish_word) (sc := C8.fnScope (st 59)) (by decide +kernel)) (fun _ _ _ _ _ => (pg_name (i := 7) sc_law_wish_word.nd rfl (Or.inl rfl))) (fun _ _ _ _ _ => (pts_one (pt_cmpR op_eq (pe_ix (ix_tupK (K := K) rfl) (pv 7) pe_int (fun _ _ => rfl)) pe_str (nomark _)))) (fun _ _ _ _ _ => (pe_ix (ix_tupK (K := K) rfl) (pv 7) pe_int (fun _ _ => rfl))))
      (pss_cons (ps_if (pt_cmpR op_in_seq (pv 1) (pv 5) (by rfl)) (pss_one (ps_ret (pe_ix ix_tup (pv 3) (pe_bm PySem.F.plainAttrs_list PySem.F.slot_list_index PySem.F.type_list_index mt_index (pv 5) (pa_cons (pv 1) pa_nil)) (fun _ _ => rfl)))) pss_nil)
      (pss_one (ps_ret (pe_ifExp (pt_cmpR op_in_seq (pv 1) (pv 6) (by rfl)) (pe_ix ix_tup (pv 2) (pe_bm PySem.F.plainAttrs_list PySem.F.slot_list_index PySem.F.type_list_index mt_index (pv 6) (pa_cons (pv 1) pa_nil)) (fun _ _ => rfl)) (pe_dget hu (pe_callTy (call_dictX rfl) (by rfl) T.f_dict PyProof.Rows.boot_dict (pa_cons (pv 4) pa_nil)) (pv 1) (fun _ _ => rfl)))))))), ?_⟩
    obtain ⟨vs, hT, hP⟩ := hM.2
    have snc : ∀ (c : Str) {i : Nat} {it : It0}, its[i]? = some it → (sel c (its.take (i + 1))).map (fun x => V.str x.1) = if it.kd = c then (sel c (its.take i)).map (fun x => V.str x.1) ++ [.str it.nm] else (sel c (its.take i)).map (fun x => V.str x.1) := fun c i it gi => by
      rw [sel_snoc c gi]; split <;> simp
    refine ⟨_, rfl, _, _, _, _, rfl, rfl, hD, atI_nat (j := 0) rfl, _, _, _, _, rfl, rfl, hM.1, atI_nat (j := 2) rfl, _, rfl, ⟨_, hT⟩, fun B nB => ?_⟩
    have turn : ∀ (c : Str) (B : Addr) (Hb : Hp), True := fun _ _ _ => trivial
    refine lc_it walk_tup (fun i H' => H' B = some (.lst ((sel "input" (its.take i)).map fun x => V.str x.1)) ∧ Kp [] H H') ⟨upd_same, Kp.refl.new nB⟩ (fun i H' _ ⟨_, kk⟩ => kk.sqT hT) ?_ ?_
    · rintro i v H2 H3 hi ⟨eB, kk⟩ ⟨rfl, gv⟩
      obtain ⟨it, gi, hit⟩ := Paired.getR hP gv
      obtain ⟨p, xs, rfl, hp, _⟩ := ItAt.kp kk hit
      have ll := sel_len "input" (its.take i)
      rw [List.length_take] at ll
      refine ⟨rfl, ?_⟩
      refine ⟨_, rfl, _, _, _, _, rfl, rfl, hp, atI_nat (j := 0) rfl, rfl, _, rfl, ?_⟩
      by_cases hk : it.kd = "input"
      · refine ifStrT hk ?_
        refine ⟨_, rfl, _, _, _, _, rfl, rfl, hp, atI_nat (j := 1) rfl, _, eB, small _ (by rw [List.length_map]; omega), ?_, kk.put nB⟩
        rw [upd_same, snc _ gi, if_pos hk]
      · refine ifStrF hk ?_
        exact ⟨by rw [snc _ gi, if_neg hk]; exact eB, kk⟩
    · rintro H1 ⟨eB, k1⟩
      have hlen : its.take vs.length = its := by rw [← Paired.len hP, List.take_length]
      rw [hlen] at eB
      have eB1 : H1 B = some (.lst ((gN its).map V.str)) := by rw [eB]; unfold gN; rw [List.map_map]; rfl
      refine ⟨_, rfl, _, _, _, _, rfl, rfl, k1.sqT hD, atI_nat (j := 0) rfl, _, _, _, _, rfl, rfl, k1.sqT hM.1, atI_nat (j := 2) rfl, _, rfl, ⟨_, k1.sqT hT⟩, fun C nC => ?_⟩
      refine lc_it walk_tup (fun i H' => H' C = some (.lst ((sel "reg" (its.take i)).map fun x => V.str x.1)) ∧ Kp [] H1 H') ⟨upd_same, Kp.refl.new nC⟩ (fun i H' _ ⟨_, kk⟩ => kk.sqT (k1.sqT hT)) ?_ ?_
      · rintro i v H2 H3 hi ⟨eC, kk⟩ ⟨rfl, gv⟩
        obtain ⟨it, gi, hit⟩ := Paired.getR hP gv
        obtain ⟨p, xs, rfl, hp, _⟩ := ItAt.kp (k1.trans kk) hit
        have ll := sel_len "reg" (its.take i)
        rw [List.length_take] at ll
        refine ⟨rfl, ?_⟩
        refine ⟨_, rfl, _, _, _, _, rfl, rfl, hp, atI_nat (j := 0) rfl, rfl, _, rfl, ?_⟩
        by_cases hk : it.kd = "reg"
        · refine ifStrT hk ?_
          refine ⟨_, rfl, _, _, _, _, rfl, rfl, hp, atI_nat (j := 1) rfl, _, eC, small _ (by rw [List.length_map]; omega), ?_, kk.put nC⟩
          rw [upd_same, snc _ gi, if_pos hk]
        · refine ifStrF hk ?_
          exact ⟨by rw [snc _ gi, if_neg hk]; exact eC, kk⟩
      · rintro H2 ⟨eC, k2⟩
        rw [hlen] at eC
        have eC1 : H2 C = some (.lst ((hN its).map V.str)) := by rw [eC]; unfold hN; rw [List.map_map]; rfl
        have eB2 := k2.at_ _ _ eB1 (by simp)
        have k12 := k1.trans k2
        refine ⟨_, rfl, _, rfl, _, _, rfl, .inl (SqL.of eB2), rfl, strs_flat _, _, rfl, ?_⟩
        by_cases hg : x ∈ gN its
        · refine ifBT (inV_str.mpr hg) ?_
          obtain ⟨j, f1, f2⟩ := first_at hg
          refine ⟨_, rfl, _, rfl, .inl ⟨rfl, _, SqL.of eB2⟩, _, rfl, ?_⟩
          dsimp only [tNil]
          refine index_str (SqL.of eB2) f1 f2 ?_
          exact ⟨_, _, _, _, rfl, rfl, k12.sqT hW, atI_nat (j := j) (put_map (c1 j f1)), q H2 k12⟩
        · refine ifBF (inV_strF hg) ?_
          refine ⟨_, rfl, _, rfl, _, _, rfl, .inl (SqL.of eC1), rfl, strs_flat _, _, rfl, ?_⟩
          by_cases hh : x ∈ hN its
          · refine ifBT (inV_str.mpr hh) ?_
            obtain ⟨j, f1, f2⟩ := first_at hh
            refine ⟨_, rfl, _, rfl, .inl ⟨rfl, _, SqL.of eC1⟩, _, rfl, ?_⟩
            dsimp only [tNil]
            refine index_str (SqL.of eC1) f1 f2 ?_
            exact ⟨_, _, _, _, rfl, rfl, k12.sqT hS, atI_nat (j := j) (put_map (c2 j f1)), q H2 k12⟩
          · refine ifBF (inV_strF hh) ?_
            obtain ⟨ps, g1, g2⟩ := hG.kp k12
            have hpl : ps.length ≤ 1000 := by
              have := Paired.len g2
              unfold sgK at this
              rw [List.length_map] at this
              omega
            refine ⟨_, rfl, tg, ps, sgK sg, rfl, g1, hpl, g2, fun d nd => ?_⟩
            have em : mergeK [] (sgK sg) = sgK sg := mergeK_nodup _ [] (by rw [List.nil_append]; exact sgK_nodup hgn)
            rw [em]
            have hv : valV (sgK sg) (Sum.inr x) = some (nV r) := valV_mem (sgK_nodup hgn) (List.mem_map_of_mem (f := fun x : Str × Nat => ((Sum.inr x.1 : Key), nV x.2)) (c3 hg hh))
            exact ⟨_, rfl, _, _, rfl, dg_own upd_same hv, q _ (k12.new nd)⟩
end
end K14
set_option maxHeartbeats 200000
/-! a cycle of a module, in plain words -/
namespace K14
open PySem PySem.Spec PyProof.Rows L2
structure CS where
  we : Str → Nat
  env : Str → Nat
  nI : Nat
  nR : Nat
  sg : List (Str × Nat)
  held : List Str
  bh : Str → Nat
  nx : List (Str × Nat)
def CS.start : CS := ⟨fun _ => 0, fun _ => 0, 0, 0, [], [], fun _ => 0, []⟩
def cstep (ws ss : List Nat) (s : CS) : It0 → CS
  | .inp x w => { s with we := updS s.we x w, env := updS s.env x (ws.getD s.nI 0), nI := s.nI + 1 }
  | .reg x w _ => { s with we := updS s.we x w, env := updS s.env x (ss.getD s.nR 0), nR := s.nR + 1, held := s.held ++ [x], bh := updS s.bh x (ss.getD s.nR 0) }
  | .sig _ x w e => { s with we := updS s.we x w, env := updS s.env x (e.ev s.we s.env), sg := s.sg ++ [(x, e.ev s.we s.env)] }
  | .nxt x e => { s with nx := s.nx ++ [(x, e.ev s.we s.env)] }
def cst (ws ss : List Nat) (its : List It0) : CS := its.foldl (cstep ws ss) CS.start
theorem cst_snoc (ws ss : List Nat) {its : List It0} {i : Nat} {it : It0} (h : its[i]? = some it) : cst ws ss (its.take (i + 1)) = cstep ws ss (cst ws ss (its.take i)) it := by
  unfold cst
  rw [List.take_add_one, h, List.foldl_append]; rfl
def cwstep (we : Str → Nat) : It0 → Str → Nat
  | .inp x w => updS we x w
  | .reg x w _ => updS we x w
  | .sig _ x w _ => updS we x w
  | .nxt _ _ => we
def cwe (its : List It0) : Str → Nat := its.foldl cwstep fun _ => 0
theorem cwe_snoc (its : List It0) (it : It0) : cwe (its ++ [it]) = cwstep (cwe its) it := by unfold cwe; rw [List.foldl_append]; rfl
theorem cst_app1 (ws ss : List Nat) (its : List It0) (it : It0) : cst ws ss (its ++ [it]) = cstep ws ss (cst ws ss its) it := by unfold cst; rw [List.foldl_append]; rfl
theorem cst_we (ws ss : List Nat) (its : List It0) : (cst ws ss its).we = cwe its := by
  induction its using list_snoc with
  | h0 => rfl
  | h1 l a ih =>
    rw [cst_app1, cwe_snoc, ← ih]
    cases a <;> rfl
theorem sel_app (c : Str) (a b : List It0) : sel c (a ++ b) = sel c a ++ sel c b := by unfold sel; rw [List.filterMap_append]
theorem wI_app (a b : List It0) : wI (a ++ b) = wI a ++ wI b := by unfold wI; rw [sel_app, List.map_append]
theorem wR_app (a b : List It0) : wR (a ++ b) = wR a ++ wR b := by unfold wR; rw [sel_app, List.map_append]
theorem sel_one (c : Str) (it : It0) : sel c [it] = if it.kd = c then [(it.nm, it.wd)] else [] := by
  unfold sel leafOf
  by_cases h : it.kd = c
  · simp [h]
  · simp [h]
theorem sel_yes {c : Str} {it : It0} (h : it.kd = c) : sel c [it] = [(it.nm, it.wd)] := by rw [sel_one, if_pos h]
theorem sel_no {c : Str} {it : It0} (h : ¬ it.kd = c) : sel c [it] = [] := by rw [sel_one, if_neg h]
theorem wI_inp (x : Str) (w : Nat) : wI [.inp x w] = [w] := by unfold wI; rw [sel_yes (c := "input") (it := .inp x w) rfl]; rfl
theorem wI_reg (x : Str) (w r : Nat) : wI [.reg x w r] = [] := by unfold wI; rw [sel_no (it := .reg x w r) (show ¬ ("reg" : Str) = "input" from nm_ne (by decide +kernel))]; rfl
theorem wI_nxt (x : Str) (e : Ex) : wI [.nxt x e] = [] := by unfold wI; rw [sel_no (it := .nxt x e) (show ¬ ("next" : Str) = "input" from nm_ne (by decide +kernel))]; rfl
theorem wI_sig (o : Bool) (x : Str) (w : Nat) (e : Ex) : wI [.sig o x w e] = [] := by
  unfold wI
  cases o
  · rw [sel_no (it := .sig false x w e) (show ¬ ("wire" : Str) = "input" from nm_ne (by decide +kernel))]; rfl
  · rw [sel_no (it := .sig true x w e) (show ¬ ("output" : Str) = "input" from nm_ne (by decide +kernel))]; rfl
theorem wR_inp (x : Str) (w : Nat) : wR [.inp x w] = [] := by unfold wR; rw [sel_no (it := .inp x w) (show ¬ ("input" : Str) = "reg" from nm_ne (by decide +kernel))]; rfl
theorem wR_reg (x : Str) (w r : Nat) : wR [.reg x w r] = [w] := by unfold wR; rw [sel_yes (c := "reg") (it := .reg x w r) rfl]; rfl
theorem wR_nxt (x : Str) (e : Ex) : wR [.nxt x e] = [] := by unfold wR; rw [sel_no (it := .nxt x e) (show ¬ ("next" : Str) = "reg" from nm_ne (by decide +kernel))]; rfl
theorem wR_sig (o : Bool) (x : Str) (w : Nat) (e : Ex) : wR [.sig o x w e] = [] := by
  unfold wR
  cases o
  · rw [sel_no (it := .sig false x w e) (show ¬ ("wire" : Str) = "reg" from nm_ne (by decide +kernel))]; rfl
  · rw [sel_no (it := .sig true x w e) (show ¬ ("output" : Str) = "reg" from nm_ne (by decide +kernel))]; rfl
theorem cst_nI (ws ss : List Nat) (its : List It0) : (cst ws ss its).nI = (wI its).length := by
  induction its using list_snoc with
  | h0 => rfl
  | h1 l a ih =>
    rw [cst_app1, wI_app, List.length_append, ← ih]
    cases a with
    | inp x w => rw [wI_inp]; rfl
    | reg x w r => rw [wI_reg]; rfl
    | sig o x w e => rw [wI_sig]; rfl
    | nxt x e => rw [wI_nxt]; rfl
theorem cst_nR (ws ss : List Nat) (its : List It0) : (cst ws ss its).nR = (wR its).length := by
  induction its using list_snoc with
  | h0 => rfl
  | h1 l a ih =>
    rw [cst_app1, wR_app, List.length_append, ← ih]
    cases a with
    | inp x w => rw [wR_inp]; rfl
    | reg x w r => rw [wR_reg]; rfl
    | sig o x w e => rw [wR_sig]; rfl
    | nxt x e => rw [wR_nxt]; rfl
theorem cst_held (ws ss : List Nat) (its : List It0) : (cst ws ss its).held = hN its := by
  induction its using list_snoc with
  | h0 => rfl
  | h1 l a ih =>
    have e0 : hN (l ++ [a]) = hN l ++ hN [a] := by unfold hN; rw [sel_app, List.map_append]
    rw [cst_app1, e0, ← ih]
    have en : ∀ it : It0, ¬ it.kd = "reg" → hN [it] = [] := fun it h => by unfold hN; rw [sel_no h]; rfl
    have ey : ∀ it : It0, it.kd = "reg" → hN [it] = [it.nm] := fun it h => by unfold hN; rw [sel_yes h]; rfl
    cases a with
    | inp x w => rw [en (.inp x w) (show ¬ ("input" : Str) = "reg" from nm_ne (by decide +kernel))]; exact (List.append_nil _).symm
    | reg x w r => rw [ey (.reg x w r) rfl]; rfl
    | sig o x w e =>
      cases o
      · rw [en (.sig false x w e) (show ¬ ("wire" : Str) = "reg" from nm_ne (by decide +kernel))]; exact (List.append_nil _).symm
      · rw [en (.sig true x w e) (show ¬ ("output" : Str) = "reg" from nm_ne (by decide +kernel))]; exact (List.append_nil _).symm
    | nxt x e => rw [en (.nxt x e) (show ¬ ("next" : Str) = "reg" from nm_ne (by decide +kernel))]; exact (List.append_nil _).symm
theorem cst_held_len (ws ss : List Nat) (its : List It0) : (cst ws ss its).held.length = (cst ws ss its).nR := by
  rw [cst_held, cst_nR]; unfold hN wR; rw [List.length_map, List.length_map]
theorem cst_lens (ws ss : List Nat) (its : List It0) : (cst ws ss its).sg.length ≤ its.length ∧ (cst ws ss its).nx.length ≤ its.length := by
  induction its using list_snoc with
  | h0 => exact ⟨Nat.le_refl _, Nat.le_refl _⟩
  | h1 l a ih =>
    rw [cst_app1, List.length_append]
    cases a <;> simp [cstep] <;> omega
/-- an item at its place -/
def ItOk (we : Str → Nat) : It0 → Prop
  | .sig _ _ w e => e.ok we ∧ e.wd we = w ∧ e.dep < maxDep
  | .nxt _ e => e.ok we ∧ e.dep < maxDep
  | _ => True
def CycOk (its : List It0) : Prop := ∀ (i : Nat) (it : It0), its[i]? = some it → ItOk (cwe (its.take i)) it
theorem Paired.getP {α β : Type} {F : α → β → Prop} : ∀ {l₁ : List α} {l₂ : List β}, Paired F l₁ l₂ → ∀ {i : Nat} {x : α} {y : β}, l₁[i]? = some x → l₂[i]? = some y → F x y
  | _, _, .nil, i, x, y, h, _ => by simp at h
  | _, _, .cons hd tl, 0, x, y, h, h' => by cases (Option.some.inj h); cases (Option.some.inj h'); exact hd
  | _, _, .cons hd tl, i + 1, x, y, h, h' => Paired.getP tl (i := i) h h'
theorem Fits.get {xs ws : List Nat} (h : Fits xs ws) {i w : Nat} (e : ws[i]? = some w) : ∃ x, xs[i]? = some x ∧ x < 2 ^ w := Paired.getR h e
/-- the value of leaf it, at its turn -/
theorem wI_at {its : List It0} {i : Nat} {x : Str} {w : Nat} (h : its[i]? = some (.inp x w)) : (wI its)[(wI (its.take i)).length]? = some w := by
  have e : its = its.take i ++ .inp x w :: its.drop (i + 1) := by
    have h1 := (List.getElem?_eq_some_iff.mp h)
    obtain ⟨hl, hv⟩ := h1
    rw [← hv, List.getElem_cons_drop, List.take_append_drop]
  conv => lhs; rw [e]
  rw [List.take_append_of_le_length (by rw [List.length_take]; have := (List.getElem?_eq_some_iff.mp h).1; omega)]
  rw [show its.take i ++ It0.inp x w :: its.drop (i + 1) = its.take i ++ ([.inp x w] ++ its.drop (i + 1)) from rfl, wI_app, wI_app, wI_inp]
  rw [show (its.take i).take i = its.take i by rw [List.take_take, Nat.min_self]]
  rw [List.getElem?_append_right (Nat.le_refl _), Nat.sub_self]; rfl
theorem wR_at {its : List It0} {i : Nat} {x : Str} {w r : Nat} (h : its[i]? = some (.reg x w r)) : (wR its)[(wR (its.take i)).length]? = some w := by
  have e : its = its.take i ++ .reg x w r :: its.drop (i + 1) := by
    have h1 := (List.getElem?_eq_some_iff.mp h)
    obtain ⟨hl, hv⟩ := h1
    rw [← hv, List.getElem_cons_drop, List.take_append_drop]
  conv => lhs; rw [e]
  rw [List.take_append_of_le_length (by rw [List.length_take]; have := (List.getElem?_eq_some_iff.mp h).1; omega)]
  rw [show its.take i ++ It0.reg x w r :: its.drop (i + 1) = its.take i ++ ([.reg x w r] ++ its.drop (i + 1)) from rfl, wR_app, wR_app, wR_reg]
  rw [show (its.take i).take i = its.take i by rw [List.take_take, Nat.min_self]]
  rw [List.getElem?_append_right (Nat.le_refl _), Nat.sub_self]; rfl
/-- names keep their bounds -/
def EnvOk (we env : Str → Nat) : Prop := ∀ x, env x < 2 ^ we x
theorem EnvOk.upd {we env : Str → Nat} (h : EnvOk we env) {x : Str} {w v : Nat} (hv : v < 2 ^ w) : EnvOk (updS we x w) (updS env x v) := fun y => by
  unfold updS
  by_cases e : y = x
  · rw [if_pos e, if_pos e]; exact hv
  · rw [if_neg e, if_neg e]; exact h y
def bhFin (s : CS) : Str → Nat := s.nx.foldl (fun b p => updS b p.1 p.2) s.bh
def outs (s : CS) : List Nat := s.held.map (bhFin s)
end K14
/-! a cycle's own objects -/
namespace K14
open PySem PySem.Spec PyProof.Rows L2
structure CA where
  nd : Addr
  sl : Addr
  hl : Addr
  bd : Addr
  pl : Addr
structure CaOk (H0 : Hp) (a : CA) : Prop where
  f1 : H0 a.nd = none
  f2 : H0 a.sl = none
  f3 : H0 a.hl = none
  f4 : H0 a.bd = none
  f5 : H0 a.pl = none
  d12 : a.nd ≠ a.sl
  d13 : a.nd ≠ a.hl
  d14 : a.nd ≠ a.bd
  d15 : a.nd ≠ a.pl
  d23 : a.sl ≠ a.hl
  d24 : a.sl ≠ a.bd
  d25 : a.sl ≠ a.pl
  d34 : a.hl ≠ a.bd
  d35 : a.hl ≠ a.pl
  d45 : a.bd ≠ a.pl
def SgP (K : PySem.W.Frag) (H : Hp) (ps : List Addr) (sg : List (Str × Nat)) : Prop := Paired (fun p (kv : Key × V) => SqT K H p [kV kv.1, kv.2]) ps (sgK sg)
def NxP (K : PySem.W.Frag) (H : Hp) (qs : List Addr) (nx : List (Str × Nat)) : Prop := Paired (fun q (p : Str × Nat) => SqT K H q [.str p.1, nV p.2, .non]) qs nx
def NmP (K : PySem.W.Frag) (H : Hp) (kvs : List (Key × V)) (we env : Str → Nat) : Prop := ∀ x, we x ≠ 0 → ∃ t, valV kvs (Sum.inr x) = some (.ref t) ∧ SqT K H t [.int (we x : Int), .int (env x : Int)]
structure CyAt (K : PySem.W.Frag) (H0 H : Hp) (a : CA) (s : CS) (m : Nat) : Prop where
  kp : Kp [] H0 H
  nm : ∃ kvs, H a.nd = some (.dK kvs) ∧ kvs.length ≤ m ∧ NmP K H kvs s.we s.env
  env : EnvOk s.we s.env
  sg : ∃ ps, H a.sl = some (.lst (ps.map V.ref)) ∧ SgP K H ps s.sg
  hd : H a.hl = some (.lst (s.held.map V.str))
  bd : ∃ kvs, H a.bd = some (.dK kvs) ∧ kvs.length ≤ m ∧ ∀ x, x ∈ s.held → valV kvs (Sum.inr x) = some (nV (s.bh x))
  nx : ∃ qs, H a.pl = some (.lst (qs.map V.ref)) ∧ NxP K H qs s.nx
section
variable {K : PySem.W.Frag} {H0 H H2 : Hp} {a : CA} {s : CS} {m : Nat} {x : Str} {t : Addr} {w v : Nat}
theorem SgP.kp {S : List Addr} {ps : List Addr} {sg : List (Str × Nat)} (h : SgP K H ps sg) (k : Kp S H H2) : SgP K H2 ps sg := Paired.mapP h fun _ _ z => k.sqT z
theorem NxP.kp {S : List Addr} {ps : List Addr} {sg : List (Str × Nat)} (h : NxP K H ps sg) (k : Kp S H H2) : NxP K H2 ps sg := Paired.mapP h fun _ _ z => k.sqT z
theorem NmP.kp {S : List Addr} {kvs : List (Key × V)} {we env : Str → Nat} (h : NmP K H kvs we env) (k : Kp S H H2) : NmP K H2 kvs we env := fun x n => let ⟨t, h1, h2⟩ := h x n; ⟨t, h1, k.sqT h2⟩
theorem CyAt.k0 (c : CyAt K H0 H a s m) (k : Kp [] H H2) : CyAt K H0 H2 a s m := by
  obtain ⟨c0, ⟨kv, n1, n2, n3⟩, c2, ⟨ps, s1, s2⟩, h1, ⟨bv, b1, b2, b3⟩, ⟨qs, q1, q2⟩⟩ := c
  have g : ∀ {b : Addr} {o : HO}, H b = some o → H2 b = some o := fun e => k.at_ _ _ e (fun z => nomatch z)
  exact ⟨c0.trans k, ⟨kv, g n1, n2, n3.kp k⟩, c2, ⟨ps, g s1, s2.kp k⟩, g h1, ⟨bv, g b1, b2, b3⟩, ⟨qs, g q1, q2.kp k⟩⟩
theorem CyAt.nmAt (c : CyAt K H0 H a s m) (hm : m ≤ 1000) : NmAt K H a.nd s.we s.env := by
  obtain ⟨kv, n1, n2, n3⟩ := c.nm
  exact ⟨⟨kv, n1, by omega, n3⟩⟩
theorem CyAt.putNm (c : CyAt K H0 H a s m) (o : CaOk H0 a) (hm : m < 1000) (ht : SqT K H t [.int (w : Int), .int (v : Int)]) (hv : v < 2 ^ w) :
    ∃ H2, DPut H a.nd (.str x) (.ref t) H2 ∧ CyAt K H0 H2 a { s with we := updS s.we x w, env := updS s.env x v } (m + 1) ∧ Kp [a.nd] H H2 ∧ DGet H2 a.nd (.str x) (some (.ref t)) := by
  obtain ⟨c0, ⟨kv, n1, n2, n3⟩, c2, ⟨ps, s1, s2⟩, h1, ⟨bv, b1, b2, b3⟩, ⟨qs, q1, q2⟩⟩ := c
  have k : Kp [a.nd] H (upd H a.nd (.dK (putK kv (Sum.inr x) (.ref t)))) := Kp.putD n1
  have g : ∀ {b : Addr} {o : HO}, b ≠ a.nd → H b = some o → (upd H a.nd (.dK (putK kv (Sum.inr x) (.ref t)))) b = some o := fun h e => (upd_ne h).trans e
  refine ⟨_, DPut.k (k := Sum.inr x) n1 (small _ (by omega)), ⟨c0.put o.f1, ⟨_, upd_same, by have := putK_len kv (Sum.inr x) (V.ref t); omega, fun y hy => ?_⟩, c2.upd hv, ⟨ps, g o.d12.symm s1, s2.kp k⟩, g o.d13.symm h1, ⟨bv, g o.d14.symm b1, by omega, b3⟩, ⟨qs, g o.d15.symm q1, q2.kp k⟩⟩, k, .inl ⟨_, Sum.inr x, .inl upd_same, rfl, by rw [valV_put, if_pos rfl]⟩⟩
  by_cases hxy : y = x
  · subst hxy
    refine ⟨t, by rw [valV_put, if_pos rfl], ?_⟩
    dsimp only
    rw [updS_same, updS_same]
    exact k.sqT ht
  · dsimp only at hy ⊢
    rw [updS_ne _ _ hxy] at hy
    obtain ⟨t', e1, e2⟩ := n3 y hy
    refine ⟨t', by rw [valV_put, if_neg (fun z => hxy (Sum.inr.inj z))]; exact e1, ?_⟩
    rw [updS_ne _ _ hxy, updS_ne _ _ hxy]
    exact k.sqT e2
theorem CyAt.putSg (c : CyAt K H0 H a s m) (o : CaOk H0 a) (ht : SqT K H t [.str x, .int (v : Int)]) :
    ∃ ps : List Addr, H a.sl = some (.lst (ps.map V.ref)) ∧ ps.length = s.sg.length ∧ CyAt K H0 (upd H a.sl (.lst (ps.map V.ref ++ [.ref t]))) a { s with sg := s.sg ++ [(x, v)] } m := by
  obtain ⟨c0, ⟨kv, n1, n2, n3⟩, c2, ⟨ps, s1, s2⟩, h1, ⟨bv, b1, b2, b3⟩, ⟨qs, q1, q2⟩⟩ := c
  have k : Kp [a.sl] H (upd H a.sl (.lst (ps.map V.ref ++ [.ref t]))) := Kp.putL s1
  have g : ∀ {b : Addr} {o : HO}, b ≠ a.sl → H b = some o → (upd H a.sl (.lst (ps.map V.ref ++ [.ref t]))) b = some o := fun h e => (upd_ne h).trans e
  have hl : ps.length = s.sg.length := by rw [Paired.len s2]; unfold sgK; rw [List.length_map]
  refine ⟨ps, s1, hl, ⟨c0.put o.f2, ⟨kv, g o.d12 n1, n2, n3.kp k⟩, c2, ⟨ps ++ [t], by rw [upd_same, List.map_append]; rfl, ?_⟩, g o.d23.symm h1, ⟨bv, g o.d24.symm b1, b2, b3⟩, ⟨qs, g o.d25.symm q1, q2.kp k⟩⟩⟩
  unfold SgP sgK
  rw [List.map_append]
  exact Paired.app (s2.kp k) (.cons (k.sqT ht) .nil)
theorem CyAt.putHd (c : CyAt K H0 H a s m) (o : CaOk H0 a) (hm : m < 1000) (v : Nat) :
    ∃ H2, DPut H a.bd (.str x) (.int (v : Int)) H2 ∧ H2 a.hl = some (.lst (s.held.map V.str)) ∧ Kp [a.bd] H H2 ∧ CyAt K H0 (upd H2 a.hl (.lst (s.held.map V.str ++ [.str x]))) a { s with held := s.held ++ [x], bh := updS s.bh x v } (m + 1) := by
  obtain ⟨c0, ⟨kv, n1, n2, n3⟩, c2, ⟨ps, s1, s2⟩, h1, ⟨bv, b1, b2, b3⟩, ⟨qs, q1, q2⟩⟩ := c
  have k : Kp [a.bd] H (upd H a.bd (.dK (putK bv (Sum.inr x) (.int (v : Int))))) := Kp.putD b1
  have h12 : (upd H a.bd (.dK (putK bv (Sum.inr x) (.int (v : Int))))) a.hl = some (.lst (s.held.map V.str)) := (upd_ne o.d34).trans h1
  have k2 : Kp [a.hl] _ (upd (upd H a.bd (.dK (putK bv (Sum.inr x) (.int (v : Int))))) a.hl (.lst (s.held.map V.str ++ [.str x]))) := Kp.putL h12
  have g : ∀ {b : Addr} {o : HO}, b ≠ a.bd → b ≠ a.hl → H b = some o → (upd (upd H a.bd (.dK (putK bv (Sum.inr x) (.int (v : Int))))) a.hl (.lst (s.held.map V.str ++ [.str x]))) b = some o := fun h h' e => (upd_ne h').trans ((upd_ne h).trans e)
  refine ⟨_, DPut.k (k := Sum.inr x) b1 (small _ (by omega)), h12, k, ⟨(c0.put o.f4).put o.f3, ⟨kv, g o.d14 o.d13 n1, by omega, (n3.kp k).kp k2⟩, c2, ⟨ps, g o.d24 o.d23 s1, (s2.kp k).kp k2⟩, ?_, ⟨_, (upd_ne o.d34.symm).trans upd_same, by have := putK_len bv (Sum.inr x) (V.int (v : Int)); omega, fun y hy => ?_⟩, ⟨qs, g o.d45.symm o.d35.symm q1, (q2.kp k).kp k2⟩⟩⟩
  · rw [upd_same, List.map_append]; rfl
  · rw [valV_put]
    dsimp only
    by_cases hxy : y = x
    · subst hxy; rw [if_pos rfl, updS_same]; rfl
    · rw [if_neg (fun z => hxy (Sum.inr.inj z)), updS_ne _ _ hxy]
      refine b3 y ?_
      rcases List.mem_append.mp hy with z | z
      · exact z
      · exact absurd (List.mem_singleton.mp z) hxy
theorem CyAt.putNx (c : CyAt K H0 H a s m) (o : CaOk H0 a) (ht : SqT K H t [.str x, .int (v : Int), .non]) :
    ∃ qs : List Addr, H a.pl = some (.lst (qs.map V.ref)) ∧ qs.length = s.nx.length ∧ CyAt K H0 (upd H a.pl (.lst (qs.map V.ref ++ [.ref t]))) a { s with nx := s.nx ++ [(x, v)] } m := by
  obtain ⟨c0, ⟨kv, n1, n2, n3⟩, c2, ⟨ps, s1, s2⟩, h1, ⟨bv, b1, b2, b3⟩, ⟨qs, q1, q2⟩⟩ := c
  have k : Kp [a.pl] H (upd H a.pl (.lst (qs.map V.ref ++ [.ref t]))) := Kp.putL q1
  have g : ∀ {b : Addr} {o : HO}, b ≠ a.pl → H b = some o → (upd H a.pl (.lst (qs.map V.ref ++ [.ref t]))) b = some o := fun h e => (upd_ne h).trans e
  refine ⟨qs, q1, Paired.len q2, ⟨c0.put o.f5, ⟨kv, g o.d15 n1, n2, n3.kp k⟩, c2, ⟨ps, g o.d25 s1, s2.kp k⟩, g o.d35 h1, ⟨bv, g o.d45 b1, b2, b3⟩, ⟨qs ++ [t], by rw [upd_same, List.map_append]; rfl, ?_⟩⟩⟩
  exact Paired.app (q2.kp k) (.cons (k.sqT ht) .nil)
theorem CyAt.putBd (c : CyAt K H0 H a s m) (o : CaOk H0 a) (hm : m < 1000) (v : Nat) :
    ∃ H2, DPut H a.bd (.str x) (.int (v : Int)) H2 ∧ Kp [a.bd] H H2 ∧ CyAt K H0 H2 a { s with bh := updS s.bh x v } (m + 1) := by
  obtain ⟨c0, ⟨kv, n1, n2, n3⟩, c2, ⟨ps, s1, s2⟩, h1, ⟨bv, b1, b2, b3⟩, ⟨qs, q1, q2⟩⟩ := c
  have k : Kp [a.bd] H (upd H a.bd (.dK (putK bv (Sum.inr x) (.int (v : Int))))) := Kp.putD b1
  have g : ∀ {b : Addr} {o : HO}, b ≠ a.bd → H b = some o → (upd H a.bd (.dK (putK bv (Sum.inr x) (.int (v : Int))))) b = some o := fun h e => (upd_ne h).trans e
  refine ⟨_, DPut.k (k := Sum.inr x) b1 (small _ (by omega)), k, ⟨c0.put o.f4, ⟨kv, g o.d14 n1, by omega, n3.kp k⟩, c2, ⟨ps, g o.d24 s1, s2.kp k⟩, g o.d34 h1, ⟨_, upd_same, by have := putK_len bv (Sum.inr x) (V.int (v : Int)); omega, fun y hy => ?_⟩, ⟨qs, g o.d45.symm q1, q2.kp k⟩⟩⟩
  rw [valV_put]
  dsimp only
  by_cases hxy : y = x
  · subst hxy; rw [if_pos rfl, updS_same]; rfl
  · rw [if_neg (fun z => hxy (Sum.inr.inj z)), updS_ne _ _ hxy]
    exact b3 y hy
theorem CyAt.mono {m' : Nat} (c : CyAt K H0 H a s m) (h : m ≤ m') : CyAt K H0 H a s m' := by
  obtain ⟨c0, ⟨kv, n1, n2, n3⟩, c2, c3, h1, ⟨bv, b1, b2, b3⟩, c5⟩ := c
  exact ⟨c0, ⟨kv, n1, by omega, n3⟩, c2, c3, h1, ⟨bv, b1, by omega, b3⟩, c5⟩
end
end K14
set_option maxHeartbeats 8000000
/-! a cycle of a module -/
namespace K14
open PySem PySem.Spec PyProof.Rows L2
section
variable {P : Program} {w : World} {K : PySem.W.Frag} {mg : Str → Option Value} {base : Heap}
def spCycle (K : PySem.W.Frag) : Sp := fun vs H Q _ => ∃ (D : Addr) (nm : Str) (its : List It0) (ts tw : Addr) (ss ws : List Nat), vs = [.ref D, .str nm, .ref ts, .ref tw] ∧ DsAt K H D nm its ∧ its.length ≤ 100 ∧ CycOk its ∧ Fits ss (wR its) ∧ Fits ws (wI its) ∧ SqT K H ts (ss.map nV) ∧ SqT K H tw (ws.map nV) ∧
  ∀ H' t tsg tb, Kp [] H H' → SqT K H' t [.ref tsg, .ref tb] → SgAt K H' tsg (cst ws ss its).sg → SqT K H' tb ((outs (cst ws ss its)).map nV) → Q (.ref t) H'
abbrev nm_law_cycle : List Str := ["_law_design", "_law_name", "_law_state", "_law_words", "_law_names", "_law_signals", "_law_held", "_law_given", "_law_behind", "_law_pending", "_law_item", "_law_kind", "_law_called", "_law_inner", "_law_told", "_law_word_here", "_law_output", "_law_place", "_law_row", "_law_one", "_law_port", "_law_part", "_law_signal"]
theorem sc_law_cycle : FnScope nm_law_cycle ["_law_design", "_law_name", "_law_state", "_law_words"] (C8.fnScope (st 51)) := C8.fnScope_by (by decide +kernel)
theorem cal_law_cycle (T : Top K mg) : C8.Cal P w K mg base (15) "_law_cycle" (spCycle K) [] := by
  refine calD T.d__law_cycle sc_law_cycle (fun vs H Q E h => ?_) (fun f cdv A outer s0 H vs Q E hr h => ?_)
  ·
    obtain ⟨D, nm, its, ts, tw, ss, ws, rfl, _⟩ := h; rfl
  ·
    obtain ⟨D, nm, its, ts, tw, ss, ws, rfl, ⟨M, I, hD, hM⟩, hz, hC, hfS, hfW, hS, hW, q⟩ := h
    have hu := hu_of hr
    refine ⟨_, (pss_cons (ps_asg (pe_tup (pa_cons pe_dnewK (pa_cons (pe_lst pa_nil) (pa_cons (pe_lst pa_nil) (pa_cons pe_int pa_nil))))) (pg_tup rfl (pgs_cons (pg_name (i := 4) sc_law_cycle.nd rfl (Or.inr rfl)) (pgs_cons (pg_name (i := 5) sc_law_cycle.nd rfl (Or.inl rfl)) (pgs_cons (pg_name (i := 6) sc_law_cycle.nd rfl (Or.inl rfl)) (pgs_cons (pg_name (i := 7) sc_law_cycle.nd rfl (Or.inl rfl)) pgs_nil))))))
      (pss_cons (ps_asg (pe_tup (pa_cons pe_dnewK (pa_cons (pe_lst pa_nil) pa_nil))) (pg_tup rfl (pgs_cons (pg_name (i := 8) sc_law_cycle.nd rfl (Or.inr rfl)) (pgs_cons (pg_name (i := 9) sc_law_cycle.nd rfl (Or.inl rfl)) pgs_nil))))
      (pss_cons (ps_for PassesOwn.never rfl (pi_tup (pe_ix ix_tup (C8.pe_c (cal_law_module T) hr (by decide) rfl (pa_cons (pv 0) (pa_cons (pv 1) pa_nil))) pe_int (fun _ _ => rfl))) (pg_name (i := 10) sc_law_cycle.nd rfl (Or.inl rfl)) (pss_cons (ps_asg (pe_tup (pa_cons (pe_ix ix_tup (pv 10) pe_int (fun _ _ => rfl)) (pa_cons (pe_ix ix_tup (pv 10) pe_int (fun _ _ => rfl)) pa_nil))) (pg_tup rfl (pgs_cons (pg_name (i := 11) sc_law_cycle.nd rfl (Or.inl rfl)) (pgs_cons (pg_name (i := 12) sc_law_cycle.nd rfl (Or.inr rfl)) pgs_nil))))
      (pss_one (ps_if (pt_cmpR op_eq (pv 11) pe_str (nomark _)) (pss_cons (ps_dput hu (pv 4) (pv 12) (pe_tup (pa_cons (pe_ix ix_tup (pv 10) pe_int (fun _ _ => rfl)) (pa_cons (pe_ix ix_tup (pv 3) (pv 7) (fun _ _ => rfl)) pa_nil))) rfl)
      (pss_one (ps_set (i := 7) sc_law_cycle.nd rfl (Or.inl rfl) (pe_op op_add (pv 7) pe_int)))) (pss_one (ps_if (pt_cmpR op_in_seq (pv 11) (pe_lst (pa_cons pe_str (pa_cons pe_str pa_nil))) (by rfl)) (pss_cons (ps_dput hu (pv 4) (pv 12) (pe_tup (pa_cons (pe_ix ix_tup (pv 10) pe_int (fun _ _ => rfl)) (pa_cons (pe_ix ix_tup (pv 2) (pe_callB call_len_seq (by rfl) T.f_len PySem.boot_len (pa_cons (pv 6) pa_nil)) (fun _ _ => rfl)) pa_nil))) rfl)
      (pss_cons (ps_dput hu (pv 8) (pv 12) (pe_ix ix_tup (pv 2) (pe_callB call_len_seq (by rfl) T.f_len PySem.boot_len (pa_cons (pv 6) pa_nil)) (fun _ _ => rfl)) rfl)
      (pss_one (ps_expr (pe_bm PySem.F.plainAttrs_list PySem.F.slot_list_append PySem.F.type_list_append mt_append (pv 6) (pa_cons (pv 12) pa_nil)))))) (pss_one (ps_if (pt_cmpR op_in_seq (pv 11) (pe_lst (pa_cons pe_str (pa_cons pe_str pa_nil))) (by rfl)) (pss_cons (ps_dput hu (pv 4) (pv 12) (C8.pe_c (cal_law_word T) hr (by decide) rfl (pa_cons (pe_ix ix_tup (pv 10) pe_int (fun _ _ => rfl)) (pa_cons (pv 4) pa_nil))) rfl)
      (pss_one (ps_expr (pe_bm PySem.F.plainAttrs_list PySem.F.slot_list_append PySem.F.type_list_append mt_append (pv 5) (pa_cons (pe_tup (pa_cons (pv 12) (pa_cons (pe_ix ix_tup (pe_dget hu (pv 4) (pv 12) (fun _ _ => rfl)) pe_int (fun _ _ => rfl)) pa_nil))) pa_nil))))) (pss_one (ps_if (pt_cmpR op_eq (pv 11) pe_str (nomark _)) pss_never (pss_one (ps_if (pt_cmpR op_eq (pv 11) pe_str (nomark _)) (pss_one (ps_expr (pe_bm PySem.F.plainAttrs_list PySem.F.slot_list_append PySem.F.type_list_append mt_append (pv 9) (pa_cons (pe_tup (pa_cons (pv 12) (pa_cons (pe_ix ix_tup (C8.pe_c (cal_law_word T) hr (by decide) rfl (pa_cons (pe_ix ix_tup (pv 10) pe_int (fun _ _ => rfl)) (pa_cons (pv 4) pa_nil))) pe_int (fun _ _ => rfl)) (pa_cons pe_non pa_nil)))) pa_nil)))) pss_never))))))))))))
      (pss_cons (ps_for PassesOwn.never rfl (pi_list (pv 9)) (pg_tup rfl (pgs_cons (pg_name (i := 12) sc_law_cycle.nd rfl (Or.inr rfl)) (pgs_cons (pg_name (i := 15) sc_law_cycle.nd rfl (Or.inl rfl)) (pgs_cons (pg_name (i := 17) sc_law_cycle.nd rfl (Or.inl rfl)) pgs_nil)))) (pss_one (ps_if (pt_cmpR op_isN (pv 17) pe_non (nomark _)) (pss_one (ps_dput hu (pv 8) (pv 12) (pv 15) rfl)) pss_never)))
      (pss_one (ps_ret (pe_tup (pa_cons (pe_callTy call_tuple_x (by rfl) T.f_tuple PyProof.Rows.boot_tuple (pa_cons (pv 5) pa_nil)) (pa_cons (pe_callTy call_tuple_of (by rfl) T.f_tuple PyProof.Rows.boot_tuple (pa_cons (pe_lc (own := [("_law_called", 12)]) (g := (gName 12)) (tt := tYes)  rfl sc_law_cycle.nd (pi_list (pv 6)) (blkOk_by (own := [("_law_called", 12)]) (N := nm_law_cycle) (sc := C8.fnScope (st 51)) (by decide +kernel)) (fun _ _ _ _ _ => (pg_name (i := 12) sc_law_cycle.nd rfl (Or.inl rfl))) (fun _ _ _ _ _ => pts_nil) (fun _ _ _ _ _ => (pe_dget hu (pv 8) (pv 12) (fun _ _ => rfl)))) pa_nil)) pa_nil))))))))), ?_⟩
    refine fun nd nnd => ⟨(by show 0 ≤ sizeLine; decide), fun sl nsl => ⟨(by show 0 ≤ sizeLine; decide), fun hl nhl => ⟨(by show 4 ≤ sizeLine; decide), fun t1 nt1 => ?_⟩⟩⟩
    refine ⟨t1, _, rfl, SqT.of upd_same, rfl, _, _, rfl, _, _, rfl, _, _, rfl, _, _, rfl, rfl, ?_⟩
    refine fun bd nbd => ⟨(by show 0 ≤ sizeLine; decide), fun pl npl => ⟨(by show 2 ≤ sizeLine; decide), fun t2 nt2 => ?_⟩⟩
    refine ⟨t2, _, rfl, SqT.of upd_same, rfl, _, _, rfl, _, _, rfl, rfl, ?_⟩
    have d12 : nd ≠ sl := fun e => by rw [← e, upd_same] at nsl; cases nsl
    have d23 : sl ≠ hl := fun e => by rw [← e, upd_same] at nhl; cases nhl
    have d13 : nd ≠ hl := fun e => by rw [← e, upd_ne d12, upd_same] at nhl; cases nhl
    have d3t : hl ≠ t1 := fun e => by rw [← e, upd_same] at nt1; cases nt1
    have d2t : sl ≠ t1 := fun e => by rw [← e, upd_ne d23, upd_same] at nt1; cases nt1
    have d1t : nd ≠ t1 := fun e => by rw [← e, upd_ne d13, upd_ne d12, upd_same] at nt1; cases nt1
    have d34 : hl ≠ bd := fun e => by rw [← e, upd_ne d3t, upd_same] at nbd; cases nbd
    have d24 : sl ≠ bd := fun e => by rw [← e, upd_ne d2t, upd_ne d23, upd_same] at nbd; cases nbd
    have d14 : nd ≠ bd := fun e => by rw [← e, upd_ne d1t, upd_ne d13, upd_ne d12, upd_same] at nbd; cases nbd
    have d45 : bd ≠ pl := fun e => by rw [← e, upd_same] at npl; cases npl
    have d35 : hl ≠ pl := fun e => by rw [← e, upd_ne d34, upd_ne d3t, upd_same] at npl; cases npl
    have d25 : sl ≠ pl := fun e => by rw [← e, upd_ne d24, upd_ne d2t, upd_ne d23, upd_same] at npl; cases npl
    have d15 : nd ≠ pl := fun e => by rw [← e, upd_ne d14, upd_ne d1t, upd_ne d13, upd_ne d12, upd_same] at npl; cases npl
    have kA := ((((Kp.refl (H := H) (S := [])).new nnd (o := .dK [])).new nsl (o := .lst [])).new nhl (o := .lst [])).new nt1 (o := .tup [.ref nd, .ref sl, .ref hl, .int 0])
    have kB := ((kA.new nbd (o := .dK [])).new npl (o := .lst [])).new nt2 (o := .tup [.ref bd, .ref pl])
    have n2 : H sl = none := ((Kp.refl (H := H) (S := [])).new nnd (o := .dK [])).free nsl
    have n3 : H hl = none := (((Kp.refl (H := H) (S := [])).new nnd (o := .dK [])).new nsl (o := .lst [])).free nhl
    have n4 : H bd = none := kA.free nbd
    have n5 : H pl = none := (kA.new nbd (o := .dK [])).free npl
    have dt1 : nd ≠ t2 := fun e => by rw [← e, upd_ne d15, upd_ne d14, upd_ne d1t, upd_ne d13, upd_ne d12, upd_same] at nt2; cases nt2
    have dt2 : sl ≠ t2 := fun e => by rw [← e, upd_ne d25, upd_ne d24, upd_ne d2t, upd_ne d23, upd_same] at nt2; cases nt2
    have dt3 : hl ≠ t2 := fun e => by rw [← e, upd_ne d35, upd_ne d34, upd_ne d3t, upd_same] at nt2; cases nt2
    have dt4 : bd ≠ t2 := fun e => by rw [← e, upd_ne d45, upd_same] at nt2; cases nt2
    have dt5 : pl ≠ t2 := fun e => by rw [← e, upd_same] at nt2; cases nt2
    have oA : CaOk H ⟨nd, sl, hl, bd, pl⟩ := ⟨nnd, n2, n3, n4, n5, d12, d13, d14, d15, d23, d24, d25, d34, d35, d45⟩
    have c0 : CyAt K H _ ⟨nd, sl, hl, bd, pl⟩ CS.start 0 := ⟨kB,
      ⟨[], by show _ = _; rw [upd_ne dt1, upd_ne d15, upd_ne d14, upd_ne d1t, upd_ne d13, upd_ne d12, upd_same], Nat.le_refl _, fun x h => absurd rfl h⟩, fun x => by show 0 < 2 ^ 0; decide,
      ⟨[], by show _ = _; rw [upd_ne dt2, upd_ne d25, upd_ne d24, upd_ne d2t, upd_ne d23, upd_same]; rfl, .nil⟩, by show _ = _; rw [upd_ne dt3, upd_ne d35, upd_ne d34, upd_ne d3t, upd_same]; rfl,
      ⟨[], by show _ = _; rw [upd_ne dt4, upd_ne d45, upd_same], Nat.le_refl _, fun x h => nomatch h⟩, ⟨[], by show _ = _; rw [upd_ne dt5, upd_same]; rfl, .nil⟩⟩
    refine ⟨_, rfl, _, rfl, D, M, I, nm, its, rfl, kB.sqT hD, hM.kp kB, fun H1 k1 => ?_⟩
    have c1 := c0.k0 k1
    obtain ⟨vs, hT, hP⟩ := hM.2
    refine ⟨_, _, _, _, rfl, rfl, c1.kp.sqT hM.1, atI_nat (j := 2) rfl, _, rfl, ⟨_, c1.kp.sqT hT⟩, ?_⟩
    refine for_it walk_tup (fun i σ H' => ∃ (x10 x11 x12 x13 x14 x15 x16 x17 x18 x19 x20 x21 x22 : Option V), σ = [some (.ref D), some (.str nm), some (.ref ts), some (.ref tw), some (.ref nd), some (.ref sl), some (.ref hl), some (.int ((cst ws ss (its.take i)).nI : Int)), some (.ref bd), some (.ref pl), x10, x11, x12, x13, x14, x15, x16, x17, x18, x19, x20, x21, x22] ∧ CyAt K H H' ⟨nd, sl, hl, bd, pl⟩ (cst ws ss (its.take i)) (2 * i))
      ⟨none, none, none, none, none, none, none, none, none, none, none, none, none, rfl, c1⟩ (fun i σ H' _ ⟨_, _, _, _, _, _, _, _, _, _, _, _, _, _, c⟩ => c.kp.sqT hT) ?_ ?_
    · rintro i v σ H2 H3 hi ⟨x10, x11, x12, x13, x14, x15, x16, x17, x18, x19, x20, x21, x22, rfl, c⟩ ⟨rfl, gv⟩
      obtain ⟨it, gi, hit⟩ := Paired.getR hP gv
      have hil : i < its.length := (List.getElem?_eq_some_iff.mp gi).1
      have es := cst_snoc ws ss gi
      have hok := hC i it gi
      rw [← cst_we ws ss] at hok
      have eI := cst_nI ws ss (its.take i)
      have eR := cst_nR ws ss (its.take i)
      have eH := cst_held_len ws ss (its.take i)
      have ⟨lsg, lnx⟩ := cst_lens ws ss (its.take i)
      rw [List.length_take] at lsg lnx
      generalize hs : cst ws ss (its.take i) = s at *
      obtain ⟨p, xs, rfl, hp, hr⟩ := ItAt.kp c.kp hit
      refine ⟨_, rfl, _, _, _, _, rfl, rfl, hp, atI_nat (j := 0) rfl, _, rfl, _, _, _, _, rfl, rfl, hp, atI_nat (j := 1) rfl, (by show 2 ≤ sizeLine; decide), fun t nt => ?_⟩
      refine ⟨t, _, rfl, SqT.of upd_same, rfl, _, _, rfl, _, _, rfl, rfl, ?_⟩
      have kt : Kp [] H3 (upd H3 t (.tup [.str it.kd, .str it.nm])) := Kp.refl.new nt
      have c := c.k0 kt
      have hp := kt.sqT hp
      have hr := ItRest.kp kt hr
      have fin : ∀ (H' : Hp) (s' : CS) (a10 a11 a12 : V), s' = cstep ws ss s it → CyAt K H H' ⟨nd, sl, hl, bd, pl⟩ s' (2 * (i + 1)) → ∃ (y10 y11 y12 y13 y14 y15 y16 y17 y18 y19 y20 y21 y22 : Option V),
        [some (V.ref D), some (V.str nm), some (V.ref ts), some (V.ref tw), some (V.ref nd), some (V.ref sl), some (V.ref hl), some (V.int (s'.nI : Int)), some (V.ref bd), some (V.ref pl), some a10, some a11, some a12, x13, x14, x15, x16, x17, x18, x19, x20, x21, x22] =
        [some (V.ref D), some (V.str nm), some (V.ref ts), some (V.ref tw), some (V.ref nd), some (V.ref sl), some (V.ref hl), some (V.int ((cst ws ss (its.take (i + 1))).nI : Int)), some (V.ref bd), some (V.ref pl), y10, y11, y12, y13, y14, y15, y16, y17, y18, y19, y20, y21, y22] ∧ CyAt K H H' ⟨nd, sl, hl, bd, pl⟩ (cst ws ss (its.take (i + 1))) (2 * (i + 1)) := fun H' s' a10 a11 a12 e cc =>
        ⟨some a10, some a11, some a12, x13, x14, x15, x16, x17, x18, x19, x20, x21, x22, by rw [es, ← e], by rw [es, ← e]; exact cc⟩
      cases it with
      | inp x wd =>
        cases hr
        have gw := wI_at gi
        obtain ⟨v, gv2, hv⟩ := hfW.get gw
        have ev : ws.getD s.nI 0 = v := by rw [List.getD_eq_getElem?_getD, eI, gv2]; rfl
        refine ⟨_, rfl, rfl, _, rfl, ifStrT rfl ?_⟩
        refine ⟨_, rfl, _, _, _, _, rfl, rfl, hp, atI_nat (j := 2) rfl, _, rfl, _, rfl, _, _, _, _, rfl, rfl, c.kp.sqT hW, atI_nat (j := s.nI) (put_map (by rw [eI]; exact gv2)), (by show 2 ≤ sizeLine; decide), fun t3 nt3 => ?_⟩
        have c := c.k0 (Kp.refl.new nt3 (o := .tup [.int (wd : Int), nV v]) (S := []))
        obtain ⟨H4, hput, c4, _, _⟩ := c.putNm (x := x) (t := t3) (w := wd) (v := v) oA (by omega) (SqT.of upd_same) hv
        refine ⟨_, rfl, _, rfl, _, _, rfl, hput, ?_⟩
        refine ⟨_, rfl, _, _, rfl, rfl, ?_⟩
        refine fin H4 { s with we := updS s.we x wd, env := updS s.env x v, nI := s.nI + 1 } _ _ _ (by rw [← ev]; rfl) (CyAt.mono ⟨c4.kp, c4.nm, c4.env, c4.sg, c4.hd, c4.bd, c4.nx⟩ (by omega))
      | reg x wd r =>
        cases hr
        have gw := wR_at gi
        obtain ⟨v, gv2, hv⟩ := hfS.get gw
        have ev : ss.getD s.nR 0 = v := by rw [List.getD_eq_getElem?_getD, eR, gv2]; rfl
        have hls : s.held.length = s.nR := eH
        have inr : inV (.str "reg") [.str "reg", .str "memory"] = true := by decide +kernel
        refine ⟨_, rfl, rfl, _, rfl, ifStrF (nm_ne (a := "reg") (b := "input") (by decide +kernel)) ?_⟩
        refine ⟨_, rfl, (by show 2 ≤ sizeLine; decide), fun l nl => ⟨_, _, rfl, .inl (SqL.of upd_same), rfl, rfl, _, rfl, ifBT inr ?_⟩⟩
        have kl : Kp [] _ (upd (upd H3 t (.tup [.str "reg", .str x])) l (.lst [.str "reg", .str "memory"])) := Kp.refl.new nl
        have c := c.k0 kl
        have hp := kl.sqT hp
        refine ⟨_, rfl, _, _, _, _, rfl, rfl, hp, atI_nat (j := 2) rfl, _, rfl, _, rfl, _, _, rfl, .inl (SqL.of c.hd), _, _, _, _, rfl, rfl, c.kp.sqT hS, atI_nat (j := (s.held.map V.str).length) (put_map (by rw [List.length_map, hls, eR]; exact gv2)), (by show 2 ≤ sizeLine; decide), fun t3 nt3 => ?_⟩
        have c := c.k0 (Kp.refl.new nt3 (o := .tup [.int (wd : Int), nV v]) (S := []))
        obtain ⟨H4, hput, c4, _, _⟩ := c.putNm (x := x) (t := t3) (w := wd) (v := v) oA (by omega) (SqT.of upd_same) hv
        refine ⟨_, rfl, _, rfl, _, _, rfl, hput, ?_⟩
        obtain ⟨H5, hput5, hh5, k5, c5⟩ := CyAt.putHd (x := x) c4 oA (by omega) v
        have lt1 : s.held.length < sizeLine := by
          rw [hls, eR]
          have := wR_len (its.take i)
          rw [List.length_take] at this
          exact small _ (by omega)
        refine ⟨_, rfl, _, rfl, _, _, rfl, .inl (SqL.of c4.hd), _, _, _, _, rfl, rfl, c4.kp.sqT hS, atI_nat (j := (s.held.map V.str).length) (put_map (by rw [List.length_map, hls, eR]; exact gv2)), _, rfl, _, rfl, _, _, rfl, hput5, ?_⟩
        refine ⟨_, rfl, .inl ⟨rfl, _, SqL.of hh5⟩, _, rfl, hl, _, _, rfl, rfl, hh5, by rw [List.length_map]; exact lt1, ?_⟩
        refine fin _ { s with we := updS s.we x wd, env := updS s.env x v, nR := s.nR + 1, held := s.held ++ [x], bh := updS s.bh x v } _ _ _ (by rw [← ev]; rfl) ⟨c5.kp, c5.nm, c5.env, c5.sg, c5.hd, c5.bd, c5.nx⟩
      | sig oo x wd e =>
        obtain ⟨ve, rfl, hve⟩ := hr
        have ni : ¬ (It0.sig oo x wd e).kd = "input" := by cases oo; exact nm_ne (a := "wire") (b := "input") (by decide +kernel); exact nm_ne (a := "output") (b := "input") (by decide +kernel)
        have in1 : inV (.str (It0.sig oo x wd e).kd) [.str "reg", .str "memory"] = false := by cases oo; exact (show inV (.str "wire") [.str "reg", .str "memory"] = false by decide +kernel); exact (show inV (.str "output") [.str "reg", .str "memory"] = false by decide +kernel)
        have in2 : inV (.str (It0.sig oo x wd e).kd) [.str "wire", .str "output"] = true := by cases oo; exact (show inV (.str "wire") [.str "wire", .str "output"] = true by decide +kernel); exact (show inV (.str "output") [.str "wire", .str "output"] = true by decide +kernel)
        refine ⟨_, rfl, rfl, _, rfl, ifStrF ni ?_⟩
        refine ⟨_, rfl, (by show 2 ≤ sizeLine; decide), fun l nl => ⟨_, _, rfl, .inl (SqL.of upd_same), rfl, rfl, _, rfl, ifBF in1 ?_⟩⟩
        have kl := Kp.refl.new nl (o := .lst [.str "reg", .str "memory"]) (S := [])
        refine ⟨_, rfl, (by show 2 ≤ sizeLine; decide), fun l2 nl2 => ⟨_, _, rfl, .inl (SqL.of upd_same), rfl, rfl, _, rfl, ifBT in2 ?_⟩⟩
        have kl2 := kl.new nl2 (o := .lst [.str "wire", .str "output"])
        have c := c.k0 kl2
        have hp := kl2.sqT hp
        have hve := ExAt.kp kl2 hve
        refine ⟨_, rfl, _, _, _, _, rfl, rfl, hp, atI_nat (j := 3) rfl, _, rfl, ve, nd, e, s.we, s.env, rfl, hve, c.nmAt (by omega), hok.1, hok.2.2, c.env, fun H4 t4 k4 ht4 => ?_⟩
        have c := c.k0 k4
        have hv := ev_lt c.env hok.1
        rw [hok.2.1] at ht4 hv
        obtain ⟨H5, hput, c5, k5, hget⟩ := c.putNm (x := x) (t := t4) (w := wd) (v := e.ev s.we s.env) oA (by omega) ht4 hv
        have ht5 := k5.sqT ht4
        refine ⟨_, rfl, _, rfl, _, _, rfl, hput, ?_⟩
        obtain ⟨ps0, g0, g0b⟩ := c5.sg
        refine ⟨_, rfl, .inl ⟨rfl, _, SqL.of g0⟩, _, rfl, _, rfl, _, rfl, _, _, rfl, hget, _, _, _, _, rfl, rfl, ht5, atI_nat (j := 1) rfl, (by show 2 ≤ sizeLine; decide), fun t6 nt6 => ?_⟩
        have c6 := c5.k0 (Kp.refl.new nt6 (o := .tup [.str x, .int (e.ev s.we s.env : Int)]) (S := []))
        obtain ⟨ps, p1, p2, c7⟩ := c6.putSg (x := x) (t := t6) (v := e.ev s.we s.env) oA (SqT.of upd_same)
        refine ⟨sl, _, _, rfl, rfl, p1, small _ (by rw [List.length_map, p2]; dsimp only; omega), ?_⟩
        refine fin _ { s with we := updS s.we x wd, env := updS s.env x (e.ev s.we s.env), sg := s.sg ++ [(x, e.ev s.we s.env)] } _ _ _ rfl (CyAt.mono ⟨c7.kp, c7.nm, c7.env, c7.sg, c7.hd, c7.bd, c7.nx⟩ (by omega))
      | nxt x e =>
        obtain ⟨ve, rfl, hve⟩ := hr
        have in1 : inV (.str "next") [.str "reg", .str "memory"] = false := by decide +kernel
        have in2 : inV (.str "next") [.str "wire", .str "output"] = false := by decide +kernel
        refine ⟨_, rfl, rfl, _, rfl, ifStrF (nm_ne (a := "next") (b := "input") (by decide +kernel)) ?_⟩
        refine ⟨_, rfl, (by show 2 ≤ sizeLine; decide), fun l nl => ⟨_, _, rfl, .inl (SqL.of upd_same), rfl, rfl, _, rfl, ifBF in1 ?_⟩⟩
        have kl := Kp.refl.new nl (o := .lst [.str "reg", .str "memory"]) (S := [])
        refine ⟨_, rfl, (by show 2 ≤ sizeLine; decide), fun l2 nl2 => ⟨_, _, rfl, .inl (SqL.of upd_same), rfl, rfl, _, rfl, ifBF in2 ?_⟩⟩
        have kl2 := kl.new nl2 (o := .lst [.str "wire", .str "output"])
        have c := c.k0 kl2
        have hp := kl2.sqT hp
        have hve := ExAt.kp kl2 hve
        refine ⟨_, rfl, rfl, _, rfl, ifStrF (nm_ne (a := "next") (b := "use") (by decide +kernel)) ?_⟩
        refine ⟨_, rfl, rfl, _, rfl, ifStrT rfl ?_⟩
        obtain ⟨qs0, g0, g0b⟩ := c.nx
        refine ⟨_, rfl, .inl ⟨rfl, _, SqL.of g0⟩, _, rfl, _, rfl, _, _, _, _, rfl, rfl, hp, atI_nat (j := 2) rfl, _, rfl, ve, nd, e, s.we, s.env, rfl, hve, c.nmAt (by omega), hok.1, hok.2, c.env, fun H4 t4 k4 ht4 => ?_⟩
        have c := c.k0 k4
        refine ⟨_, _, _, _, rfl, rfl, ht4, atI_nat (j := 1) rfl, (by show 3 ≤ sizeLine; decide), fun t6 nt6 => ?_⟩
        have c6 := c.k0 (Kp.refl.new nt6 (o := .tup [.str x, .int (e.ev s.we s.env : Int), .non]) (S := []))
        obtain ⟨qs, p1, p2, c7⟩ := c6.putNx (x := x) (t := t6) (v := e.ev s.we s.env) oA (SqT.of upd_same)
        refine ⟨pl, _, _, rfl, rfl, p1, small _ (by rw [List.length_map, p2]; omega), ?_⟩
        refine fin _ { s with nx := s.nx ++ [(x, e.ev s.we s.env)] } _ _ _ rfl (CyAt.mono ⟨c7.kp, c7.nm, c7.env, c7.sg, c7.hd, c7.bd, c7.nx⟩ (by omega))
    · rintro σ H2 ⟨x10, x11, x12, x13, x14, x15, x16, x17, x18, x19, x20, x21, x22, rfl, c⟩
      have hlen : its.take vs.length = its := by rw [← Paired.len hP, List.take_length]
      rw [hlen] at c ⊢
      have hvl : vs.length ≤ 100 := by rw [← Paired.len hP]; exact hz
      obtain ⟨lsg, lnx⟩ := cst_lens ws ss its
      have hhl : (cst ws ss its).held.length ≤ 100 := by
        rw [cst_held_len, cst_nR]
        have := wR_len its
        omega
      generalize hs : cst ws ss its = s at *
      obtain ⟨qs, g1, g2⟩ := c.nx
      refine ⟨_, rfl, _, rfl, ⟨_, SqL.of g1⟩, ?_⟩
      refine for_it walk_list (fun j σ H' => ∃ (x10 x11 x12 x13 x14 x15 x16 x17 x18 x19 x20 x21 x22 : Option V), σ = [some (.ref D), some (.str nm), some (.ref ts), some (.ref tw), some (.ref nd), some (.ref sl), some (.ref hl), some (.int (s.nI : Int)), some (.ref bd), some (.ref pl), x10, x11, x12, x13, x14, x15, x16, x17, x18, x19, x20, x21, x22] ∧ CyAt K H H' ⟨nd, sl, hl, bd, pl⟩ { s with bh := (s.nx.take j).foldl (fun b p => updS b p.1 p.2) s.bh } (200 + j) ∧ H' pl = some (.lst (qs.map V.ref)) ∧ NxP K H' qs s.nx)
        ⟨x10, x11, x12, x13, x14, x15, x16, x17, x18, x19, x20, x21, x22, rfl, CyAt.mono ⟨c.kp, c.nm, c.env, c.sg, c.hd, c.bd, c.nx⟩ (by omega), g1, g2⟩ (fun j σ H' _ ⟨_, _, _, _, _, _, _, _, _, _, _, _, _, _, _, g, _⟩ => SqL.of g) ?_ ?_
      · rintro j v σ H3 H4 hj ⟨x10, x11, x12, x13, x14, x15, x16, x17, x18, x19, x20, x21, x22, rfl, c, g1, g2⟩ ⟨rfl, gv⟩
        obtain ⟨q0, gq, rfl⟩ := get_map gv
        obtain ⟨⟨x, y⟩, gx, hq⟩ := Paired.getL g2 gq
        have hjl : j < s.nx.length := (List.getElem?_eq_some_iff.mp gx).1
        refine ⟨q0, _, rfl, hq, rfl, _, _, rfl, _, _, rfl, _, _, rfl, rfl, ?_⟩
        refine ⟨_, rfl, rfl, _, rfl, ifBT (by rfl) ?_⟩
        obtain ⟨H5, hput, k5, c5⟩ := CyAt.putBd (x := x) c oA (by omega) y
        refine ⟨_, rfl, _, rfl, _, rfl, _, _, rfl, hput, ?_⟩
        refine ⟨x10, x11, some (.str x), x13, x14, some (.int (y : Int)), x16, some .non, x18, x19, x20, x21, x22, rfl, ?_, k5.at_ _ _ g1 (not1 d45.symm), g2.kp k5⟩
        rw [List.take_add_one, gx, List.foldl_append]
        exact c5
      · rintro σ H3 ⟨x10, x11, x12, x13, x14, x15, x16, x17, x18, x19, x20, x21, x22, rfl, c, _, _⟩
        have eqs : qs.length = s.nx.length := Paired.len g2
        rw [List.length_map, eqs, List.take_length] at c
        have c : CyAt K H H3 ⟨nd, sl, hl, bd, pl⟩ { s with bh := bhFin s } _ := c
        obtain ⟨ps, s1, s2⟩ := c.sg
        refine ⟨_, rfl, sl, ps, rfl, SqL.of s1, fun tsg ntsg => ?_⟩
        have kx : Kp [] H3 (upd H3 tsg (pxt tsg ps)) := Kp.refl.new ntsg
        have c := c.k0 kx
        have esg : SgAt K (upd H3 tsg (pxt tsg ps)) tsg s.sg := ⟨ps, upd_same, s2.kp kx⟩
        refine ⟨_, rfl, _, rfl, ⟨_, SqL.of c.hd⟩, fun B nB => ?_⟩
        obtain ⟨bv, b1, b2, b3⟩ := c.bd
        refine lc_it walk_list (fun j H' => Kp [] (upd H3 tsg (pxt tsg ps)) H' ∧ H' B = some (.lst (((s.held.take j).map (bhFin s)).map nV))) ⟨Kp.refl.new nB, upd_same⟩ (fun j H' _ ⟨kk, _⟩ => kk.sqL0 (SqL.of c.hd)) ?_ ?_
        · rintro j v H4 H5 hj ⟨kk, eB⟩ ⟨rfl, gv⟩
          obtain ⟨x, gx, rfl⟩ := get_map gv
          have hxm := List.mem_of_getElem? gx
          refine ⟨rfl, ?_⟩
          refine ⟨_, rfl, _, rfl, _, _, rfl, .inl ⟨bv, Sum.inr x, .inl (kk.at_ _ _ b1 (by simp)), rfl, (b3 x hxm).symm⟩, _, eB, small _ (by rw [List.length_map, List.length_map, List.length_take]; omega), kk.put nB, ?_⟩
          rw [upd_same, List.take_add_one, gx, List.map_append, List.map_append]; rfl
        · rintro H4 ⟨kk, eB⟩
          rw [List.length_map, List.take_length] at eB
          refine ⟨_, _, rfl, .inl ⟨SqL.of eB, fun tb ntb => ?_⟩⟩
          refine ⟨(by show 2 ≤ sizeLine; decide), fun t nt => ?_⟩
          have kz := (kk.new ntb (o := .tup (((s.held.map (bhFin s))).map nV))).new nt (o := .tup [.ref tsg, .ref tb])
          have := q _ t tsg tb (c.kp.trans kz) (SqT.of upd_same) (esg.kp kz) ((Kp.refl.new nt (S := [])).sqT (SqT.of upd_same))
          exact this
end
end K14
set_option maxHeartbeats 200000
/-! designs: leaves, then the rest; the machine's reading and the cycle's reading agree -/
namespace K14
open PySem PySem.Spec PyProof.Rows L2
def foldU (f : Str → Nat) (l : List (Str × Nat)) : Str → Nat := l.foldl (fun f p => updS f p.1 p.2) f
theorem foldU_not : ∀ {l : List (Str × Nat)} {f : Str → Nat} {x : Str}, x ∉ l.map (·.1) → foldU f l x = f x
  | [], _, _, _ => rfl
  | p :: r, f, x, h => by
    show foldU (updS f p.1 p.2) r x = f x
    rw [foldU_not (fun z => h (List.mem_cons_of_mem _ z)), updS_ne _ _ (fun z => h (by rw [z]; exact List.mem_cons_self))]
theorem foldU_mem : ∀ {l : List (Str × Nat)} {f : Str → Nat} {x : Str} {v : Nat}, (l.map (·.1)).Nodup → (x, v) ∈ l → foldU f l x = v
  | [], _, _, _, _, h => nomatch h
  | p :: r, f, x, v, hn, h => by
    rw [List.map_cons, List.nodup_cons] at hn
    show foldU (updS f p.1 p.2) r x = v
    rcases List.mem_cons.mp h with z | z
    · rw [← z] at hn ⊢
      rw [foldU_not hn.1, updS_same]
    · exact foldU_mem hn.2 z
theorem foldU_perm {l l' : List (Str × Nat)} (f : Str → Nat) (p : l.Perm l') (hn : (l.map (·.1)).Nodup) : foldU f l = foldU f l' := by
  funext x
  have hn' : (l'.map (·.1)).Nodup := (List.Perm.nodup_iff (p.map _)).mp hn
  by_cases h : x ∈ l.map (·.1)
  · obtain ⟨⟨y, v⟩, hm, e⟩ := List.mem_map.mp h
    have e' : y = x := e
    subst e'
    rw [foldU_mem hn hm, foldU_mem hn' (p.mem_iff.mp hm)]
  · rw [foldU_not h, foldU_not (fun z => h ((p.map _).mem_iff.mpr z))]
theorem foldU_app (f : Str → Nat) (a b : List (Str × Nat)) : foldU f (a ++ b) = foldU (foldU f a) b := by unfold foldU; rw [List.foldl_append]
def Leafy (A : List It0) : Prop := ∀ it ∈ A, it.isIn = true ∨ it.isReg = true
def Rest (B : List It0) : Prop := ∀ it ∈ B, it.isIn = false ∧ it.isReg = false
/-- leaves with their values -/
def leafV : List Nat → List Nat → List It0 → List (Str × Nat)
  | ws, ss, .inp x _ :: r => (x, ws.headD 0) :: leafV ws.tail ss r
  | ws, ss, .reg x _ _ :: r => (x, ss.headD 0) :: leafV ws ss.tail r
  | ws, ss, _ :: r => leafV ws ss r
  | _, _, [] => []
theorem wds_fold : ∀ (l : List (Str × Nat)) (we : Str → Nat), wds we l = foldU we l
  | [], _ => rfl
  | (x, w) :: r, we => wds_fold r _
/-- the cycle's steps over leaves -/
theorem cst_leaf (ws ss : List Nat) : ∀ (A : List It0) (s : CS), Leafy A → (A.foldl (cstep ws ss) s).env = foldU s.env (leafV (ws.drop s.nI) (ss.drop s.nR) A) ∧ (A.foldl (cstep ws ss) s).we = foldU s.we (A.map fun it => (it.nm, it.wd)) ∧
    (A.foldl (cstep ws ss) s).sg = s.sg ∧ (A.foldl (cstep ws ss) s).nx = s.nx
  | [], s, _ => ⟨rfl, rfl, rfl, rfl⟩
  | it :: r, s, h => by
    have hr : Leafy r := fun i m => h i (List.mem_cons_of_mem _ m)
    obtain ⟨h1, h2, h3, h4⟩ := cst_leaf ws ss r (cstep ws ss s it) hr
    cases it with
    | inp x w =>
      refine ⟨h1.trans ?_, h2, h3, h4⟩
      show foldU (updS s.env x (ws.getD s.nI 0)) (leafV (ws.drop (s.nI + 1)) (ss.drop s.nR) r) = foldU s.env ((x, (ws.drop s.nI).headD 0) :: leafV (ws.drop s.nI).tail (ss.drop s.nR) r)
      have e1 : (ws.drop s.nI).headD 0 = ws.getD s.nI 0 := by rw [List.headD_eq_head?_getD, List.head?_drop, List.getD_eq_getElem?_getD]
      rw [List.tail_drop, e1]; rfl
    | reg x w rr =>
      refine ⟨h1.trans ?_, h2, h3, h4⟩
      show foldU (updS s.env x (ss.getD s.nR 0)) (leafV (ws.drop s.nI) (ss.drop (s.nR + 1)) r) = foldU s.env ((x, (ss.drop s.nR).headD 0) :: leafV (ws.drop s.nI) (ss.drop s.nR).tail r)
      have e1 : (ss.drop s.nR).headD 0 = ss.getD s.nR 0 := by rw [List.headD_eq_head?_getD, List.head?_drop, List.getD_eq_getElem?_getD]
      rw [List.tail_drop, e1]; rfl
    | sig o x w e => rcases h _ (List.mem_cons_self) with z | z <;> cases z
    | nxt x e => rcases h _ (List.mem_cons_self) with z | z <;> cases z
def zipV : List (Str × Nat) → List Nat → List (Str × Nat)
  | (x, _) :: r, v :: vs => (x, v) :: zipV r vs
  | (x, _) :: r, [] => (x, 0) :: zipV r []
  | [], _ => []
theorem zipV_head (x : Str) (w : Nat) (r : List (Str × Nat)) (vs : List Nat) : zipV ((x, w) :: r) vs = (x, vs.headD 0) :: zipV r vs.tail := by
  cases vs <;> rfl
theorem zipV_names : ∀ (l : List (Str × Nat)) (vs : List Nat), (zipV l vs).map (·.1) = l.map (·.1)
  | [], _ => rfl
  | (x, w) :: r, vs => by rw [zipV_head, List.map_cons, List.map_cons, zipV_names r]
theorem sel_cons (c : Str) (it : It0) (r : List It0) : sel c (it :: r) = sel c [it] ++ sel c r := by
  rw [show it :: r = [it] ++ r from rfl, sel_app]
theorem sI_inp (x : Str) (w : Nat) : sel "input" [.inp x w] = [(x, w)] := sel_yes (c := "input") (it := .inp x w) rfl
theorem sR_inp (x : Str) (w : Nat) : sel "reg" [.inp x w] = [] := sel_no (it := .inp x w) (show ¬ ("input" : Str) = "reg" from nm_ne (by decide +kernel))
theorem sI_reg (x : Str) (w r : Nat) : sel "input" [.reg x w r] = [] := sel_no (it := .reg x w r) (show ¬ ("reg" : Str) = "input" from nm_ne (by decide +kernel))
theorem sR_reg (x : Str) (w r : Nat) : sel "reg" [.reg x w r] = [(x, w)] := sel_yes (c := "reg") (it := .reg x w r) rfl
theorem leaf_perm : ∀ (A : List It0) (ws ss : List Nat), Leafy A → (leafV ws ss A).Perm (zipV (sel "input" A) ws ++ zipV (sel "reg" A) ss)
  | [], _, _, _ => List.Perm.refl _
  | it :: r, ws, ss, h => by
    have hr : Leafy r := fun i m => h i (List.mem_cons_of_mem _ m)
    cases it with
    | inp x w =>
      rw [sel_cons "input", sel_cons "reg", sI_inp, sR_inp]
      show ((x, ws.headD 0) :: leafV ws.tail ss r).Perm (zipV ((x, w) :: sel "input" r) ws ++ zipV (sel "reg" r) ss)
      rw [zipV_head]
      exact (leaf_perm r _ _ hr).cons _
    | reg x w rr =>
      rw [sel_cons "input", sel_cons "reg", sI_reg, sR_reg]
      show ((x, ss.headD 0) :: leafV ws ss.tail r).Perm (zipV (sel "input" r) ws ++ zipV ((x, w) :: sel "reg" r) ss)
      rw [zipV_head]
      exact ((leaf_perm r ws ss.tail hr).cons _).trans List.perm_middle.symm
    | sig o x w e => rcases h _ (List.mem_cons_self) with z | z <;> cases z
    | nxt x e => rcases h _ (List.mem_cons_self) with z | z <;> cases z
theorem width_perm : ∀ (A : List It0), Leafy A → (A.map fun it => (it.nm, it.wd)).Perm (leaves A)
  | [], _ => List.Perm.refl _
  | it :: r, h => by
    have hr : Leafy r := fun i m => h i (List.mem_cons_of_mem _ m)
    unfold leaves
    cases it with
    | inp x w =>
      rw [sel_cons "input", sel_cons "reg", sI_inp, sR_inp]
      exact (width_perm r hr).cons _
    | reg x w rr =>
      rw [sel_cons "input", sel_cons "reg", sI_reg, sR_reg]
      exact ((width_perm r hr).cons _).trans List.perm_middle.symm
    | sig o x w e => rcases h _ (List.mem_cons_self) with z | z <;> cases z
    | nxt x e => rcases h _ (List.mem_cons_self) with z | z <;> cases z
/-! ### bits of leaves -/
theorem bitsNum_mid (pre post : Bits) : ∀ (w : Nat) (bs : Bits), bs.length = w → bitsNum (pre ++ bs ++ post) pre.length w = bitsNum bs 0 w := by
  intro w bs hl
  have : ∀ k, k ≤ w → bitsNum (pre ++ bs ++ post) pre.length k = bitsNum bs 0 k := by
    intro k
    induction k with
    | zero => intro _; rfl
    | succ k ih =>
      intro hk
      show bitsNum _ _ k + 2 ^ k * _ = bitsNum _ _ k + 2 ^ k * _
      rw [ih (by omega), Nat.zero_add]
      congr 3
      rw [List.append_assoc, List.getD_eq_getElem?_getD, List.getD_eq_getElem?_getD, List.getElem?_append_right (by omega), List.getElem?_append_left (by omega)]
      congr 2
      omega
  exact this w (Nat.le_refl _)
theorem bitsNum_bits (v : Nat) : ∀ (k w : Nat), k ≤ w → bitsNum ((List.range w).map fun j => v / 2 ^ j % 2 == 1) 0 k = v % 2 ^ k
  | 0, w, _ => by rw [Nat.pow_zero, Nat.mod_one]; rfl
  | k + 1, w, h => by
    show bitsNum _ 0 k + 2 ^ k * _ = _
    rw [bitsNum_bits v k w (by omega), Nat.zero_add, List.getD_eq_getElem?_getD, List.getElem?_map, List.getElem?_range (by omega)]
    show v % 2 ^ k + 2 ^ k * (v / 2 ^ k % 2 == 1).toNat = v % 2 ^ (k + 1)
    rw [← bit_eq, Nat.pow_succ, Nat.mod_mul]
theorem envs_bits : ∀ (L : List (Str × Nat)) (xs : List Nat) (pre post : Bits) (env : Str → Nat), Fits xs (L.map (·.2)) → envs (pre ++ bitsOf xs (L.map (·.2)) ++ post) env pre.length L = foldU env (zipV L xs)
  | [], _, _, _, _, _ => rfl
  | (x, w) :: r, xs, pre, post, env, h => by
    cases h with
    | @cons v _ vs _ hv ht =>
      show envs (pre ++ ((List.range w).map (fun k => v / 2 ^ k % 2 == 1) ++ bitsOf vs (r.map (·.2))) ++ post) (updS env x (bitsNum (pre ++ ((List.range w).map (fun k => v / 2 ^ k % 2 == 1) ++ bitsOf vs (r.map (·.2))) ++ post) pre.length w)) (pre.length + w) r = foldU (updS env x v) (zipV r vs)
      have e1 : pre ++ ((List.range w).map (fun k => v / 2 ^ k % 2 == 1) ++ bitsOf vs (r.map (·.2))) ++ post = (pre ++ (List.range w).map (fun k => v / 2 ^ k % 2 == 1)) ++ bitsOf vs (r.map (·.2)) ++ post := by simp [List.append_assoc]
      have e2 : pre ++ ((List.range w).map (fun k => v / 2 ^ k % 2 == 1) ++ bitsOf vs (r.map (·.2))) ++ post = pre ++ (List.range w).map (fun k => v / 2 ^ k % 2 == 1) ++ (bitsOf vs (r.map (·.2)) ++ post) := by simp [List.append_assoc]
      have e3 : bitsNum (pre ++ ((List.range w).map (fun k => v / 2 ^ k % 2 == 1) ++ bitsOf vs (r.map (·.2))) ++ post) pre.length w = v := by
        rw [e2, bitsNum_mid _ _ w _ (by rw [List.length_map, List.length_range]), bitsNum_bits v w w (Nat.le_refl _), Nat.mod_eq_of_lt hv]
      rw [e3]
      have e4 : pre.length + w = (pre ++ (List.range w).map (fun k => v / 2 ^ k % 2 == 1)).length := by rw [List.length_append, List.length_map, List.length_range]
      rw [e4, e1]
      exact envs_bits r vs _ post _ ht
theorem envs_app (z : Bits) : ∀ (a b : List (Str × Nat)) (env : Str → Nat) (p : Nat), envs z env p (a ++ b) = envs z (envs z env p a) (p + tot a) b
  | [], _, _, _ => rfl
  | (x, w) :: r, b, env, p => by
    show envs z (updS env x (bitsNum z p w)) (p + w) (r ++ b) = envs z (envs z (updS env x (bitsNum z p w)) (p + w) r) (p + (w + tot r)) b
    rw [envs_app z r b, Nat.add_assoc]
/-! ### designs -/
theorem sel_rest (c : Str) (hc : c = "input" ∨ c = "reg") : ∀ {B : List It0}, Rest B → sel c B = []
  | [], _ => rfl
  | it :: r, h => by
    have hr : Rest r := fun i m => h i (List.mem_cons_of_mem _ m)
    have h0 := h it List.mem_cons_self
    rw [sel_cons, sel_rest c hc hr]
    cases it with
    | inp x w => cases h0.1
    | reg x w r => cases h0.2
    | sig o x w e =>
      rcases hc with rfl | rfl <;> cases o
      · rw [sel_no (it := .sig false x w e) (show ¬ ("wire" : Str) = "input" from nm_ne (by decide +kernel))]; rfl
      · rw [sel_no (it := .sig true x w e) (show ¬ ("output" : Str) = "input" from nm_ne (by decide +kernel))]; rfl
      · rw [sel_no (it := .sig false x w e) (show ¬ ("wire" : Str) = "reg" from nm_ne (by decide +kernel))]; rfl
      · rw [sel_no (it := .sig true x w e) (show ¬ ("output" : Str) = "reg" from nm_ne (by decide +kernel))]; rfl
    | nxt x e =>
      rcases hc with rfl | rfl
      · rw [sel_no (it := .nxt x e) (show ¬ ("next" : Str) = "input" from nm_ne (by decide +kernel))]; rfl
      · rw [sel_no (it := .nxt x e) (show ¬ ("next" : Str) = "reg" from nm_ne (by decide +kernel))]; rfl
/-- the rest's steps -/
theorem cst_rest (ws ss : List Nat) : ∀ (B : List It0) (s : CS), Rest B → (B.foldl (cstep ws ss) s).env = envFin s.we s.env B ∧ (B.foldl (cstep ws ss) s).we = weFin s.we B
  | [], s, _ => ⟨rfl, rfl⟩
  | it :: r, s, h => by
    have hr : Rest r := fun i m => h i (List.mem_cons_of_mem _ m)
    have h0 := h it List.mem_cons_self
    obtain ⟨h1, h2⟩ := cst_rest ws ss r (cstep ws ss s it) hr
    cases it with
    | inp x w => cases h0.1
    | reg x w r => cases h0.2
    | sig o x w e => exact ⟨h1, h2⟩
    | nxt x e => exact ⟨h1, h2⟩
theorem weFin_leafy : ∀ {A : List It0} (we : Str → Nat), Leafy A → weFin we A = we
  | [], _, _ => rfl
  | it :: r, we, h => by
    have hr : Leafy r := fun i m => h i (List.mem_cons_of_mem _ m)
    cases it with
    | inp x w => exact weFin_leafy (A := r) we hr
    | reg x w rr => exact weFin_leafy (A := r) we hr
    | sig o x w e => rcases h _ (List.mem_cons_self) with z | z <;> cases z
    | nxt x e => rcases h _ (List.mem_cons_self) with z | z <;> cases z
theorem envFin_leafy : ∀ {A : List It0} (we env : Str → Nat), Leafy A → envFin we env A = env
  | [], _, _, _ => rfl
  | it :: r, we, env, h => by
    have hr : Leafy r := fun i m => h i (List.mem_cons_of_mem _ m)
    cases it with
    | inp x w => exact envFin_leafy (A := r) we env hr
    | reg x w rr => exact envFin_leafy (A := r) we env hr
    | sig o x w e => rcases h _ (List.mem_cons_self) with z | z <;> cases z
    | nxt x e => rcases h _ (List.mem_cons_self) with z | z <;> cases z
theorem SeqOk_leafy : ∀ {A : List It0} (we : Str → Nat), Leafy A → SeqOk we A
  | [], _, _ => trivial
  | it :: r, we, h => by
    have hr : Leafy r := fun i m => h i (List.mem_cons_of_mem _ m)
    cases it with
    | inp x w => exact SeqOk_leafy (A := r) we hr
    | reg x w rr => exact SeqOk_leafy (A := r) we hr
    | sig o x w e => rcases h _ (List.mem_cons_self) with z | z <;> cases z
    | nxt x e => rcases h _ (List.mem_cons_self) with z | z <;> cases z
theorem SeqOk_app : ∀ {A B : List It0} {we : Str → Nat}, SeqOk we A → SeqOk (weFin we A) B → SeqOk we (A ++ B)
  | [], _, _, _, h => h
  | it :: r, B, we, h, k => by
    cases it with
    | inp x w => exact SeqOk_app (A := r) (we := we) h k
    | reg x w rr => exact SeqOk_app (A := r) (we := we) h k
    | sig o x w e => exact ⟨h.1, h.2.1, h.2.2.1, h.2.2.2.1, SeqOk_app (A := r) h.2.2.2.2 k⟩
    | nxt x e => exact ⟨h.1, h.2.1, SeqOk_app (A := r) (we := we) h.2.2 k⟩
/-- leaves' widths -/
def lwd (A : List It0) : Str → Nat := foldU (fun _ => 0) (A.map fun it => (it.nm, it.wd))
def It0.nxe : It0 → Option (Str × Ex) | .nxt x e => some (x, e) | _ => none
/-- the registers' nexts -/
def nxL (B : List It0) : List (Str × Ex) := B.filterMap It0.nxe
structure Design (A B : List It0) : Prop where
  la : Leafy A
  rb : Rest B
  few : (A ++ B).length ≤ 40
  nod : (A.map It0.nm).Nodup
  seq : SeqOk (lwd A) B
  pos : ∀ it ∈ A ++ B, it.named = true → 1 ≤ it.wd ∧ it.wd ≤ 16
  small : 5120 * sizes (A ++ B) ≤ big
  rst : ∀ x w r, It0.reg x w r ∈ A → r < 2 ^ w
  sumI : (wI A).sum ≤ 9
  nxr : ∀ x e, It0.nxt x e ∈ B → ∃ w r, It0.reg x w r ∈ A ∧ e.wd (weFin (lwd A) B) = w
  nxu : ((nxL B).map (·.1)).Nodup
  names : NamesOk (A ++ B)
section
variable {A B : List It0}
theorem Design.sI (d : Design A B) (c : Str) (hc : c = "input" ∨ c = "reg") : sel c (A ++ B) = sel c A := by rw [sel_app, sel_rest c hc d.rb, List.append_nil]
theorem Design.leavesE (d : Design A B) : leaves (A ++ B) = leaves A := by unfold K14.leaves; rw [d.sI _ (.inl rfl), d.sI _ (.inr rfl)]
theorem Design.wIe (d : Design A B) : wI (A ++ B) = wI A := by unfold K14.wI; rw [d.sI _ (.inl rfl)]
theorem Design.wRe (d : Design A B) : wR (A ++ B) = wR A := by unfold K14.wR; rw [d.sI _ (.inr rfl)]
theorem nm_map (A : List It0) : (A.map fun it => (it.nm, it.wd)).map (·.1) = A.map It0.nm := by rw [List.map_map]; rfl
theorem Design.W0 (d : Design A B) : wds (fun _ => 0) (K14.leaves (A ++ B)) = lwd A := by
  rw [d.leavesE, wds_fold]
  exact (foldU_perm _ (width_perm A d.la) (by rw [nm_map]; exact d.nod)).symm
theorem Design.cA (d : Design A B) (ws ss : List Nat) : (cst ws ss A).env = foldU (fun _ => 0) (leafV ws ss A) ∧ (cst ws ss A).we = lwd A ∧ (cst ws ss A).sg = [] ∧ (cst ws ss A).nx = [] := cst_leaf ws ss A CS.start d.la
theorem leafV_names : ∀ (A : List It0) (ws ss : List Nat), Leafy A → (leafV ws ss A).map (·.1) = A.map It0.nm
  | [], _, _, _ => rfl
  | it :: r, ws, ss, h => by
    have hr : Leafy r := fun i m => h i (List.mem_cons_of_mem _ m)
    cases it with
    | inp x w => show x :: _ = x :: _; rw [leafV_names r _ _ hr]
    | reg x w rr => show x :: _ = x :: _; rw [leafV_names r _ _ hr]
    | sig o x w e => rcases h _ (List.mem_cons_self) with z | z <;> cases z
    | nxt x e => rcases h _ (List.mem_cons_self) with z | z <;> cases z
/-- the word of bits of a row and a state -/
def zOf (ws ss wi wr : List Nat) : Bits := bitsOf ws wi ++ bitsOf ss wr
theorem Design.E0 (d : Design A B) {ws ss : List Nat} (hw : Fits ws (K14.wI A)) (hs : Fits ss (K14.wR A)) : envs (zOf ws ss (K14.wI A) (K14.wR A)) (fun _ => 0) 0 (K14.leaves (A ++ B)) = (cst ws ss A).env := by
  rw [d.leavesE, (d.cA ws ss).1, foldU_perm _ (leaf_perm A ws ss d.la) (by rw [leafV_names A ws ss d.la]; exact d.nod), foldU_app]
  unfold K14.leaves zOf
  rw [envs_app]
  have h1 := envs_bits (sel "input" A) ws [] (bitsOf ss (K14.wR A)) (fun _ => 0) hw
  rw [List.nil_append] at h1
  have h2 := envs_bits (sel "reg" A) ss (bitsOf ws (K14.wI A)) [] (envs (bitsOf ws (K14.wI A) ++ bitsOf ss (K14.wR A)) (fun _ => 0) 0 (sel "input" A)) hs
  rw [List.append_nil] at h2
  have e1 : (bitsOf ws (K14.wI A)).length = 0 + tot (sel "input" A) := by rw [bitsOf_len (Paired.len hw), Nat.zero_add]; rfl
  rw [← e1]
  refine h2.trans ?_
  have h1' : envs (bitsOf ws (K14.wI A) ++ bitsOf ss (K14.wR A)) (fun _ => 0) 0 (sel "input" A) = foldU (fun _ => 0) (zipV (sel "input" A) ws) := h1
  rw [h1']
theorem Design.weE (d : Design A B) : we1 (A ++ B) = weFin (lwd A) B ∧ ∀ ws ss, (cst ws ss (A ++ B)).we = weFin (lwd A) B := by
  refine ⟨?_, fun ws ss => ?_⟩
  · unfold we1
    rw [d.W0, weFin_app, weFin_leafy _ d.la]
  · unfold cst
    rw [List.foldl_append]
    have h := (cst_rest ws ss B (A.foldl (cstep ws ss) CS.start) d.rb).2
    rw [h]
    exact congrArg (fun f => weFin f B) (d.cA ws ss).2.1
theorem Design.envE (d : Design A B) {ws ss : List Nat} (hw : Fits ws (K14.wI A)) (hs : Fits ss (K14.wR A)) : env1 (A ++ B) (zOf ws ss (K14.wI A) (K14.wR A)) = (cst ws ss (A ++ B)).env := by
  unfold env1
  rw [d.W0, d.E0 hw hs, envFin_app, weFin_leafy _ d.la, envFin_leafy _ _ d.la]
  unfold cst
  rw [List.foldl_append]
  have h := (cst_rest ws ss B (A.foldl (cstep ws ss) CS.start) d.rb).1
  rw [h]
  exact (congrArg (fun f => envFin f (A.foldl (cstep ws ss) CS.start).env B) (d.cA ws ss).2.1).symm
theorem Design.itsOk (d : Design A B) : ItsOk (A ++ B) :=
  ⟨by have := d.few; omega, fun it m => by
    by_cases h : it.named = true
    · exact (d.pos it m h).2
    · cases it with
      | inp x w => exact absurd rfl h
      | reg x w r => exact absurd rfl h
      | sig o x w e => exact absurd rfl h
      | nxt x e => exact Nat.zero_le _,
    by rw [d.W0]; exact SeqOk_app (SeqOk_leafy _ d.la) (by rw [weFin_leafy _ d.la]; exact d.seq), by have := d.small; omega⟩
end
end K14
/-! designs: the wish's word, the registers' next words -/
namespace K14
open PySem PySem.Spec PyProof.Rows L2
theorem fin_stay : ∀ {B : List It0} {we : Str → Nat} (env : Str → Nat) {x : Str}, Rest B → SeqOk we B → we x ≠ 0 → weFin we B x = we x ∧ envFin we env B x = env x
  | [], _, _, _, _, _, _ => ⟨rfl, rfl⟩
  | it :: r, we, env, x, h, hs, hx => by
    have hr : Rest r := fun i m => h i (List.mem_cons_of_mem _ m)
    have h0 := h it List.mem_cons_self
    cases it with
    | inp x w => cases h0.1
    | reg x w r => cases h0.2
    | sig o y w e =>
      have hne : x ≠ y := fun z => hx (by rw [z]; exact hs.2.2.1)
      have h1 : updS we y w x ≠ 0 := by rw [updS_ne _ _ hne]; exact hx
      obtain ⟨a, b⟩ := fin_stay (updS env y (e.ev we env)) hr hs.2.2.2.2 h1
      exact ⟨a.trans (updS_ne _ _ hne), b.trans (updS_ne _ _ hne)⟩
    | nxt y e => exact fin_stay (B := r) env hr hs.2.2 hx
/-- the nexts' values do not wait -/
theorem nx_fin (ws ss : List Nat) : ∀ (B : List It0) (s : CS), Rest B → SeqOk s.we B →
    (B.foldl (cstep ws ss) s).nx = s.nx ++ (nxL B).map fun p => (p.1, p.2.ev (weFin s.we B) (envFin s.we s.env B))
  | [], s, _, _ => (List.append_nil _).symm
  | it :: r, s, h, hs => by
    have hr : Rest r := fun i m => h i (List.mem_cons_of_mem _ m)
    have h0 := h it List.mem_cons_self
    cases it with
    | inp x w => cases h0.1
    | reg x w r => cases h0.2
    | sig o y w e => exact nx_fin ws ss r (cstep ws ss s (.sig o y w e)) hr hs.2.2.2.2
    | nxt y e =>
      have ih := nx_fin ws ss r (cstep ws ss s (.nxt y e)) hr hs.2.2
      refine ih.trans ?_
      have he := ev_more (we' := weFin s.we r) (env := s.env) (env' := envFin s.we s.env r) (fun x hx => fin_stay s.env hr hs.2.2 hx) hs.1
      show (s.nx ++ [(y, e.ev s.we s.env)]) ++ (nxL r).map _ = s.nx ++ (y, e.ev (weFin s.we r) (envFin s.we s.env r)) :: (nxL r).map _
      rw [he.2.2, List.append_assoc]; rfl
theorem rest_same (ws ss : List Nat) : ∀ (B : List It0) (s : CS), Rest B → (B.foldl (cstep ws ss) s).held = s.held ∧ (B.foldl (cstep ws ss) s).bh = s.bh
  | [], s, _ => ⟨rfl, rfl⟩
  | it :: r, s, h => by
    have hr : Rest r := fun i m => h i (List.mem_cons_of_mem _ m)
    have h0 := h it List.mem_cons_self
    cases it with
    | inp x w => cases h0.1
    | reg x w r => cases h0.2
    | sig o y w e => exact rest_same ws ss r (cstep ws ss s (.sig o y w e)) hr
    | nxt y e => exact rest_same ws ss r (cstep ws ss s (.nxt y e)) hr
/-- what is held is what the names say -/
theorem bh_env (ws ss : List Nat) (A : List It0) : Leafy A → (A.map It0.nm).Nodup → ∀ x ∈ (cst ws ss A).held, (cst ws ss A).bh x = (cst ws ss A).env x := by
  induction A using list_snoc with
  | h0 => intro _ _ x h; nomatch h
  | h1 l a ih =>
    intro hl hn x hx
    rw [List.map_append, List.nodup_append] at hn
    have hl' : Leafy l := fun i m => hl i (List.mem_append_left _ m)
    have ih := ih hl' hn.1
    rw [cst_app1] at hx ⊢
    have hnm : ∀ y ∈ (cst ws ss l).held, y ≠ a.nm := fun y hy => by
      rw [cst_held] at hy
      obtain ⟨⟨z, w⟩, hz, e⟩ := List.mem_map.mp hy
      obtain ⟨it, hit, e2⟩ := List.mem_filterMap.mp hz
      unfold leafOf at e2
      split at e2
      · have e3 := Option.some.inj e2
        have e4 : it.nm = z := congrArg Prod.fst e3
        have e5 : z = y := e
        exact hn.2.2 y (by rw [← e5, ← e4]; exact List.mem_map_of_mem hit) a.nm (by simp)
      · cases e2
    have ha := hl a (List.mem_append_right _ (List.mem_singleton.mpr rfl))
    cases a with
    | inp y w =>
      have hx' : x ∈ (cst ws ss l).held := hx
      exact (ih x hx').trans (updS_ne _ _ (hnm x hx')).symm
    | reg y w r =>
      show updS (cst ws ss l).bh y _ x = updS (cst ws ss l).env y _ x
      by_cases e : x = y
      · rw [e, updS_same, updS_same]
      · rw [updS_ne _ _ e, updS_ne _ _ e]
        have hx' : x ∈ (cst ws ss l).held ++ [y] := hx
        rcases List.mem_append.mp hx' with z | z
        · exact ih x z
        · exact absurd (List.mem_singleton.mp z) e
    | sig o y w e => rcases ha with z | z <;> cases z
    | nxt y e => rcases ha with z | z <;> cases z
theorem nxL_fst (B : List It0) (F : Ex → Nat) : ((nxL B).map fun p => (p.1, F p.2)).map (·.1) = (nxL B).map (·.1) := by rw [List.map_map]; rfl
section
variable {A B : List It0}
theorem lwd_mem (d : Design A B) {it : It0} (h : it ∈ A) : lwd A it.nm = it.wd :=
  foldU_mem (by rw [nm_map]; exact d.nod) (List.mem_map_of_mem (f := fun it : It0 => (it.nm, it.wd)) h)
theorem leafy_named {it : It0} (h : it.isIn = true ∨ it.isReg = true) : it.named = true := by
  cases it with
  | inp x w => rfl
  | reg x w r => rfl
  | sig o x w e => rfl
  | nxt x e => rcases h with z | z <;> cases z
theorem lwd_pos (d : Design A B) {it : It0} (h : it ∈ A) : lwd A it.nm ≠ 0 := by
  rw [lwd_mem d h]
  have := (d.pos it (List.mem_append_left _ h) (leafy_named (d.la it h))).1
  omega
/-- a register's next word -/
def nval (B : List It0) (we env : Str → Nat) (x : Str) : Nat := match (nxL B).lookup x with
  | some e => e.ev we env
  | none => env x
theorem lookup_mem {l : List (Str × Ex)} {x : Str} {e : Ex} (h : l.lookup x = some e) : (x, e) ∈ l := by
  induction l with
  | nil => cases h
  | cons p r ih =>
    obtain ⟨y, e'⟩ := p
    by_cases z : x = y
    · subst z
      rw [List.lookup_cons_self] at h
      cases h
      exact List.mem_cons_self
    · rw [List.lookup_cons, show (x == y) = false from by simpa using z] at h
      exact List.mem_cons_of_mem _ (ih h)
theorem lookup_none {l : List (Str × Ex)} {x : Str} (h : l.lookup x = none) : x ∉ l.map (·.1) := by
  induction l with
  | nil => intro z; nomatch z
  | cons p r ih =>
    obtain ⟨y, e'⟩ := p
    by_cases z : x = y
    · subst z; rw [List.lookup_cons_self] at h; cases h
    · rw [List.lookup_cons, show (x == y) = false from by simpa using z] at h
      intro m
      rcases List.mem_cons.mp m with q | q
      · exact z q
      · exact ih h q
theorem Design.outsE (d : Design A B) (ws ss : List Nat) : outs (cst ws ss (A ++ B)) = (hN A).map (nval B (weFin (lwd A) B) (cst ws ss (A ++ B)).env) := by
  have e0 : cst ws ss (A ++ B) = B.foldl (cstep ws ss) (cst ws ss A) := by unfold cst; rw [List.foldl_append]
  obtain ⟨hE, hW, hS, hX⟩ := d.cA ws ss
  have hh := rest_same ws ss B (cst ws ss A) d.rb
  have hr := cst_rest ws ss B (cst ws ss A) d.rb
  have hsq : SeqOk (cst ws ss A).we B := by rw [hW]; exact d.seq
  have hn := nx_fin ws ss B (cst ws ss A) d.rb hsq
  unfold K14.outs
  rw [e0, hh.1, cst_held]
  apply List.map_congr_left
  intro x hx
  unfold bhFin
  rw [hh.2, hn, hX, List.nil_append, hr.1, hW]
  show foldU (cst ws ss A).bh ((nxL B).map fun p => (p.1, p.2.ev (weFin (lwd A) B) (envFin (lwd A) (cst ws ss A).env B))) x = _
  unfold nval
  cases hl : (nxL B).lookup x with
  | some e =>
    exact foldU_mem (by rw [nxL_fst B fun e => e.ev (weFin (lwd A) B) (envFin (lwd A) (cst ws ss A).env B)]; exact d.nxu) (List.mem_map_of_mem (f := fun p : Str × Ex => (p.1, p.2.ev (weFin (lwd A) B) (envFin (lwd A) (cst ws ss A).env B))) (lookup_mem hl))
  | none =>
    rw [foldU_not (by rw [nxL_fst B fun e => e.ev (weFin (lwd A) B) (envFin (lwd A) (cst ws ss A).env B)]; exact lookup_none hl)]
    have hxh : x ∈ (cst ws ss A).held := by rw [cst_held]; exact hx
    rw [bh_env ws ss A d.la d.nod x hxh]
    have hx0 : lwd A x ≠ 0 := by
      obtain ⟨⟨z, w⟩, hz, e⟩ := List.mem_map.mp hx
      obtain ⟨it, hit, e2⟩ := List.mem_filterMap.mp hz
      unfold leafOf at e2
      split at e2
      · have e3 := Option.some.inj e2
        have e4 : it.nm = z := congrArg Prod.fst e3
        have e5 : z = x := e
        rw [← e5, ← e4]
        exact lwd_pos d hit
      · cases e2
    exact (fin_stay (cst ws ss A).env d.rb d.seq hx0).2.symm
theorem cst_envok (ws ss : List Nat) {its : List It0} (hC : CycOk its) (hs : Fits ss (wR its)) (hw : Fits ws (wI its)) : ∀ i, i ≤ its.length → EnvOk (cst ws ss (its.take i)).we (cst ws ss (its.take i)).env
  | 0, _ => fun x => by show 0 < 2 ^ 0; decide
  | i + 1, h => by
    have ih := cst_envok ws ss hC hs hw i (by omega)
    have gi : its[i]? = some its[i] := List.getElem?_eq_getElem (by omega)
    have hok := hC i _ gi
    rw [cst_snoc ws ss gi]
    rw [← cst_we ws ss] at hok
    generalize hit : its[i] = it at *
    cases it with
    | inp x w =>
      obtain ⟨v, g, hv⟩ := hw.get (wI_at gi)
      have ev : ws.getD (cst ws ss (its.take i)).nI 0 = v := by rw [List.getD_eq_getElem?_getD, cst_nI, g]; rfl
      show EnvOk (updS _ x w) (updS _ x (ws.getD _ 0))
      rw [ev]; exact ih.upd hv
    | reg x w r =>
      obtain ⟨v, g, hv⟩ := hs.get (wR_at gi)
      have ev : ss.getD (cst ws ss (its.take i)).nR 0 = v := by rw [List.getD_eq_getElem?_getD, cst_nR, g]; rfl
      show EnvOk (updS _ x w) (updS _ x (ss.getD _ 0))
      rw [ev]; exact ih.upd hv
    | sig o x w e =>
      have hv := ev_lt ih hok.1
      rw [hok.2.1] at hv
      exact ih.upd hv
    | nxt x e => exact ih
theorem rest_take (h : Rest B) (j : Nat) : Rest (B.take j) := fun it m => h it (List.mem_of_mem_take m)
theorem Design.cyc (d : Design A B) : CycOk (A ++ B) := fun i it gi => by
  by_cases hi : i < A.length
  · rw [List.getElem?_append_left hi] at gi
    rcases d.la it (List.mem_of_getElem? gi) with z | z <;> cases it <;> first | trivial | cases z
  · rw [List.getElem?_append_right (by omega)] at gi
    have et : (A ++ B).take i = A ++ B.take (i - A.length) := by rw [List.take_append, List.take_of_length_le (by omega)]
    have e1 : cwe (A ++ B.take (i - A.length)) = weFin (lwd A) (B.take (i - A.length)) := by
      rw [← cst_we [] []]
      unfold cst
      rw [List.foldl_append]
      have h := (cst_rest [] [] (B.take (i - A.length)) (A.foldl (cstep [] []) CS.start) (rest_take d.rb _)).2
      rw [h]
      exact congrArg (fun f => weFin f (B.take (i - A.length))) (d.cA [] []).2.1
    have h := d.seq.at gi
    rw [et, e1]
    have hr := d.rb it (List.mem_of_getElem? gi)
    cases it with
    | inp x w => trivial
    | reg x w r => trivial
    | sig o x w e => exact ⟨h.1, h.2.1, h.2.2.2.1⟩
    | nxt x e => exact ⟨h.1, h.2.1⟩
theorem Design.envok (d : Design A B) {ws ss : List Nat} (hw : Fits ws (wI A)) (hs : Fits ss (wR A)) : EnvOk (weFin (lwd A) B) (cst ws ss (A ++ B)).env := by
  have h := cst_envok ws ss d.cyc (by rw [d.wRe]; exact hs) (by rw [d.wIe]; exact hw) (A ++ B).length (Nat.le_refl _)
  rw [List.take_length] at h
  rw [← d.weE.2 ws ss]; exact h
/-- a register's name and width -/
theorem reg_sel {x : Str} {w : Nat} (h : (x, w) ∈ sel "reg" A) (la : Leafy A) : ∃ r, It0.reg x w r ∈ A := by
  obtain ⟨it, hit, e2⟩ := List.mem_filterMap.mp h
  unfold leafOf at e2
  split at e2
  · rename_i hk
    cases it with
    | inp y v => exact absurd hk (show ¬ ("input" : Str) = "reg" from nm_ne (by decide +kernel))
    | reg y v r =>
      have e3 := Option.some.inj e2
      have e4 : y = x := congrArg Prod.fst e3
      have e5 : v = w := congrArg Prod.snd e3
      subst e4 e5
      exact ⟨r, hit⟩
    | sig o y v e => rcases la _ hit with z | z <;> cases z
    | nxt y e => rcases la _ hit with z | z <;> cases z
  · cases e2
theorem nx_ok : ∀ {B : List It0} {we : Str → Nat}, Rest B → SeqOk we B → ∀ {x e}, It0.nxt x e ∈ B → e.ok (weFin we B)
  | [], _, _, _, _, _, h => nomatch h
  | it :: r, we, h, hs, x, e, hm => by
    have hr : Rest r := fun i m => h i (List.mem_cons_of_mem _ m)
    have h0 := h it List.mem_cons_self
    cases it with
    | inp y w => cases h0.1
    | reg y w r => cases h0.2
    | sig o y w e' =>
      rcases List.mem_cons.mp hm with z | z
      · cases z
      · exact nx_ok (B := r) hr hs.2.2.2.2 z
    | nxt y e' =>
      rcases List.mem_cons.mp hm with z | z
      · cases z
        exact (ev_more (we' := weFin we r) (env := fun _ => 0) (env' := envFin we (fun _ => 0) r) (fun x hx => fin_stay (fun _ => 0) hr hs.2.2 hx) hs.1).1
      · exact nx_ok (B := r) hr hs.2.2 z
theorem nxL_mem {x : Str} {e : Ex} (h : (x, e) ∈ nxL B) : It0.nxt x e ∈ B := by
  obtain ⟨it, hit, e2⟩ := List.mem_filterMap.mp h
  cases it with
  | inp y v => cases e2
  | reg y v r => cases e2
  | sig o y v e => cases e2
  | nxt y e' => cases e2; exact hit
theorem Design.nval_lt (d : Design A B) {ws ss : List Nat} (hw : Fits ws (wI A)) (hs : Fits ss (wR A)) {x : Str} {w r : Nat} (h : It0.reg x w r ∈ A) : nval B (weFin (lwd A) B) (cst ws ss (A ++ B)).env x < 2 ^ w := by
  have eo := d.envok hw hs
  unfold nval
  cases hl : (nxL B).lookup x with
  | some e =>
    have hm := nxL_mem (lookup_mem hl)
    obtain ⟨w2, r2, hm2, ew⟩ := d.nxr x e hm
    have h1 := ev_lt eo (nx_ok d.rb d.seq hm)
    have e1 := lwd_mem d hm2
    have e2 := lwd_mem d h
    have e3 : w2 = w := e1.symm.trans e2
    rw [ew, e3] at h1
    exact h1
  | none =>
    have h0 := lwd_pos d h
    have h1 := eo x
    have e1 : weFin (lwd A) B x = lwd A x := (fin_stay (fun _ => 0) d.rb d.seq h0).1
    have e2 : lwd A x = w := lwd_mem d h
    rw [e1, e2] at h1
    exact h1
theorem paired_maps {α : Type} {l : List α} {f g : α → Nat} {R : Nat → Nat → Prop} (h : ∀ a ∈ l, R (f a) (g a)) : Paired R (l.map f) (l.map g) := by
  induction l with
  | nil => exact .nil
  | cons a l ih => exact .cons (h a List.mem_cons_self) (ih fun b m => h b (List.mem_cons_of_mem _ m))
theorem Design.fits (d : Design A B) {ws ss : List Nat} (hw : Fits ws (wI A)) (hs : Fits ss (wR A)) : Fits (K14.outs (cst ws ss (A ++ B))) (wR A) := by
  rw [d.outsE]
  unfold hN wR
  rw [List.map_map]
  refine paired_maps fun p hp => ?_
  obtain ⟨r, hr⟩ := reg_sel (x := p.1) (w := p.2) hp d.la
  exact d.nval_lt hw hs hr
/-! ### the wish -/
theorem sg_mono (ws ss : List Nat) : ∀ (B : List It0) (s : CS) {y : Str × Nat}, y ∈ s.sg → y ∈ (B.foldl (cstep ws ss) s).sg
  | [], _, _, h => h
  | it :: r, s, y, h => by
    refine sg_mono ws ss r (cstep ws ss s it) ?_
    cases it with
    | inp x w => exact h
    | reg x w r => exact h
    | sig o x w e => exact List.mem_append_left _ h
    | nxt x e => exact h
theorem sg_mem (ws ss : List Nat) : ∀ (B : List It0) (s : CS), Rest B → SeqOk s.we B → ∀ {o x w e}, It0.sig o x w e ∈ B → 1 ≤ w → (x, (B.foldl (cstep ws ss) s).env x) ∈ (B.foldl (cstep ws ss) s).sg
  | [], _, _, _, _, _, _, _, h, _ => nomatch h
  | it :: r, s, h, hs, o, x, w, e, hm, hw => by
    have hr : Rest r := fun i m => h i (List.mem_cons_of_mem _ m)
    have h0 := h it List.mem_cons_self
    cases it with
    | inp y w => cases h0.1
    | reg y w r => cases h0.2
    | nxt y e' =>
      rcases List.mem_cons.mp hm with z | z
      · cases z
      · exact sg_mem ws ss r (cstep ws ss s (.nxt y e')) hr hs.2.2 z hw
    | sig o' y w' e' =>
      rcases List.mem_cons.mp hm with z | z
      · cases z
        refine sg_mono ws ss r (cstep ws ss s (.sig o x w e)) (List.mem_append_right _ ?_)
        have h1 := (cst_rest ws ss r (cstep ws ss s (.sig o x w e)) hr).1
        have h2 := (fin_stay (we := updS s.we x w) (updS s.env x (e.ev s.we s.env)) (x := x) hr hs.2.2.2.2 (by rw [updS_same]; omega)).2
        show (x, (r.foldl (cstep ws ss) (cstep ws ss s (.sig o x w e))).env x) ∈ [(x, e.ev s.we s.env)]
        rw [h1, List.mem_singleton]
        exact congrArg (fun v => (x, v)) (h2.trans (updS_same _ _ _))
      · exact sg_mem ws ss r (cstep ws ss s (.sig o' y w' e')) hr hs.2.2.2.2 z hw
theorem sg_nodup (ws ss : List Nat) : ∀ (B : List It0) (s : CS), Rest B → SeqOk s.we B → (∀ it ∈ B, it.named = true → 1 ≤ it.wd) → (s.sg.map (·.1)).Nodup → (∀ x ∈ s.sg.map (·.1), s.we x ≠ 0) → ((B.foldl (cstep ws ss) s).sg.map (·.1)).Nodup
  | [], _, _, _, _, h, _ => h
  | it :: r, s, h, hs, hp, hn, hz => by
    have hr : Rest r := fun i m => h i (List.mem_cons_of_mem _ m)
    have hpr : ∀ it ∈ r, it.named = true → 1 ≤ it.wd := fun i m => hp i (List.mem_cons_of_mem _ m)
    have h0 := h it List.mem_cons_self
    cases it with
    | inp y w => cases h0.1
    | reg y w r => cases h0.2
    | nxt y e' => exact sg_nodup ws ss r (cstep ws ss s (.nxt y e')) hr hs.2.2 hpr hn hz
    | sig o y w e =>
      have h1 : 1 ≤ w := hp _ List.mem_cons_self rfl
      refine sg_nodup ws ss r (cstep ws ss s (.sig o y w e)) hr hs.2.2.2.2 hpr ?_ ?_
      · show ((s.sg ++ [(y, e.ev s.we s.env)]).map (·.1)).Nodup
        rw [List.map_append, List.nodup_append]
        refine ⟨hn, by simp, fun a ha b hb => ?_⟩
        have hb' : b = y := by simpa using hb
        rw [hb']
        exact fun z => hz a ha (by rw [z]; exact hs.2.2.1)
      · intro x hx
        have hx' : x ∈ (s.sg ++ [(y, e.ev s.we s.env)]).map (·.1) := hx
        rw [List.map_append] at hx'
        show updS s.we y w x ≠ 0
        by_cases e1 : x = y
        · rw [e1, updS_same]; omega
        · rw [updS_ne _ _ e1]
          rcases List.mem_append.mp hx' with z | z
          · exact hz x z
          · exact absurd (by simpa using z) e1
theorem zipV_get : ∀ {l : List (Str × Nat)} {vs : List Nat} {i : Nat} {x : Str} {w v : Nat}, l[i]? = some (x, w) → vs[i]? = some v → (x, v) ∈ zipV l vs
  | [], _, i, _, _, _, h, _ => by simp at h
  | (y, u) :: r, vs, 0, x, w, v, h, g => by
    cases vs with
    | nil => cases g
    | cons a t => cases h; cases g; exact List.mem_cons_self
  | (y, u) :: r, vs, i + 1, x, w, v, h, g => by
    cases vs with
    | nil => cases g
    | cons a t => exact List.mem_cons_of_mem _ (zipV_get (l := r) (vs := t) (i := i) h g)
theorem Design.leaf_val (d : Design A B) {ws ss : List Nat} (x : Str) (v : Nat) (h : (x, v) ∈ zipV (sel "input" A) ws ++ zipV (sel "reg" A) ss) (hx : lwd A x ≠ 0) : (cst ws ss (A ++ B)).env x = v := by
  have e0 : cst ws ss (A ++ B) = B.foldl (cstep ws ss) (cst ws ss A) := by unfold cst; rw [List.foldl_append]
  obtain ⟨hE, hW, hS, hX⟩ := d.cA ws ss
  rw [e0, (cst_rest ws ss B (cst ws ss A) d.rb).1, hW, (fin_stay (cst ws ss A).env d.rb d.seq hx).2, hE]
  have hn : ((leafV ws ss A).map (·.1)).Nodup := by rw [leafV_names A ws ss d.la]; exact d.nod
  exact foldU_mem hn ((leaf_perm A ws ss d.la).mem_iff.mpr h)
theorem sel_mem {c : Str} {x : Str} {w : Nat} (h : (x, w) ∈ sel c A) : ∃ it ∈ A, it.nm = x ∧ it.wd = w := by
  obtain ⟨it, hit, e2⟩ := List.mem_filterMap.mp h
  unfold leafOf at e2
  split at e2
  · have e3 := Option.some.inj e2
    exact ⟨it, hit, congrArg Prod.fst e3, congrArg Prod.snd e3⟩
  · cases e2
theorem Design.c1 (d : Design A B) {ws ss : List Nat} (hw : Fits ws (wI A)) {x : Str} {i : Nat} (h : (gN (A ++ B))[i]? = some x) : ws[i]? = some ((cst ws ss (A ++ B)).env x) := by
  unfold gN at h
  rw [d.sI _ (.inl rfl)] at h
  obtain ⟨⟨y, w⟩, g, e⟩ := get_map h
  have e' : x = y := e
  subst e'
  obtain ⟨v, gv, _⟩ := hw.get (show (wI A)[i]? = some w from put_map (f := fun p : Str × Nat => p.2) g)
  obtain ⟨it, hit, e1, _⟩ := sel_mem (List.mem_of_getElem? g)
  rw [gv, d.leaf_val (ss := ss) x v (List.mem_append_left _ (zipV_get g gv)) (by rw [← e1]; exact lwd_pos d hit)]
theorem Design.c2 (d : Design A B) {ws ss : List Nat} (hs : Fits ss (wR A)) {x : Str} {i : Nat} (h : (hN (A ++ B))[i]? = some x) : ss[i]? = some ((cst ws ss (A ++ B)).env x) := by
  unfold hN at h
  rw [d.sI _ (.inr rfl)] at h
  obtain ⟨⟨y, w⟩, g, e⟩ := get_map h
  have e' : x = y := e
  subst e'
  obtain ⟨v, gv, _⟩ := hs.get (show (wR A)[i]? = some w from put_map (f := fun p : Str × Nat => p.2) g)
  obtain ⟨it, hit, e1, _⟩ := sel_mem (List.mem_of_getElem? g)
  rw [gv, d.leaf_val (ws := ws) x v (List.mem_append_right _ (zipV_get g gv)) (by rw [← e1]; exact lwd_pos d hit)]
theorem leaf_in {it : It0} (h : it ∈ A) (la : it.isIn = true ∨ it.isReg = true) : it.nm ∈ gN A ∨ it.nm ∈ hN A := by
  cases it with
  | inp x w =>
    have h1 : (x, w) ∈ sel "input" A := List.mem_filterMap.mpr ⟨.inp x w, h, if_pos rfl⟩
    exact .inl (List.mem_map.mpr ⟨(x, w), h1, rfl⟩)
  | reg x w r =>
    have h1 : (x, w) ∈ sel "reg" A := List.mem_filterMap.mpr ⟨.reg x w r, h, if_pos rfl⟩
    exact .inr (List.mem_map.mpr ⟨(x, w), h1, rfl⟩)
  | sig o x w e => rcases la with z | z <;> cases z
  | nxt x e => rcases la with z | z <;> cases z
theorem Design.c3 (d : Design A B) (ws ss : List Nat) {x : Str} {w : Nat} (h : (x, w) ∈ namedL (A ++ B)) (h1 : x ∉ gN (A ++ B)) (h2 : x ∉ hN (A ++ B)) : (x, (cst ws ss (A ++ B)).env x) ∈ (cst ws ss (A ++ B)).sg := by
  unfold gN at h1
  unfold hN at h2
  rw [d.sI _ (.inl rfl)] at h1
  rw [d.sI _ (.inr rfl)] at h2
  obtain ⟨it, hit, e⟩ := List.mem_filterMap.mp h
  by_cases hn : it.named = true
  · rw [if_pos hn] at e
    have e2 := Option.some.inj e
    have e3 : it.nm = x := congrArg Prod.fst e2
    rcases List.mem_append.mp hit with z | z
    · rcases leaf_in z (d.la it z) with q | q
      · exact absurd (by rw [← e3]; exact q) h1
      · exact absurd (by rw [← e3]; exact q) h2
    · have hr := d.rb it z
      have hp := d.pos it hit hn
      cases it with
      | inp y w => cases hr.1
      | reg y w r => cases hr.2
      | nxt y e => cases hn
      | sig o y w e =>
        have e0 : cst ws ss (A ++ B) = B.foldl (cstep ws ss) (cst ws ss A) := by unfold cst; rw [List.foldl_append]
        have e4 : y = x := e3
        subst e4
        rw [e0]
        exact sg_mem ws ss B (cst ws ss A) d.rb (by rw [(d.cA ws ss).2.1]; exact d.seq) z hp.1
  · rw [if_neg hn] at e; cases e
theorem Design.sgn (d : Design A B) (ws ss : List Nat) : ((cst ws ss (A ++ B)).sg.map (·.1)).Nodup := by
  have e0 : cst ws ss (A ++ B) = B.foldl (cstep ws ss) (cst ws ss A) := by unfold cst; rw [List.foldl_append]
  obtain ⟨hE, hW, hS, hX⟩ := d.cA ws ss
  rw [e0]
  refine sg_nodup ws ss B (cst ws ss A) d.rb (by rw [hW]; exact d.seq) (fun it m hn => (d.pos it (List.mem_append_right _ m) hn).1) (by rw [hS]; simp) fun x hx => ?_
  rw [hS] at hx; simp at hx
/-- what a machine must tell -/
def MachineOk (A B : List It0) (n : Nat) (gs : List (Nat × Nat)) (ns : List Nat) (w : Nat) (wish : Str) : Prop := ∀ ws ss, Fits ws (wI A) → Fits ss (wR A) →
  (ns.map fun l => lm (nodes n gs) l (zOf ws ss (wI A) (wR A))) = bitsOf (K14.outs (cst ws ss (A ++ B))) (wR A) ∧ ((lm (nodes n gs) w (zOf ws ss (wI A) (wR A))).toNat = (cst ws ss (A ++ B)).env wish)
end
end K14
set_option maxHeartbeats 4000000
/-! one cycle of the design against one tick of the machine -/
namespace K14
open PySem PySem.Spec PyProof.Rows L2
def bInt (b : Bool) : Int := ((b.toNat : Nat) : Int)
theorem dp_bits {K : PySem.W.Frag} {H : Hp} : ∀ l : List Bool, DpAll K H (l.map bval) ((l.map bInt).map PyData.int)
  | [] => .nil
  | b :: l => .cons (.int _) (dp_bits l)
theorem shaped_TI (ns : List Int) (r : Int) : SeqAt.shaped (.tuple [.tuple (ns.map PyData.int), .int r]) = true := by
  simp [SeqAt.shaped, PyData.canLay0, PyData.canLayAll0, PyData.depth, PyData.depthAll, PySem.W.ke_canLayAll0, PySem.W.ke_depthAll]
theorem eqv_TI (ns : List Int) (r : Int) : PyData.eqv (.tuple [.tuple (ns.map PyData.int), .int r]) (.tuple [.tuple (ns.map PyData.int), .int r]) = true := by
  simp [PyData.eqv, PyData.eqvAll, PySem.W.ked_eqvAll]
section
variable {P : Program} {w : World} {K : PySem.W.Frag} {mg : Str → Option Value} {base : Heap}
/-- what stands between cycles: the design, the machine's numbers -/
structure RunIn (K : PySem.W.Frag) (H : Hp) (D : Addr) (nm : Str) (A B : List It0) (own tr tn : Addr) (gs : List (Nat × Nat)) (rs ns : List Nat) (w : Nat) (wish : Str) : Prop where
  d : Design A B
  ds : DsAt K H D nm (A ++ B)
  ow : OwnAt K H own tr tn ((wI A).sum + (wR A).sum) gs (wI A).sum rs ns w
  ok : MachineOk A B ((wI A).sum + (wR A).sum) gs ns w wish
  wi : (wish, 1) ∈ namedL (A ++ B)
theorem RunIn.kp {S : List Addr} {H H' : Hp} {D : Addr} {nm : Str} {A B : List It0} {own tr tn : Addr} {gs : List (Nat × Nat)} {rs ns : List Nat} {w : Nat} {wish : Str} (x : RunIn K H D nm A B own tr tn gs rs ns w wish) (k : Kp S H H') (h : own ∉ S) : RunIn K H' D nm A B own tr tn gs rs ns w wish :=
  ⟨x.d, x.ds.kp k, x.ow.kp k h, x.ok, x.wi⟩
def spCyR (K : PySem.W.Frag) : Sp := fun vs H Q _ => ∃ (D : Addr) (nm : Str) (A B : List It0) (own tr tn : Addr) (gs : List (Nat × Nat)) (rs ns : List Nat) (w : Nat) (wish : Str) (ts tw : Addr) (ss ws : List Nat), vs = [.ref D, .ref own, .str wish, .ref ts, .ref tw] ∧ RunIn K H D nm A B own tr tn gs rs ns w wish ∧
  Fits ws (wI A) ∧ Fits ss (wR A) ∧ SqT K H ts (ss.map nV) ∧ SqT K H tw (ws.map nV) ∧
  ∀ H' t tb, Kp [] H H' → SqT K H' t [.bl true, .ref tb] → SqT K H' tb ((outs (cst ws ss (A ++ B))).map nV) → Q (.ref t) H'
abbrev nm_law_cycle_right : List Str := ["_law_design", "_law_own_here", "_law_wish", "_law_state", "_law_words", "_law_inputs", "_law_registers", "_law_named", "_law_signals", "_law_behind", "_law_told", "_law_due"]
theorem sc_law_cycle_right : FnScope nm_law_cycle_right ["_law_design", "_law_own_here", "_law_wish", "_law_state", "_law_words"] (C8.fnScope (st 60)) := C8.fnScope_by (by decide +kernel)
theorem cal_law_cycle_right (T : Top K mg) : C8.Cal P w K mg base (16) "_law_cycle_right" (spCyR K) [] := by
  refine calD T.d__law_cycle_right sc_law_cycle_right (fun vs H Q E h => ?_) (fun f cdv A outer s0 H vs Q E hr h => ?_)
  ·
    obtain ⟨D, nm, A, B, own, tr, tn, gs, rs, ns, w', wish, ts, tw, ss, ws, rfl, _⟩ := h; rfl
  ·
    obtain ⟨D, nm, A, B, own, tr, tn, gs, rs, ns, w', wish, ts, tw, ss, ws, rfl, hR, hw, hs, hS, hW, q⟩ := h
    have hu := hu_of hr
    refine ⟨_, (pss_cons (ps_asg (C8.pe_c (cal_law_parts T) hr (by decide) rfl (pa_cons (pv 0) pa_nil)) (pg_tup rfl (pgs_cons (pg_name (i := 5) sc_law_cycle_right.nd rfl (Or.inl rfl)) (pgs_cons (pg_name (i := 6) sc_law_cycle_right.nd rfl (Or.inl rfl)) (pgs_cons (pg_name (i := 7) sc_law_cycle_right.nd rfl (Or.inl rfl)) pgs_nil)))))
      (pss_cons (ps_asg (C8.pe_c (cal_law_cycle T) hr (by decide) rfl (pa_cons (pv 0) (pa_cons (pe_ix ix_tup (pe_ix ix_tup (pv 0) pe_int (fun _ _ => rfl)) pe_int (fun _ _ => rfl)) (pa_cons (pv 3) (pa_cons (pv 4) pa_nil))))) (pg_tup rfl (pgs_cons (pg_name (i := 8) sc_law_cycle_right.nd rfl (Or.inl rfl)) (pgs_cons (pg_name (i := 9) sc_law_cycle_right.nd rfl (Or.inl rfl)) pgs_nil))))
      (pss_cons (ps_set (i := 10) sc_law_cycle_right.nd rfl (Or.inl rfl) (C8.pe_c (cal_law_tick T) hr (by decide) rfl (pa_cons (pv 1) (pa_cons (C8.pe_c (cal_law_bits_of T) hr (by decide) rfl (pa_cons (pv 3) (pa_cons (pv 6) pa_nil))) (pa_cons (C8.pe_c (cal_law_bits_of T) hr (by decide) rfl (pa_cons (pv 4) (pa_cons (pv 5) pa_nil))) pa_nil)))))
      (pss_cons (ps_set (i := 11) sc_law_cycle_right.nd rfl (Or.inl rfl) (pe_tup (pa_cons (C8.pe_c (cal_law_bits_of T) hr (by decide) rfl (pa_cons (pv 9) (pa_cons (pv 6) pa_nil))) (pa_cons (C8.pe_c (cal_law_wish_word T) hr (by decide) rfl (pa_cons (pv 0) (pa_cons (pv 2) (pa_cons (pv 3) (pa_cons (pv 4) (pa_cons (pv 8) pa_nil)))))) pa_nil))))
      (pss_one (ps_ret (pe_tup (pa_cons (pe_cmpR (op_eqD hr.units) (pv 10) (pv 11) (nomark _)) (pa_cons (pv 9) pa_nil))))))))), ?_⟩
    have d := hR.d
    have few := d.few
    have lI := wI_len A
    have lR := wR_len A
    have lA : A.length ≤ 40 := by rw [List.length_append] at few; omega
    have wid : ∀ c, c = "input" ∨ c = "reg" → ∀ x ∈ (sel c A).map (·.2), x ≤ 100 := fun c hc x hx => by
      obtain ⟨⟨y, v⟩, hy, e⟩ := List.mem_map.mp hx
      obtain ⟨it, hit, e1, e2⟩ := sel_mem hy
      have := (d.pos it (List.mem_append_left _ hit) (leafy_named (d.la it hit))).2
      have e3 : v = x := e
      omega
    refine ⟨_, rfl, D, nm, A ++ B, rfl, hR.ds, by omega, d.names, fun H1 t1 Li Lr Dn k1 hp => ?_⟩
    refine ⟨t1, _, rfl, hp.tup, rfl, _, _, rfl, _, _, rfl, _, _, rfl, rfl, ?_⟩
    obtain ⟨M, I, hD, hM⟩ := hR.ds.kp k1
    refine ⟨_, rfl, _, rfl, _, _, _, _, rfl, rfl, hD, atI_nat (j := 0) rfl, _, _, _, _, rfl, rfl, hM.1, atI_nat (j := 1) rfl, _, rfl, _, rfl, D, nm, A ++ B, ts, tw, ss, ws, rfl, ⟨M, I, hD, hM⟩, by omega, d.cyc, by rw [d.wRe]; exact hs, by rw [d.wIe]; exact hw, k1.sqT hS, k1.sqT hW, fun H2 t2 tsg tb k2 ht2 hsg htb => ?_⟩
    refine ⟨t2, _, rfl, ht2, rfl, _, _, rfl, _, _, rfl, rfl, ?_⟩
    have k12 := k1.trans k2
    have eLr : H2 Lr = some (.lst ((wR A).map nV)) := by rw [k2.at_ _ _ hp.lr (by simp), d.wRe]
    have eLi : H2 Li = some (.lst ((wI A).map nV)) := by rw [k2.at_ _ _ hp.li (by simp), d.wIe]
    refine ⟨_, rfl, _, rfl, _, rfl, ts, Lr, ss, wR A, rfl, k12.sqT hS, eLr, Paired.len hs, by omega, wid "reg" (.inr rfl), fun H3 tbs k3 hbs => ?_⟩
    refine ⟨_, rfl, _, rfl, tw, Li, ws, wI A, rfl, (k12.trans k3).sqT hW, k3.at_ _ _ eLi (by simp), Paired.len hw, by omega, wid "input" (.inl rfl), fun H4 tbw k4 hbw => ?_⟩
    have k14 := (k12.trans k3).trans k4
    have hz : (bitsOf ws (wI A) ++ bitsOf ss (wR A)).length = (wI A).sum + (wR A).sum := by rw [List.length_append, bitsOf_len (Paired.len hw), bitsOf_len (Paired.len hs)]
    obtain ⟨m1, m2⟩ := hR.ok ws ss hw hs
    refine ⟨own, tr, tn, _, gs, _, rs, ns, w', tbs, tbw, bitsOf ss (wR A), bitsOf ws (wI A), rfl, hR.ow.kp k14 (by simp), k4.sqT hbs, hbw, hz, fun H5 t5 t52 k5 h5 h52 => ?_⟩
    have e1 : (ns.map fun l => lm (nodes ((wI A).sum + (wR A).sum) gs) l (bitsOf ws (wI A) ++ bitsOf ss (wR A))) = bitsOf (outs (cst ws ss (A ++ B))) (wR A) := m1
    have e2 : (lm (nodes ((wI A).sum + (wR A).sum) gs) w' (bitsOf ws (wI A) ++ bitsOf ss (wR A))).toNat = (cst ws ss (A ++ B)).env wish := m2
    rw [e1] at h52
    have k15 := k14.trans k5
    have k25 := (k3.trans k4).trans k5
    refine ⟨_, rfl, _, rfl, tb, Lr, outs (cst ws ss (A ++ B)), wR A, rfl, k25.sqT htb, k25.at_ _ _ eLr (by simp), Paired.len (d.fits hw hs), by omega, wid "reg" (.inr rfl), fun H6 t6 k6 h6 => ?_⟩
    have k16 := k15.trans k6
    have hsgl : (cst ws ss (A ++ B)).sg.length ≤ 1000 := by have := (cst_lens ws ss (A ++ B)).1; omega
    refine ⟨_, rfl, _, rfl, _, rfl, _, rfl, _, rfl, D, nm, A ++ B, wish, ts, tw, tsg, ss, ws, (cst ws ss (A ++ B)).sg, (cst ws ss (A ++ B)).env wish, rfl, hR.ds.kp k16, by omega, k16.sqT hS, k16.sqT hW, hsg.kp (k25.trans k6), hsgl, d.sgn ws ss, fun i hi => d.c1 hw hi, fun i hi => d.c2 hs hi, d.c3 ws ss hR.wi, fun H7 k7 => ?_⟩
    refine ⟨(by show 2 ≤ sizeLine; decide), fun t8 nt8 => ?_⟩
    have k8 : Kp [] H7 (upd H7 t8 (.tup [.ref t6, .int ((cst ws ss (A ++ B)).env wish : Int)])) := Kp.refl.new nt8
    have k68 := (k6.trans k7).trans k8
    refine ⟨_, rfl, _, rfl, .tuple [.tuple (((bitsOf (outs (cst ws ss (A ++ B))) (wR A)).map bInt).map PyData.int), .int ((cst ws ss (A ++ B)).env wish : Int)], .tuple [.tuple (((bitsOf (outs (cst ws ss (A ++ B))) (wR A)).map bInt).map PyData.int), .int ((cst ws ss (A ++ B)).env wish : Int)], ?_, ?_, shaped_TI _ _, shaped_TI _ _, _, rfl, (by show 2 ≤ sizeLine; decide), fun t9 nt9 => ?_⟩
    · refine .tup (k68.sqT h5) (.cons (.tup (k68.sqT h52) (dp_bits _)) (.cons ?_ .nil))
      unfold bval
      rw [e2]
      exact .int _
    · exact .tup (SqT.of upd_same) (.cons (.tup ((k7.trans k8).sqT h6) (dp_bits _)) (.cons (.int _) .nil))
    · rw [eqv_TI]
      have k9 := k8.new (o := .tup [.bl true, .ref tb]) nt9
      have kz := (k16.trans k7).trans k9
      exact q _ t9 tb kz (SqT.of upd_same) ((((k25.trans k6).trans k7).trans k9).sqT htb)
end
end K14
set_option maxHeartbeats 8000000
/-! drawn expressions -/
namespace K14
open PySem PySem.Spec PyProof.Rows L2
theorem dT {a b : Int} (h : a = b) : decide (V.int a = V.int b) = true := decide_eq_true (congrArg V.int h)
theorem dF {a b : Int} (h : ¬ a = b) : decide (V.int a = V.int b) = false := decide_eq_false fun z => h (V.int.inj z)
/-- draws: the pen at p, from c to c' -/
structure PSt (H H' : Hp) (p L : Addr) (c' : Nat) : Prop where
  kp : Kp [p] H H'
  at_ : PenAt H' p L c'
theorem PenAt.ne {H : Hp} {p L a : Addr} {c : Nat} (x : PenAt H p L c) (n : H a = none) : a ≠ p ∧ a ≠ L := by
  obtain ⟨⟨a, d, f, ns, e1, e2, _⟩⟩ := x
  exact ⟨(ne_of_none e1 n).symm, (ne_of_none e2 n).symm⟩
theorem PenAt.neL {H : Hp} {p L a : Addr} {c : Nat} {xs : List V} (x : PenAt H p L c) (n : H a = some (.lst xs)) : a ≠ p := by
  obtain ⟨⟨_, d, f, ns, e1, e2, _⟩⟩ := x
  exact fun e => by rw [e, e1] at n; cases n
theorem PSt.refl {H : Hp} {p L : Addr} {c : Nat} (x : PenAt H p L c) : PSt H H p L c := ⟨.refl, x⟩
theorem PSt.k0 {H H1 H2 : Hp} {p L : Addr} {c : Nat} (x : PSt H H1 p L c) (k : Kp [] H1 H2) : PSt H H2 p L c := ⟨x.kp.trans k.nil, x.at_.kp0 k⟩
theorem PSt.new {H H1 : Hp} {p L a : Addr} {c : Nat} {o : HO} (x : PSt H H1 p L c) (n : H1 a = none) : PSt H (upd H1 a o) p L c := x.k0 (Kp.refl.new n)
theorem PSt.step {H H1 H2 : Hp} {p L : Addr} {c c' : Nat} (x : PSt H H1 p L c) (k : Kp [p] H1 H2) (y : PenAt H2 p L c') : PSt H H2 p L c' := ⟨x.kp.trans k, y⟩
theorem PSt.trans {H H1 H2 : Hp} {p L : Addr} {c c' : Nat} (x : PSt H H1 p L c) (y : PSt H1 H2 p L c') : PSt H H2 p L c' := ⟨x.kp.trans y.kp, y.at_⟩
/-- the list of names with their widths -/
def NlAt (K : PySem.W.Frag) (H : Hp) (nl : Addr) (Ln : List (Str × Nat)) : Prop := ∃ ps : List Addr, H nl = some (.lst (ps.map V.ref)) ∧ Paired (fun p (xw : Str × Nat) => ∃ e, SqT K H p [.ref e, .int (xw.2 : Int)] ∧ SqT K H e [.str "name", .str xw.1]) ps Ln
theorem NlAt.kp {K : PySem.W.Frag} {S : List Addr} {H H' : Hp} {nl : Addr} {Ln : List (Str × Nat)} (x : NlAt K H nl Ln) (k : Kp S H H') (h : nl ∉ S) : NlAt K H' nl Ln := by
  obtain ⟨ps, e, f⟩ := x
  exact ⟨ps, k.at_ _ _ e h, Paired.mapP f fun _ _ ⟨e, h1, h2⟩ => ⟨e, k.sqT h1, k.sqT h2⟩⟩
def NlOk (Ln : List (Str × Nat)) : Prop := Ln.length ≤ 50 ∧ ∀ x ∈ Ln, 1 ≤ x.2 ∧ x.2 ≤ 16 ∧ PyData.strOk x.1 = true
def Cons (Ln : List (Str × Nat)) (we : Str → Nat) : Prop := ∀ x ∈ Ln, we x.1 = x.2
/-- a drawn expression -/
structure DE (K : PySem.W.Frag) (H : Hp) (e : Ex) (v : V) (Ln : List (Str × Nat)) (wd deep : Nat) : Prop where
  at_ : ExAt K H e v
  ok : ∀ we, Cons Ln we → e.ok we ∧ e.wd we = wd
  dep : e.dep ≤ deep
  size : e.size ≤ 4 ^ deep
theorem DE.kp {K : PySem.W.Frag} {S : List Addr} {H H' : Hp} {e : Ex} {v : V} {Ln : List (Str × Nat)} {wd deep : Nat} (x : DE K H e v Ln wd deep) (k : Kp S H H') : DE K H' e v Ln wd deep := ⟨x.at_.kp k, x.ok, x.dep, x.size⟩
structure DEIn (K : PySem.W.Frag) (H : Hp) (p L : Addr) (c : Nat) (nl : Addr) (Ln : List (Str × Nat)) (wd deep dm : Nat) : Prop where
  pen : PenAt H p L c
  nl : NlAt K H nl Ln
  ok : NlOk Ln
  w1 : 1 ≤ wd
  w2 : wd + 3 * deep ≤ 13
  dp : deep < dm
  bud : c + 8 * 4 ^ deep ≤ maxDraws
theorem DEIn.next {K : PySem.W.Frag} {H H1 : Hp} {p L : Addr} {c c1 : Nat} {nl : Addr} {Ln : List (Str × Nat)} {wd wd' k dm : Nat} (x : DEIn K H p L c nl Ln wd (k + 1) (dm + 1)) (S : PSt H H1 p L c1) (h1 : 1 ≤ wd') (h2 : wd' ≤ wd + 3 ∧ wd' + 3 * k ≤ 13) (h3 : c1 + 8 * 4 ^ k ≤ maxDraws) : DEIn K H1 p L c1 nl Ln wd' k dm := by
  obtain ⟨ps, e, f⟩ := x.nl
  exact ⟨S.at_, x.nl.kp S.kp (not1 (x.pen.neL e)), x.ok, h1, h2.2, by have := x.dp; omega, h3⟩
section
variable {P : Program} {w : World} {K : PySem.W.Frag} {mg : Str → Option Value} {base : Heap}
def spDE (K : PySem.W.Frag) (dm : Nat) : Sp := fun vs H Q _ => ∃ (p L : Addr) (c : Nat) (nl : Addr) (Ln : List (Str × Nat)) (wd deep : Nat), vs = [.ref p, .int (wd : Int), .ref nl, .int (deep : Int)] ∧ DEIn K H p L c nl Ln wd deep dm ∧
  ∀ H' e v c', PSt H H' p L c' → c' ≤ c + 8 * 4 ^ deep → DE K H' e v Ln wd deep → Q v H'
theorem cal_de0 (T : Top K mg) : C8.Cal P w K mg base 3 "_law_drawn_expression" (spDE K 0) [] := by
  refine calD T.d__law_drawn_expression (C8.fnScope_by (N := ["_law_pen_here", "_law_width", "_law_names", "_law_deep", "_law_wide", "_law_fit", "_law_way", "_law_kind", "_law_one", "_law_condition", "_law_low", "_law_part"]) (by decide +kernel)) (fun vs H Q E h => ?_) (fun f cdv A outer s0 H vs Q E hr h => ?_)
  · obtain ⟨p, L, c, nl, Ln, wd, deep, _, h, _⟩ := h; have := h.dp; omega
  · obtain ⟨p, L, c, nl, Ln, wd, deep, _, h, _⟩ := h; have := h.dp; omega
theorem lvD {d : Nat} : 1 ≤ 3 + d := by omega
theorem lvD2 {d : Nat} : 2 ≤ 3 + d := by omega
def fitV (vs : List V) (Ln : List (Str × Nat)) (wd : Nat) : List V := ((vs.zip Ln).filter fun x => decide (x.2.2 = wd)).map (·.1)
def fitX (Ln : List (Str × Nat)) (wd : Nat) : List Str := (Ln.filter fun x => decide (x.2 = wd)).map (·.1)
theorem fitX_snoc {Ln : List (Str × Nat)} {wd i : Nat} {x : Str} {u : Nat} (h : Ln[i]? = some (x, u)) : fitX (Ln.take (i + 1)) wd = if u = wd then fitX (Ln.take i) wd ++ [x] else fitX (Ln.take i) wd := by
  unfold fitX
  rw [List.take_add_one, h, List.filter_append, List.map_append]
  by_cases e : u = wd
  · simp [e]
  · simp [e]
def nmD (xs : List Str) : List PyData := xs.map fun x => .tuple [.str "name", .str x]
theorem nmD_lay : ∀ xs : List Str, (∀ x ∈ xs, PyData.strOk x = true) → PyData.canLayAll0 (nmD xs) = true
  | [], _ => rfl
  | x :: r, h => by
    have ih := nmD_lay r fun y m => h y (List.mem_cons_of_mem _ m)
    have h0 := h x List.mem_cons_self
    have h1 : PyData.strOk "name" = true := by decide +kernel
    simp only [nmD, List.map_cons, PyData.canLayAll0, PyData.canLay0] at ih ⊢
    simp [ih, h0, h1]
theorem nmD_depth : ∀ xs : List Str, PyData.depthAll (nmD xs) ≤ 1
  | [] => by show 0 ≤ 1; decide
  | x :: r => by
    have ih := nmD_depth r
    simp only [nmD, List.map_cons, PyData.depthAll, PyData.depth] at ih ⊢
    omega
theorem nmD_shaped (xs : List Str) (hs : ∀ x ∈ xs, PyData.strOk x = true) : SeqAt.shaped (.list (nmD xs)) = true := by
  have h := nmD_depth xs
  simp [SeqAt.shaped, PyData.canLay0, PyData.depth, nmD_lay xs hs]
  omega
theorem eqv_nil (xs : List Str) : PyData.eqv (.list (nmD xs)) (.list []) = decide (xs = []) := by
  cases xs <;> simp [nmD, PyData.eqv, PyData.eqvAll]
theorem dp_names {K : PySem.W.Frag} {H : Hp} : ∀ {ps : List Addr} {xs : List Str}, Paired (fun p x => SqT K H p [.str "name", .str x]) ps xs → DpAll K H (ps.map V.ref) (nmD xs)
  | _, _, .nil => .nil
  | _, _, .cons h t => .cons (.tup h (.cons (.str _) (.cons (.str _) .nil))) (dp_names t)
abbrev nm_law_drawn_expression : List Str := ["_law_pen_here", "_law_width", "_law_names", "_law_deep", "_law_wide", "_law_fit", "_law_way", "_law_kind", "_law_one", "_law_condition", "_law_low", "_law_part"]
theorem sc_law_drawn_expression : FnScope nm_law_drawn_expression ["_law_pen_here", "_law_width", "_law_names", "_law_deep"] (C8.fnScope (st 48)) := C8.fnScope_by (by decide +kernel)
theorem cal_de_s {d : Nat} (T : Top K mg) (ih : C8.Cal P w K mg base (3+d) "_law_drawn_expression" (spDE K d) []) : C8.Cal P w K mg base (3+(d+1)) "_law_drawn_expression" (spDE K (d+1)) [] := by
  refine calD T.d__law_drawn_expression sc_law_drawn_expression (fun vs H Q E h => ?_) (fun f cdv A outer s0 H vs Q E hr h => ?_)
  ·
    obtain ⟨p, L, c, nl, Ln, wd, deep, rfl, _⟩ := h; rfl
  ·
    obtain ⟨p, L, c, nl, Ln, wd, deep, rfl, hI, q⟩ := h
    have hu := hu_of hr
    refine ⟨_, (pss_cons (ps_setLc (i := 5) (own := [("_law_part", 11), ("_law_wide", 4)]) (g := (gTup _ 2 (gCons (gName 11) (gCons (gName 4) gNil))))  rfl sc_law_drawn_expression.nd rfl rfl (sw_true rfl rfl rfl (by decide +kernel)) (pi_list (pv 2)) (blkOk_by (own := [("_law_part", 11), ("_law_wide", 4)]) (N := nm_law_drawn_expression) (sc := C8.fnScope (st 48)) (by decide +kernel)) (fun _ _ _ _ _ => (pg_tup rfl (pgs_cons (pg_name (i := 11) sc_law_drawn_expression.nd rfl (Or.inl rfl)) (pgs_cons (pg_name (i := 4) sc_law_drawn_expression.nd rfl (Or.inl rfl)) pgs_nil)))) (fun _ _ _ _ _ => (pts_one (pt_cmpR op_eq (pv 4) (pv 1) (nomark _)))) (fun _ _ _ _ _ => (pv 11)))
      (C8.pss_cut (ps_set (i := 6) sc_law_drawn_expression.nd rfl (Or.inl rfl) (pe_ifExp (pt_cmpR op_gt (pv 3) pe_int (nomark _)) (C8.pe_c (cal_law_draw T) hr lvD rfl (pa_cons (pv 0) (pa_cons pe_int pa_nil))) pe_int))
      (pss_cons (ps_if (PW.pt (pw_or (pt_cmpR op_eq (pv 6) pe_int (nomark _)) (pw_or1 (pt_cmpR op_eq (pv 6) pe_int (nomark _))))) (C8.pss_cut (ps_if (PW.pt (pw_and (pt_cmpR (op_neD hr.units) (pv 5) (pe_lst pa_nil) (nomark _)) (pw_and1 (pt_cmpR op_gt (C8.pe_c (cal_law_draw T) hr lvD rfl (pa_cons (pv 0) (pa_cons pe_int pa_nil))) pe_int (nomark _))))) (pss_one (ps_ret (C8.pe_c (cal_law_pick T) hr lvD2 rfl (pa_cons (pv 0) (pa_cons (pv 5) pa_nil))))) pss_nil)
      (pss_one (ps_ret (pe_tup (pa_cons pe_str (pa_cons (pv 1) (pa_cons (C8.pe_c (cal_law_draw T) hr lvD rfl (pa_cons (pv 0) (pa_cons (pe_op op_shl pe_int (pv 1)) pa_nil))) pa_nil))))))) pss_nil)
      (pss_cons (ps_if (pt_cmpR op_lt (pv 6) pe_int (nomark _)) (C8.pss_cut (ps_set (i := 7) sc_law_drawn_expression.nd rfl (Or.inl rfl) (pe_ix ix_list (pe_lst (pa_cons pe_str (pa_cons pe_str (pa_cons pe_str (pa_cons pe_str (pa_cons (pe_ifExp (pt_cmpR op_lt (pv 1) pe_int (nomark _)) pe_str pe_str) pa_nil)))))) (pv 6) (fun _ _ => rfl)))
      (pss_cons (ps_set (i := 8) sc_law_drawn_expression.nd rfl (Or.inl rfl) (C8.pe_c ih hr (Nat.le_refl _) rfl (pa_cons (pv 0) (pa_cons (pv 1) (pa_cons (pv 2) (pa_cons (pe_op op_sub (pv 3) pe_int) pa_nil))))))
      (pss_one (ps_ret (pe_tup (pa_cons (pv 7) (pa_cons (pv 8) (pa_cons (C8.pe_c ih hr (Nat.le_refl _) rfl (pa_cons (pv 0) (pa_cons (pv 1) (pa_cons (pv 2) (pa_cons (pe_op op_sub (pv 3) pe_int) pa_nil))))) pa_nil)))))))) pss_nil)
      (pss_cons (ps_if (pt_cmpR op_eq (pv 6) pe_int (nomark _)) (pss_one (ps_ret (pe_tup (pa_cons (C8.pe_c (cal_law_pick T) hr lvD2 rfl (pa_cons (pv 0) (pa_cons (pe_lst (pa_cons pe_str (pa_cons pe_str pa_nil))) pa_nil))) (pa_cons (C8.pe_c ih hr (Nat.le_refl _) rfl (pa_cons (pv 0) (pa_cons (pv 1) (pa_cons (pv 2) (pa_cons (pe_op op_sub (pv 3) pe_int) pa_nil))))) pa_nil))))) pss_nil)
      (pss_cons (ps_if (pt_cmpR op_eq (pv 6) pe_int (nomark _)) (pss_cons (ps_set (i := 8) sc_law_drawn_expression.nd rfl (Or.inl rfl) (C8.pe_c ih hr (Nat.le_refl _) rfl (pa_cons (pv 0) (pa_cons (pv 1) (pa_cons (pv 2) (pa_cons (pe_op op_sub (pv 3) pe_int) pa_nil))))))
      (pss_one (ps_ret (pe_tup (pa_cons (C8.pe_c (cal_law_pick T) hr lvD2 rfl (pa_cons (pv 0) (pa_cons (pe_lst (pa_cons pe_str (pa_cons pe_str pa_nil))) pa_nil))) (pa_cons (pv 8) (pa_cons (C8.pe_c (cal_law_draw T) hr lvD rfl (pa_cons (pv 0) (pa_cons (pe_op op_add (pv 1) pe_int) pa_nil))) pa_nil))))))) pss_nil)
      (pss_cons (ps_if (pt_cmpR op_eq (pv 6) pe_int (nomark _)) (pss_cons (ps_set (i := 9) sc_law_drawn_expression.nd rfl (Or.inl rfl) (C8.pe_c ih hr (Nat.le_refl _) rfl (pa_cons (pv 0) (pa_cons pe_int (pa_cons (pv 2) (pa_cons (pe_op op_sub (pv 3) pe_int) pa_nil))))))
      (pss_cons (ps_set (i := 8) sc_law_drawn_expression.nd rfl (Or.inl rfl) (C8.pe_c ih hr (Nat.le_refl _) rfl (pa_cons (pv 0) (pa_cons (pv 1) (pa_cons (pv 2) (pa_cons (pe_op op_sub (pv 3) pe_int) pa_nil))))))
      (pss_one (ps_ret (pe_tup (pa_cons pe_str (pa_cons (pv 9) (pa_cons (pv 8) (pa_cons (C8.pe_c ih hr (Nat.le_refl _) rfl (pa_cons (pv 0) (pa_cons (pv 1) (pa_cons (pv 2) (pa_cons (pe_op op_sub (pv 3) pe_int) pa_nil))))) pa_nil))))))))) pss_nil)
      (pss_cons (ps_if (PW.pt (pw_and (pt_cmpR op_eq (pv 6) pe_int (nomark _)) (pw_and1 (pt_cmpR op_gt (pv 1) pe_int (nomark _))))) (pss_cons (ps_set (i := 10) sc_law_drawn_expression.nd rfl (Or.inl rfl) (pe_op op_add pe_int (C8.pe_c (cal_law_draw T) hr lvD rfl (pa_cons (pv 0) (pa_cons (pe_op op_sub (pv 1) pe_int) pa_nil)))))
      (pss_cons (ps_set (i := 8) sc_law_drawn_expression.nd rfl (Or.inl rfl) (C8.pe_c ih hr (Nat.le_refl _) rfl (pa_cons (pv 0) (pa_cons (pe_op op_sub (pv 1) (pv 10)) (pa_cons (pv 2) (pa_cons (pe_op op_sub (pv 3) pe_int) pa_nil))))))
      (pss_one (ps_ret (pe_tup (pa_cons pe_str (pa_cons (pe_tup (pa_cons (pv 8) (pa_cons (C8.pe_c ih hr (Nat.le_refl _) rfl (pa_cons (pv 0) (pa_cons (pv 10) (pa_cons (pv 2) (pa_cons (pe_op op_sub (pv 3) pe_int) pa_nil))))) pa_nil))) pa_nil))))))) pss_nil)
      (pss_cons (ps_if (PW.pt (pw_or (pt_cmpR op_eq (pv 6) pe_int (nomark _)) (pw_or1 (pt_cmpR op_gt (pv 1) pe_int (nomark _))))) (pss_cons (ps_set (i := 10) sc_law_drawn_expression.nd rfl (Or.inl rfl) (C8.pe_c (cal_law_draw T) hr lvD rfl (pa_cons (pv 0) (pa_cons pe_int pa_nil))))
      (pss_cons (ps_set (i := 4) sc_law_drawn_expression.nd rfl (Or.inl rfl) (pe_op op_add (pe_op op_add (pv 1) (pv 10)) (C8.pe_c (cal_law_draw T) hr lvD rfl (pa_cons (pv 0) (pa_cons pe_int pa_nil)))))
      (pss_one (ps_ret (pe_tup (pa_cons pe_str (pa_cons (C8.pe_c ih hr (Nat.le_refl _) rfl (pa_cons (pv 0) (pa_cons (pv 4) (pa_cons (pv 2) (pa_cons (pe_op op_sub (pv 3) pe_int) pa_nil))))) (pa_cons (pe_op op_sub (pe_op op_add (pv 1) (pv 10)) pe_int) (pa_cons (pv 10) pa_nil))))))))) pss_nil)
      (pss_cons (ps_set (i := 4) sc_law_drawn_expression.nd rfl (Or.inl rfl) (pe_op op_add pe_int (C8.pe_c (cal_law_draw T) hr lvD rfl (pa_cons (pv 0) (pa_cons pe_int pa_nil)))))
      (pss_cons (ps_set (i := 8) sc_law_drawn_expression.nd rfl (Or.inl rfl) (C8.pe_c ih hr (Nat.le_refl _) rfl (pa_cons (pv 0) (pa_cons (pv 4) (pa_cons (pv 2) (pa_cons (pe_op op_sub (pv 3) pe_int) pa_nil))))))
      (pss_one (ps_ret (pe_tup (pa_cons (C8.pe_c (cal_law_pick T) hr lvD2 rfl (pa_cons (pv 0) (pa_cons (pe_lst (pa_cons pe_str (pa_cons pe_str pa_nil))) pa_nil))) (pa_cons (pv 8) (pa_cons (C8.pe_c ih hr (Nat.le_refl _) rfl (pa_cons (pv 0) (pa_cons (pv 4) (pa_cons (pv 2) (pa_cons (pe_op op_sub (pv 3) pe_int) pa_nil))))) pa_nil))))))))))))))))), ?_⟩
    obtain ⟨ps, en, hn⟩ := hI.nl
    have hne := hI.pen.neL en
    have lok := hI.ok
    have hw1 := hI.w1
    have hw2 := hI.w2
    have hbud := hI.bud
    have hdp := hI.dp
    refine ⟨_, rfl, _, rfl, ⟨_, SqL.of en⟩, fun F nF => ?_⟩
    have S0 := PSt.refl hI.pen
    refine lc_it walk_list (fun i H' => Kp [] H H' ∧ ∃ fs : List Addr, H' F = some (.lst (fs.map V.ref)) ∧ Paired (fun p x => SqT K H' p [.str "name", .str x]) fs (fitX (Ln.take i) wd)) ⟨Kp.refl.new nF, [], upd_same, .nil⟩ (fun i H' _ ⟨k, _⟩ => k.sqL0 (SqL.of en)) ?_ ?_
    · rintro i v H0 H1 hi ⟨k, fs, eF, hfs⟩ ⟨rfl, gv⟩
      obtain ⟨pp, gp, rfl⟩ := get_map gv
      obtain ⟨⟨x, u⟩, gx, e, h1, h2⟩ := Paired.getL hn gp
      have es := fitX_snoc (wd := wd) gx
      have hl : fs.length ≤ 50 := by
        have h1 := Paired.len hfs
        have h2 : (fitX (Ln.take i) wd).length ≤ Ln.length := by
          unfold fitX
          rw [List.length_map]
          exact Nat.le_trans (List.length_filter_le _ _) (by rw [List.length_take]; omega)
        have := lok.1
        omega
      refine ⟨pp, _, rfl, k.sqT h1, rfl, _, _, rfl, _, _, rfl, rfl, ?_⟩
      refine ⟨rfl, ?_⟩
      refine ⟨_, rfl, _, rfl, rfl, _, rfl, ?_⟩
      by_cases hu2 : u = wd
      · refine ifBT (dT (by dsimp only; omega)) ?_
        refine ⟨_, rfl, _, eF, small _ (by rw [List.length_map]; omega), k.put nF, fs ++ [e], by rw [upd_same, List.map_append]; rfl, ?_⟩
        rw [es, if_pos hu2]
        have kp := Kp.putL (o := .lst (fs.map V.ref ++ [.ref e])) eF
        exact Paired.app (Paired.mapP hfs fun _ _ z => kp.sqT z) (.cons (kp.sqT (k.sqT h2)) .nil)
      · refine ifBF (dF (by dsimp only; omega)) ?_
        exact ⟨k, fs, eF, by rw [es, if_neg hu2]; exact hfs⟩
    · rintro H1 ⟨kF, fs, eF, hfs⟩
      have hps : ps.length = Ln.length := Paired.len hn
      rw [List.length_map, hps, List.take_length] at hfs
      have S1 := S0.k0 kF
      have hFp : F ≠ p := S1.at_.neL eF
      refine ⟨fun σ H' => ∃ (way c1 : Nat), σ = [some (.ref p), some (.int (wd : Int)), some (.ref nl), some (.int (deep : Int)), none, some (.ref F), some (.int (way : Int)), none, none, none, none, none] ∧ PSt H H' p L c1 ∧ Kp [p] H1 H' ∧ c1 ≤ c + 1 ∧ way < 13 ∧ (deep = 0 → way = 12), ?_, ?_⟩
      · refine ⟨_, rfl, _, _, rfl, rfl, _, rfl, ite2 (fun e => ?_) (fun e => ?_)⟩
        · have e1 := of_decide_eq_true e
          have hp4 : 1 ≤ 4 ^ deep := Nat.one_le_pow _ _ (by decide)
          refine ⟨_, rfl, p, L, c, 13, rfl, S1.at_, by omega, by decide, by decide, fun H2 d k2 P2 hd => ?_⟩
          exact ⟨d, c + 1, rfl, S1.step k2 P2, k2, by omega, hd, fun z => by omega⟩
        · have e1 : ¬ ((0 : Int) < (deep : Int)) := fun z => e (decide_eq_true z)
          exact ⟨12, c, rfl, S1, Kp.refl, by omega, by decide, fun _ => rfl⟩
      · rintro σ H2 ⟨way, c1, rfl, S2, k2, hc1, hway, hz⟩
        have eF2 := k2.at_ _ _ eF (not1 hFp)
        have hfs2 : Paired (fun p x => SqT K H2 p [.str "name", .str x]) fs (fitX Ln wd) := Paired.mapP hfs fun _ _ z => k2.sqT z
        have hp4 : 1 ≤ 4 ^ deep := Nat.one_le_pow _ _ (by decide)
        have p13 := pow16 (w := wd) (by omega)
        have p14 : 2 ^ wd ≤ 2 ^ 13 := Nat.pow_le_pow_right (by decide) (by omega)
        by_cases h12 : way = 12 ∨ way = 11
        · by_cases h12a : way = 12
          · refine ⟨_, rfl, rfl, _, rfl, ifBT (dT (by omega)) (iteT ?_)⟩
            refine ⟨fun σ H' => ∃ c2 : Nat, σ = [some (.ref p), some (.int (wd : Int)), some (.ref nl), some (.int (deep : Int)), none, some (.ref F), some (.int (way : Int)), none, none, none, none, none] ∧ PSt H H' p L c2 ∧ c2 ≤ c + 2, ?_, ?_⟩
            · have hd1 : DpAll K (upd H2 F (.lst (fs.map V.ref))) [] [] := .nil
              refine ⟨_, rfl, (by show 0 ≤ sizeLine; decide), fun l nl2 => ⟨.list (nmD (fitX Ln wd)), .list [], ?_, .lst (SqL.of upd_same) .nil, nmD_shaped _ (fun x hx => by
                  obtain ⟨y, hy, e⟩ := List.mem_map.mp hx
                  rw [← e]
                  exact (lok.2 _ (List.mem_filter.mp hy).1).2.2), by decide, _, rfl, ?_⟩⟩
              · have kl := Kp.refl.new nl2 (o := .lst []) (S := [])
                exact .lst (SqL.of (kl.at_ _ _ eF2 (by simp))) (dp_names (Paired.mapP hfs2 fun _ _ z => kl.sqT z))
              · rw [eqv_nil]
                have S3 := S2.new (o := .lst []) nl2
                by_cases he : fitX Ln wd = []
                · refine ifBF (by rw [decide_eq_true he]; rfl) (iteF ?_)
                  exact ⟨c1, rfl, S3, by omega⟩
                · refine ifBT (by rw [decide_eq_false he]; rfl) ?_
                  refine ⟨_, rfl, p, L, c1, 5, rfl, S3.at_, by omega, by decide, by decide, fun H4 d k4 P4 hd => ⟨_, _, rfl, rfl, _, rfl, ?_⟩⟩
                  have S4 := S3.step k4 P4
                  by_cases hd0 : 0 < d
                  · refine ifBT (decide_eq_true (by omega)) ?_
                    have eF3 : H4 F = some (.lst (fs.map V.ref)) := k4.at_ _ _ ((Kp.refl.new nl2 (o := .lst []) (S := [])).at_ _ _ eF2 (by simp)) (not1 hFp)
                    have hfs4 : Paired (fun p x => SqT K H4 p [.str "name", .str x]) fs (fitX Ln wd) := Paired.mapP hfs2 fun _ _ z => k4.sqT ((Kp.refl.new nl2 (o := .lst []) (S := [])).sqT z)
                    have hfl : fs.length = (fitX Ln wd).length := Paired.len hfs4
                    have hf0 : 0 < (fitX Ln wd).length := List.length_pos_iff.mpr he
                    have hf5 : (fitX Ln wd).length ≤ 50 := by
                      unfold fitX
                      rw [List.length_map]
                      exact Nat.le_trans (List.length_filter_le _ _) lok.1
                    refine ⟨_, rfl, _, rfl, p, L, c1 + 1, F, _, rfl, S4.at_, by omega, eF3, by rw [List.length_map]; omega, by rw [List.length_map]; omega, fun H5 y k5 P5 hy => ?_⟩
                    obtain ⟨j, hj⟩ := List.getElem?_of_mem hy
                    obtain ⟨f, gf, rfl⟩ := get_map hj
                    obtain ⟨x, gx, hx⟩ := Paired.getL hfs4 gf
                    refine q H5 (.nm x) (.ref f) (c1 + 1 + 1) (S4.step k5 P5) (by omega) ⟨⟨f, rfl, k5.sqT hx⟩, fun we hwe => ?_, Nat.zero_le _, hp4⟩
                    have hm := List.mem_of_getElem? gx
                    obtain ⟨⟨x', u⟩, hm2, ex⟩ := List.mem_map.mp hm
                    have ex' : x' = x := ex
                    subst ex'
                    obtain ⟨hm3, hu3⟩ := List.mem_filter.mp hm2
                    have hu4 : u = wd := of_decide_eq_true hu3
                    have h5 := hwe _ hm3
                    have h6 := lok.2 _ hm3
                    dsimp only at h5 h6
                    exact ⟨⟨by omega, by omega⟩, by show we x' = wd; omega⟩
                  · refine ifBF (decide_eq_false (by omega)) ?_
                    exact ⟨c1 + 1, rfl, S4, by omega⟩
            · rintro σ H3 ⟨c2, rfl, S3, hc2⟩
              refine ⟨_, rfl, _, rfl, _, rfl, _, _, rfl, rfl, cpow1 (by omega), p, L, c2, 2 ^ wd, by dsimp only; rw [shl1]; rfl, S3.at_, by omega, Nat.two_pow_pos _, by omega, fun H4 d k4 P4 hd => ⟨(by show 3 ≤ sizeLine; decide), fun t nt => ?_⟩⟩
              refine q _ (.num wd d) (.ref t) (c2 + 1) ((S3.step k4 P4).new nt) (by omega) ⟨⟨t, rfl, SqT.of upd_same⟩, fun we _ => ⟨⟨hw1, by omega, hd⟩, rfl⟩, Nat.zero_le _, hp4⟩
          · refine ⟨_, rfl, rfl, _, rfl, ifBF (dF (by omega)) ⟨_, rfl, rfl, _, rfl, ifBT (dT (by omega)) ?_⟩⟩
            refine ⟨fun σ H' => ∃ c2 : Nat, σ = [some (.ref p), some (.int (wd : Int)), some (.ref nl), some (.int (deep : Int)), none, some (.ref F), some (.int (way : Int)), none, none, none, none, none] ∧ PSt H H' p L c2 ∧ c2 ≤ c + 2, ?_, ?_⟩
            · have hd1 : DpAll K (upd H2 F (.lst (fs.map V.ref))) [] [] := .nil
              refine ⟨_, rfl, (by show 0 ≤ sizeLine; decide), fun l nl2 => ⟨.list (nmD (fitX Ln wd)), .list [], ?_, .lst (SqL.of upd_same) .nil, nmD_shaped _ (fun x hx => by
                  obtain ⟨y, hy, e⟩ := List.mem_map.mp hx
                  rw [← e]
                  exact (lok.2 _ (List.mem_filter.mp hy).1).2.2), by decide, _, rfl, ?_⟩⟩
              · have kl := Kp.refl.new nl2 (o := .lst []) (S := [])
                exact .lst (SqL.of (kl.at_ _ _ eF2 (by simp))) (dp_names (Paired.mapP hfs2 fun _ _ z => kl.sqT z))
              · rw [eqv_nil]
                have S3 := S2.new (o := .lst []) nl2
                by_cases he : fitX Ln wd = []
                · refine ifBF (by rw [decide_eq_true he]; rfl) (iteF ?_)
                  exact ⟨c1, rfl, S3, by omega⟩
                · refine ifBT (by rw [decide_eq_false he]; rfl) ?_
                  refine ⟨_, rfl, p, L, c1, 5, rfl, S3.at_, by omega, by decide, by decide, fun H4 d k4 P4 hd => ⟨_, _, rfl, rfl, _, rfl, ?_⟩⟩
                  have S4 := S3.step k4 P4
                  by_cases hd0 : 0 < d
                  · refine ifBT (decide_eq_true (by omega)) ?_
                    have eF3 : H4 F = some (.lst (fs.map V.ref)) := k4.at_ _ _ ((Kp.refl.new nl2 (o := .lst []) (S := [])).at_ _ _ eF2 (by simp)) (not1 hFp)
                    have hfs4 : Paired (fun p x => SqT K H4 p [.str "name", .str x]) fs (fitX Ln wd) := Paired.mapP hfs2 fun _ _ z => k4.sqT ((Kp.refl.new nl2 (o := .lst []) (S := [])).sqT z)
                    have hfl : fs.length = (fitX Ln wd).length := Paired.len hfs4
                    have hf0 : 0 < (fitX Ln wd).length := List.length_pos_iff.mpr he
                    have hf5 : (fitX Ln wd).length ≤ 50 := by
                      unfold fitX
                      rw [List.length_map]
                      exact Nat.le_trans (List.length_filter_le _ _) lok.1
                    refine ⟨_, rfl, _, rfl, p, L, c1 + 1, F, _, rfl, S4.at_, by omega, eF3, by rw [List.length_map]; omega, by rw [List.length_map]; omega, fun H5 y k5 P5 hy => ?_⟩
                    obtain ⟨j, hj⟩ := List.getElem?_of_mem hy
                    obtain ⟨f, gf, rfl⟩ := get_map hj
                    obtain ⟨x, gx, hx⟩ := Paired.getL hfs4 gf
                    refine q H5 (.nm x) (.ref f) (c1 + 1 + 1) (S4.step k5 P5) (by omega) ⟨⟨f, rfl, k5.sqT hx⟩, fun we hwe => ?_, Nat.zero_le _, hp4⟩
                    have hm := List.mem_of_getElem? gx
                    obtain ⟨⟨x', u⟩, hm2, ex⟩ := List.mem_map.mp hm
                    have ex' : x' = x := ex
                    subst ex'
                    obtain ⟨hm3, hu3⟩ := List.mem_filter.mp hm2
                    have hu4 : u = wd := of_decide_eq_true hu3
                    have h5 := hwe _ hm3
                    have h6 := lok.2 _ hm3
                    dsimp only at h5 h6
                    exact ⟨⟨by omega, by omega⟩, by show we x' = wd; omega⟩
                  · refine ifBF (decide_eq_false (by omega)) ?_
                    exact ⟨c1 + 1, rfl, S4, by omega⟩
            · rintro σ H3 ⟨c2, rfl, S3, hc2⟩
              refine ⟨_, rfl, _, rfl, _, rfl, _, _, rfl, rfl, cpow1 (by omega), p, L, c2, 2 ^ wd, by dsimp only; rw [shl1]; rfl, S3.at_, by omega, Nat.two_pow_pos _, by omega, fun H4 d k4 P4 hd => ⟨(by show 3 ≤ sizeLine; decide), fun t nt => ?_⟩⟩
              refine q _ (.num wd d) (.ref t) (c2 + 1) ((S3.step k4 P4).new nt) (by omega) ⟨⟨t, rfl, SqT.of upd_same⟩, fun we _ => ⟨⟨hw1, by omega, hd⟩, rfl⟩, Nat.zero_le _, hp4⟩
        · obtain ⟨k, rfl⟩ : ∃ k, deep = k + 1 := ⟨deep - 1, by have : deep ≠ 0 := fun z => h12 (.inl (hz z)); omega⟩
          have hk1 : ((k + 1 : Nat) : Int) - 1 = (k : Int) := by omega
          have hb : 1 ≤ 4 ^ k := Nat.one_le_pow _ _ (by decide)
          have hb4 : 4 ^ (k + 1) = 4 * 4 ^ k := by rw [Nat.pow_succ, Nat.mul_comm]
          rw [hb4] at hbud
          refine ⟨_, rfl, rfl, _, rfl, ifBF (dF (by omega)) ⟨_, rfl, rfl, _, rfl, ifBF (dF (by omega)) ?_⟩⟩
          by_cases h5 : way < 5
          · refine ⟨_, rfl, _, _, rfl, rfl, _, rfl, ifBT (decide_eq_true (by omega)) ?_⟩
            refine ⟨fun σ H' => ∃ (kk : Bop), σ = [some (.ref p), some (.int (wd : Int)), some (.ref nl), some (.int ((k + 1 : Nat) : Int)), none, some (.ref F), some (.int (way : Int)), some (.str kk.nm), none, none, none, none] ∧ PSt H H' p L c1 ∧ (∀ n, kk.len n = n), ?_, ?_⟩
            · have fink : ∀ (l : Addr) (s5 : Str) (kk5 : Bop), s5 = kk5.nm → (∀ n, kk5.len n = n) → H2 l = none → ∃ v, atI [V.str "and", V.str "or", V.str "xor", V.str "plus", V.str s5] (way : Int) = some v ∧ ∃ (kk : Bop), v = .str kk.nm ∧ PSt H (upd H2 l (.lst [V.str "and", V.str "or", V.str "xor", V.str "plus", V.str s5])) p L c1 ∧ (∀ n, kk.len n = n) := fun l s5 kk5 e5 h55 nl5 => by
                have hw5 : way = 0 ∨ way = 1 ∨ way = 2 ∨ way = 3 ∨ way = 4 := by omega
                rcases hw5 with rfl | rfl | rfl | rfl | rfl
                · exact ⟨_, atI_nat (j := 0) rfl, .and, rfl, S2.new nl5, fun _ => rfl⟩
                · exact ⟨_, atI_nat (j := 1) rfl, .or, rfl, S2.new nl5, fun _ => rfl⟩
                · exact ⟨_, atI_nat (j := 2) rfl, .xor, rfl, S2.new nl5, fun _ => rfl⟩
                · exact ⟨_, atI_nat (j := 3) rfl, .plus, rfl, S2.new nl5, fun _ => rfl⟩
                · exact ⟨_, atI_nat (j := 4) rfl, kk5, by rw [e5], S2.new nl5, h55⟩
              refine ⟨_, rfl, _, _, rfl, rfl, _, rfl, ite2 (fun e => ?_) (fun e => ?_)⟩
              · refine ⟨(by show 5 ≤ sizeLine; decide), fun l nl2 => ?_⟩
                obtain ⟨v, g1, kk, rfl, g2, g3⟩ := fink l "times" .times rfl (fun _ => rfl) nl2
                exact ⟨_, rfl, _, _, _, _, rfl, rfl, SqL.of upd_same, g1, kk, rfl, g2, g3⟩
              · refine ⟨(by show 5 ≤ sizeLine; decide), fun l nl2 => ?_⟩
                obtain ⟨v, g1, kk, rfl, g2, g3⟩ := fink l "plus" .plus rfl (fun _ => rfl) nl2
                exact ⟨_, rfl, _, _, _, _, rfl, rfl, SqL.of upd_same, g1, kk, rfl, g2, g3⟩
            · rintro σ H3 ⟨kk, rfl, S3, hkl⟩
              refine ⟨_, rfl, _, rfl, _, rfl, _, rfl, _, _, rfl, rfl, p, L, c1, nl, Ln, wd, k, by dsimp only; rw [hk1]; rfl, hI.next S3 (by omega) (by omega) (by omega), fun H4 e4 v4 c4 S4 q4 E4 => ?_⟩
              refine ⟨_, rfl, _, rfl, _, rfl, _, rfl, _, rfl, _, rfl, _, _, rfl, rfl, p, L, c4, nl, Ln, wd, k, by dsimp only; rw [hk1]; rfl, hI.next (S3.trans S4) (by omega) (by omega) (by omega), fun H5 e5 v5 c5 S5 q5 E5 => ?_⟩
              refine ⟨(by show 3 ≤ sizeLine; decide), fun t nt => ?_⟩
              refine q _ (.bin kk e4 e5) (.ref t) c5 (((S3.trans S4).trans S5).new nt) (by rw [hb4]; omega) ⟨⟨t, v4, v5, rfl, SqT.of upd_same, (E4.at_.kp S5.kp).kp (Kp.refl.new nt (S := [])), E5.at_.kp (Kp.refl.new nt (S := []))⟩, fun we hwe => ?_, ?_, ?_⟩
              · have a := E4.ok we hwe
                have b := E5.ok we hwe
                exact ⟨⟨a.1, b.1, a.2.trans b.2.symm⟩, (hkl _).trans a.2⟩
              · have := E4.dep
                have := E5.dep
                simp only [Ex.dep]; omega
              · have := E4.size
                have := E5.size
                simp only [Ex.size]; rw [hb4]; omega
          refine ⟨_, rfl, _, _, rfl, rfl, _, rfl, ifBF (decide_eq_false (by omega)) ?_⟩
          by_cases hw5 : way = 5
          · refine ⟨_, rfl, rfl, _, rfl, ifBT (dT (by omega)) ?_⟩
            refine ⟨_, rfl, (by show 2 ≤ sizeLine; decide), fun l nl2 => ⟨p, L, c1, l, _, rfl, (S2.new nl2).at_, by omega, upd_same, by decide, by decide, fun H4 y k4 P4 hy => ?_⟩⟩
            have S4' := (S2.new (o := .lst [.str "not", .str "minus"]) nl2).step k4 P4
            obtain ⟨mm, rfl⟩ : ∃ mm : Bool, y = .str (if mm = true then "minus" else "not") := by
              rcases List.mem_cons.mp hy with z | z
              · exact ⟨false, z⟩
              · exact ⟨true, List.mem_singleton.mp z⟩
            refine ⟨_, rfl, _, rfl, _, rfl, _, rfl, _, _, rfl, rfl, p, L, (c1 + 1), nl, Ln, wd, k, by dsimp only; rw [hk1]; rfl, hI.next S4' (by omega) (by omega) (by omega), fun H5 e5 v5 c5 S5 q5 E5 => ?_⟩
            refine ⟨(by show 2 ≤ sizeLine; decide), fun t nt => ?_⟩
            refine q _ (.un mm e5) (.ref t) c5 ((S4'.trans S5).new nt) (by rw [hb4]; omega) ⟨⟨t, v5, rfl, SqT.of upd_same, E5.at_.kp (Kp.refl.new nt (S := []))⟩, fun we hwe => E5.ok we hwe, ?_, ?_⟩
            · have := E5.dep
              simp only [Ex.dep]; omega
            · have := E5.size
              simp only [Ex.size]; rw [hb4]; omega
          by_cases hw6 : way = 6
          · refine ⟨_, rfl, rfl, _, rfl, ifBF (dF (by omega)) ?_⟩
            refine ⟨_, rfl, rfl, _, rfl, ifBT (dT (by omega)) ?_⟩
            refine ⟨_, rfl, _, rfl, _, rfl, _, rfl, _, _, rfl, rfl, p, L, c1, nl, Ln, wd, k, by dsimp only; rw [hk1]; rfl, hI.next S2 (by omega) (by omega) (by omega), fun H4 e4 v4 c4 S4 q4 E4 => ?_⟩
            have S4 := S2.trans S4
            refine ⟨_, rfl, (by show 2 ≤ sizeLine; decide), fun l nl2 => ⟨p, L, c4, l, _, rfl, (S4.new nl2).at_, by omega, upd_same, by decide, by decide, fun H5 y k5 P5 hy => ?_⟩⟩
            have S5 := (S4.new (o := .lst [.str "left", .str "right"]) nl2).step k5 P5
            obtain ⟨lf, rfl⟩ : ∃ lf : Bool, y = .str (mvNm lf) := by
              rcases List.mem_cons.mp hy with z | z
              · exact ⟨true, z⟩
              · exact ⟨false, List.mem_singleton.mp z⟩
            refine ⟨_, rfl, _, rfl, _, rfl, _, _, rfl, rfl, p, L, c4 + 1, wd + 2, rfl, S5.at_, by omega, by omega, by omega, fun H6 dd k6 P6 hdd => ?_⟩
            refine ⟨(by show 3 ≤ sizeLine; decide), fun t nt => ?_⟩
            have k4t := ((Kp.refl.new nl2 (o := .lst [.str "left", .str "right"]) (S := [p])).trans k5).trans k6
            refine q _ (.sh lf e4 dd) (.ref t) (c4 + 1 + 1) ((S5.step k6 P6).new nt) (by rw [hb4]; omega) ⟨⟨t, v4, rfl, SqT.of upd_same, (E4.at_.kp k4t).kp (Kp.refl.new nt (S := []))⟩, fun we hwe => ⟨⟨(E4.ok we hwe).1, by omega⟩, (E4.ok we hwe).2⟩, ?_, ?_⟩
            · have := E4.dep
              simp only [Ex.dep]; omega
            · have := E4.size
              simp only [Ex.size]; rw [hb4]; omega
          by_cases hw7 : way = 7
          · refine ⟨_, rfl, rfl, _, rfl, ifBF (dF (by omega)) ?_⟩
            refine ⟨_, rfl, rfl, _, rfl, ifBF (dF (by omega)) ?_⟩
            refine ⟨_, rfl, rfl, _, rfl, ifBT (dT (by omega)) ?_⟩
            refine ⟨_, rfl, _, rfl, _, rfl, _, _, rfl, rfl, p, L, c1, nl, Ln, 1, k, by dsimp only; rw [hk1]; rfl, hI.next S2 (by omega) (by omega) (by omega), fun H4 e4 v4 c4 S4 q4 E4 => ?_⟩
            have S4 := S2.trans S4
            refine ⟨_, rfl, _, rfl, _, rfl, _, rfl, _, _, rfl, rfl, p, L, c4, nl, Ln, wd, k, by dsimp only; rw [hk1]; rfl, hI.next S4 (by omega) (by omega) (by omega), fun H5 e5 v5 c5 S5 q5 E5 => ?_⟩
            have S45 := S4.trans S5
            refine ⟨_, rfl, _, rfl, _, rfl, _, rfl, _, rfl, _, rfl, _, _, rfl, rfl, p, L, c5, nl, Ln, wd, k, by dsimp only; rw [hk1]; rfl, hI.next S45 (by omega) (by omega) (by omega), fun H6 e6 v6 c6 S6 q6 E6 => ?_⟩
            refine ⟨(by show 4 ≤ sizeLine; decide), fun t nt => ?_⟩
            refine q _ (.ite e4 e5 e6) (.ref t) c6 ((S45.trans S6).new nt) (by rw [hb4]; omega) ⟨⟨t, v4, v5, v6, rfl, SqT.of upd_same, ((E4.at_.kp S5.kp).kp S6.kp).kp (Kp.refl.new nt (S := [])), (E5.at_.kp S6.kp).kp (Kp.refl.new nt (S := [])), E6.at_.kp (Kp.refl.new nt (S := []))⟩, fun we hwe => ?_, ?_, ?_⟩
            · have a := E4.ok we hwe
              have b := E5.ok we hwe
              have cc := E6.ok we hwe
              exact ⟨⟨a.1, b.1, cc.1, a.2, b.2.trans cc.2.symm⟩, b.2⟩
            · have := E4.dep
              have := E5.dep
              have := E6.dep
              simp only [Ex.dep]; omega
            · have := E4.size
              have := E5.size
              have := E6.size
              simp only [Ex.size]; rw [hb4]; omega
          by_cases hw8 : way = 8 ∧ 1 < wd
          · refine ⟨_, rfl, rfl, _, rfl, ifBF (dF (by omega)) ?_⟩
            refine ⟨_, rfl, rfl, _, rfl, ifBF (dF (by omega)) ?_⟩
            refine ⟨_, rfl, rfl, _, rfl, ifBF (dF (by omega)) ?_⟩
            refine ⟨_, rfl, rfl, _, rfl, ifBT (dT (by omega)) ⟨_, rfl, _, _, rfl, rfl, _, rfl, ifBT (decide_eq_true (by omega)) ?_⟩⟩
            have ew1 : (wd : Int) - 1 = ((wd - 1 : Nat) : Int) := by omega
            refine ⟨_, rfl, _, rfl, _, _, rfl, rfl, p, L, c1, wd - 1, by dsimp only; rw [ew1]; rfl, S2.at_, by omega, by omega, by omega, fun H4 dd k4 P4 hdd => ⟨_, _, rfl, rfl, ?_⟩⟩
            have S4' := S2.step k4 P4
            have e1d : (1 : Int) + (dd : Int) = ((1 + dd : Nat) : Int) := by omega
            dsimp only
            rw [e1d]
            have ewl : (wd : Int) - ((1 + dd : Nat) : Int) = ((wd - (1 + dd) : Nat) : Int) := by omega
            refine ⟨_, rfl, _, rfl, _, rfl, _, _, rfl, rfl, _, rfl, _, rfl, _, _, rfl, rfl, p, L, (c1 + 1), nl, Ln, (wd - (1 + dd)), k, by dsimp only; rw [hk1, ewl]; rfl, hI.next S4' (by omega) (by omega) (by omega), fun H5 e5 v5 c5 S5 q5 E5 => ?_⟩
            have S5' := S4'.trans S5
            refine ⟨_, rfl, _, rfl, _, rfl, _, rfl, _, rfl, _, _, rfl, rfl, p, L, c5, nl, Ln, (1 + dd), k, by dsimp only; rw [hk1]; rfl, hI.next S5' (by omega) (by omega) (by omega), fun H6 e6 v6 c6 S6 q6 E6 => ?_⟩
            refine ⟨(by show 2 ≤ sizeLine; decide), fun t1 nt1 => ⟨(by show 2 ≤ sizeLine; decide), fun t nt => ?_⟩⟩
            have kt1 := Kp.refl.new nt1 (o := .tup [v5, v6]) (S := [])
            have kt := Kp.refl.new nt (o := .tup [.str "join", .ref t1]) (S := [])
            refine q _ (.join e5 e6) (.ref t) c6 (((S5'.trans S6).new nt1).new nt) (by rw [hb4]; omega) ⟨⟨t, t1, v5, v6, rfl, SqT.of upd_same, kt.sqT (SqT.of upd_same), ((E5.at_.kp S6.kp).kp kt1).kp kt, (E6.at_.kp kt1).kp kt⟩, fun we hwe => ?_, ?_, ?_⟩
            · have a := E5.ok we hwe
              have b := E6.ok we hwe
              have e9 : (Ex.join e5 e6).wd we = wd := by
                simp only [Ex.wd]
                rw [a.2, b.2]; omega
              exact ⟨⟨a.1, b.1, by have e8 : e5.wd we + e6.wd we = wd := e9; omega⟩, e9⟩
            · have := E5.dep
              have := E6.dep
              simp only [Ex.dep]; omega
            · have := E5.size
              have := E6.size
              simp only [Ex.size]; rw [hb4]; omega
          by_cases hw9 : way = 9
          · refine ⟨_, rfl, rfl, _, rfl, ifBF (dF (by omega)) ?_⟩
            refine ⟨_, rfl, rfl, _, rfl, ifBF (dF (by omega)) ?_⟩
            refine ⟨_, rfl, rfl, _, rfl, ifBF (dF (by omega)) ?_⟩
            refine ⟨_, rfl, rfl, _, rfl, ifBF (dF (by omega)) (iteF ?_)⟩
            refine ⟨_, rfl, rfl, _, rfl, ifBT (dT (by omega)) (iteT ?_)⟩
            refine ⟨_, rfl, p, L, c1, 3, rfl, S2.at_, by omega, by decide, by decide, fun H4 lo k4 P4 hlo => ?_⟩
            have S4' := S2.step k4 P4
            refine ⟨_, rfl, _, rfl, _, _, rfl, rfl, _, rfl, p, L, c1 + 1, 2, rfl, S4'.at_, by omega, by decide, by decide, fun H5 ex k5 P5 hex => ⟨_, _, rfl, rfl, ?_⟩⟩
            have S5' := S4'.step k5 P5
            have ew9 : (wd : Int) + (lo : Int) + (ex : Int) = ((wd + lo + ex : Nat) : Int) := by omega
            dsimp only
            rw [ew9]
            refine ⟨_, rfl, _, rfl, _, rfl, _, rfl, _, _, rfl, rfl, p, L, (c1 + 1 + 1), nl, Ln, (wd + lo + ex), k, by dsimp only; rw [hk1]; rfl, hI.next S5' (by omega) (by omega) (by omega), fun H6 e6 v6 c6 S6 q6 E6 => ?_⟩
            have eh : (wd : Int) + (lo : Int) - 1 = ((wd + lo - 1 : Nat) : Int) := by omega
            refine ⟨_, rfl, _, rfl, _, _, rfl, rfl, _, _, rfl, rfl, _, rfl, (by show 4 ≤ sizeLine; decide), fun t nt => ?_⟩
            have kt := fun (o : HO) => Kp.refl.new nt (o := o) (S := [])
            refine q _ (.sl e6 (wd + lo - 1) lo) (.ref t) c6 ((S5'.trans S6).new nt) (by rw [hb4]; omega) ⟨⟨t, v6, rfl, SqT.of (by rw [upd_same]; dsimp only; rw [eh]), E6.at_.kp (kt _)⟩, fun we hwe => ?_, ?_, ?_⟩
            · have a := E6.ok we hwe
              exact ⟨⟨a.1, by omega, by rw [a.2]; omega⟩, by show wd + lo - 1 - lo + 1 = wd; omega⟩
            · have := E6.dep
              simp only [Ex.dep]; omega
            · have := E6.size
              simp only [Ex.size]; rw [hb4]; omega
          by_cases hw10 : 1 < wd
          · refine ⟨_, rfl, rfl, _, rfl, ifBF (dF (by omega)) ?_⟩
            refine ⟨_, rfl, rfl, _, rfl, ifBF (dF (by omega)) ?_⟩
            refine ⟨_, rfl, rfl, _, rfl, ifBF (dF (by omega)) ?_⟩
            refine ⟨_, rfl, rfl, _, rfl, ifBF (dF (by omega)) (iteF ?_)⟩
            refine ⟨_, rfl, rfl, _, rfl, ifBF (dF (by omega)) ⟨_, rfl, _, _, rfl, rfl, _, rfl, ifBT (decide_eq_true (by omega)) ?_⟩⟩
            refine ⟨_, rfl, p, L, c1, 3, rfl, S2.at_, by omega, by decide, by decide, fun H4 lo k4 P4 hlo => ?_⟩
            have S4' := S2.step k4 P4
            refine ⟨_, rfl, _, rfl, _, _, rfl, rfl, _, rfl, p, L, c1 + 1, 2, rfl, S4'.at_, by omega, by decide, by decide, fun H5 ex k5 P5 hex => ⟨_, _, rfl, rfl, ?_⟩⟩
            have S5' := S4'.step k5 P5
            have ew9 : (wd : Int) + (lo : Int) + (ex : Int) = ((wd + lo + ex : Nat) : Int) := by omega
            dsimp only
            rw [ew9]
            refine ⟨_, rfl, _, rfl, _, rfl, _, rfl, _, _, rfl, rfl, p, L, (c1 + 1 + 1), nl, Ln, (wd + lo + ex), k, by dsimp only; rw [hk1]; rfl, hI.next S5' (by omega) (by omega) (by omega), fun H6 e6 v6 c6 S6 q6 E6 => ?_⟩
            have eh : (wd : Int) + (lo : Int) - 1 = ((wd + lo - 1 : Nat) : Int) := by omega
            refine ⟨_, rfl, _, rfl, _, _, rfl, rfl, _, _, rfl, rfl, _, rfl, (by show 4 ≤ sizeLine; decide), fun t nt => ?_⟩
            have kt := fun (o : HO) => Kp.refl.new nt (o := o) (S := [])
            refine q _ (.sl e6 (wd + lo - 1) lo) (.ref t) c6 ((S5'.trans S6).new nt) (by rw [hb4]; omega) ⟨⟨t, v6, rfl, SqT.of (by rw [upd_same]; dsimp only; rw [eh]), E6.at_.kp (kt _)⟩, fun we hwe => ?_, ?_, ?_⟩
            · have a := E6.ok we hwe
              exact ⟨⟨a.1, by omega, by rw [a.2]; omega⟩, by show wd + lo - 1 - lo + 1 = wd; omega⟩
            · have := E6.dep
              simp only [Ex.dep]; omega
            · have := E6.size
              simp only [Ex.size]; rw [hb4]; omega
          by_cases hw11 : way = 8
          · refine ⟨_, rfl, rfl, _, rfl, ifBF (dF (by omega)) ?_⟩
            refine ⟨_, rfl, rfl, _, rfl, ifBF (dF (by omega)) ?_⟩
            refine ⟨_, rfl, rfl, _, rfl, ifBF (dF (by omega)) ?_⟩
            refine ⟨_, rfl, rfl, _, rfl, ifBT (dT (by omega)) ⟨_, rfl, _, _, rfl, rfl, _, rfl, ifBF (decide_eq_false (by omega)) ?_⟩⟩
            refine ⟨_, rfl, rfl, _, rfl, ifBF (dF (by omega)) ⟨_, rfl, _, _, rfl, rfl, _, rfl, ifBF (decide_eq_false (by omega)) ?_⟩⟩
            have hwd1 : wd = 1 := by omega
            refine ⟨_, rfl, p, L, c1, 3, rfl, S2.at_, by omega, by decide, by decide, fun H4 dd k4 P4 hdd => ⟨_, _, rfl, rfl, ?_⟩⟩
            have S4' := S2.step k4 P4
            have e1d : (1 : Int) + (dd : Int) = ((1 + dd : Nat) : Int) := by omega
            dsimp only
            rw [e1d]
            refine ⟨_, rfl, _, rfl, _, rfl, _, rfl, _, _, rfl, rfl, p, L, (c1 + 1), nl, Ln, (1 + dd), k, by dsimp only; rw [hk1]; rfl, hI.next S4' (by omega) (by omega) (by omega), fun H5 e5 v5 c5 S5 q5 E5 => ?_⟩
            have S5' := S4'.trans S5
            refine ⟨_, rfl, (by show 2 ≤ sizeLine; decide), fun l nl2 => ⟨p, L, c5, l, _, rfl, (S5'.new nl2).at_, by omega, upd_same, by decide, by decide, fun H6 y k6 P6 hy => ?_⟩⟩
            have S6' := (S5'.new (o := .lst [.str "equal", .str "below"]) nl2).step k6 P6
            obtain ⟨kk, rfl, hkk⟩ : ∃ kk : Bop, y = .str kk.nm ∧ ∀ n, kk.len n = 1 := by
              rcases List.mem_cons.mp hy with z | z
              · exact ⟨.equal, z, fun _ => rfl⟩
              · exact ⟨.below, List.mem_singleton.mp z, fun _ => rfl⟩
            refine ⟨_, rfl, _, rfl, _, rfl, _, rfl, _, rfl, _, _, rfl, rfl, p, L, (c5 + 1), nl, Ln, (1 + dd), k, by dsimp only; rw [hk1]; rfl, hI.next S6' (by omega) (by omega) (by omega), fun H7 e7 v7 c7 S7 q7 E7 => ?_⟩
            refine ⟨(by show 3 ≤ sizeLine; decide), fun t nt => ?_⟩
            have k57 := ((Kp.refl.new nl2 (o := .lst [.str "equal", .str "below"]) (S := [p])).trans k6).trans S7.kp
            refine q _ (.bin kk e5 e7) (.ref t) c7 ((S6'.trans S7).new nt) (by rw [hb4]; omega) ⟨⟨t, v5, v7, rfl, SqT.of upd_same, (E5.at_.kp k57).kp (Kp.refl.new nt (S := [])), E7.at_.kp (Kp.refl.new nt (S := []))⟩, fun we hwe => ?_, ?_, ?_⟩
            · have a := E5.ok we hwe
              have b := E7.ok we hwe
              exact ⟨⟨a.1, b.1, a.2.trans b.2.symm⟩, by rw [hwd1]; exact hkk _⟩
            · have := E5.dep
              have := E7.dep
              simp only [Ex.dep]; omega
            · have := E5.size
              have := E7.size
              simp only [Ex.size]; rw [hb4]; omega
          refine ⟨_, rfl, rfl, _, rfl, ifBF (dF (by omega)) ?_⟩
          refine ⟨_, rfl, rfl, _, rfl, ifBF (dF (by omega)) ?_⟩
          refine ⟨_, rfl, rfl, _, rfl, ifBF (dF (by omega)) ?_⟩
          refine ⟨_, rfl, rfl, _, rfl, ifBF (dF (by omega)) (iteF ?_)⟩
          refine ⟨_, rfl, rfl, _, rfl, ifBF (dF (by omega)) ⟨_, rfl, _, _, rfl, rfl, _, rfl, ifBF (decide_eq_false (by omega)) ?_⟩⟩
          have hwd1 : wd = 1 := by omega
          refine ⟨_, rfl, p, L, c1, 3, rfl, S2.at_, by omega, by decide, by decide, fun H4 dd k4 P4 hdd => ⟨_, _, rfl, rfl, ?_⟩⟩
          have S4' := S2.step k4 P4
          have e1d : (1 : Int) + (dd : Int) = ((1 + dd : Nat) : Int) := by omega
          dsimp only
          rw [e1d]
          refine ⟨_, rfl, _, rfl, _, rfl, _, rfl, _, _, rfl, rfl, p, L, (c1 + 1), nl, Ln, (1 + dd), k, by dsimp only; rw [hk1]; rfl, hI.next S4' (by omega) (by omega) (by omega), fun H5 e5 v5 c5 S5 q5 E5 => ?_⟩
          have S5' := S4'.trans S5
          refine ⟨_, rfl, (by show 2 ≤ sizeLine; decide), fun l nl2 => ⟨p, L, c5, l, _, rfl, (S5'.new nl2).at_, by omega, upd_same, by decide, by decide, fun H6 y k6 P6 hy => ?_⟩⟩
          have S6' := (S5'.new (o := .lst [.str "equal", .str "below"]) nl2).step k6 P6
          obtain ⟨kk, rfl, hkk⟩ : ∃ kk : Bop, y = .str kk.nm ∧ ∀ n, kk.len n = 1 := by
            rcases List.mem_cons.mp hy with z | z
            · exact ⟨.equal, z, fun _ => rfl⟩
            · exact ⟨.below, List.mem_singleton.mp z, fun _ => rfl⟩
          refine ⟨_, rfl, _, rfl, _, rfl, _, rfl, _, rfl, _, _, rfl, rfl, p, L, (c5 + 1), nl, Ln, (1 + dd), k, by dsimp only; rw [hk1]; rfl, hI.next S6' (by omega) (by omega) (by omega), fun H7 e7 v7 c7 S7 q7 E7 => ?_⟩
          refine ⟨(by show 3 ≤ sizeLine; decide), fun t nt => ?_⟩
          have k57 := ((Kp.refl.new nl2 (o := .lst [.str "equal", .str "below"]) (S := [p])).trans k6).trans S7.kp
          refine q _ (.bin kk e5 e7) (.ref t) c7 ((S6'.trans S7).new nt) (by rw [hb4]; omega) ⟨⟨t, v5, v7, rfl, SqT.of upd_same, (E5.at_.kp k57).kp (Kp.refl.new nt (S := [])), E7.at_.kp (Kp.refl.new nt (S := []))⟩, fun we hwe => ?_, ?_, ?_⟩
          · have a := E5.ok we hwe
            have b := E7.ok we hwe
            exact ⟨⟨a.1, b.1, a.2.trans b.2.symm⟩, by rw [hwd1]; exact hkk _⟩
          · have := E5.dep
            have := E7.dep
            simp only [Ex.dep]; omega
          · have := E5.size
            have := E7.size
            simp only [Ex.size]; rw [hb4]; omega
end
end K14
set_option maxHeartbeats 200000
/-! a drawn module, in plain words -/
namespace K14
open PySem PySem.Spec PyProof.Rows L2
def nmK (c : Str) (k : Nat) : Str := c ++ ((toString (k : Int) : String) : Str)
def nmI (ni nr nw : Nat) : List Str := (List.range ni).map (nmK "i") ++ (List.range nr).map (nmK "r") ++ (List.range nw).map (nmK "w")
theorem nmI_nodup : ∀ ni, ni < 5 → ∀ nr, nr < 6 → ∀ nw, nw < 3 → (nmI ni nr nw ++ [("y" : Str), "ok"]).Nodup := by decide +kernel
theorem nmI_strOk : ∀ ni, ni < 5 → ∀ nr, nr < 6 → ∀ nw, nw < 3 → ∀ x ∈ nmI ni nr nw, PyData.strOk x = true := by decide +kernel
theorem nmI_zero (ni nr : Nat) : nmI ni nr 0 = (List.range ni).map (nmK "i") ++ (List.range nr).map (nmK "r") := by unfold nmI; simp
/-- the leaves drawn so far -/
structure Lv (A : List It0) (ni nr : Nat) : Prop where
  la : Leafy A
  nms : A.map It0.nm = (List.range ni).map (nmK "i") ++ (List.range nr).map (nmK "r")
  wid : ∀ it ∈ A, 1 ≤ it.wd ∧ it.wd ≤ 2
  rst : ∀ x w r, It0.reg x w r ∈ A → r < 2 ^ w
  sum : (wI A).sum ≤ 2 * ni
  sz : sizes A = 0
  len : A.length = ni + nr
theorem lv_nil : Lv [] 0 0 := ⟨(fun _ h => nomatch h), rfl, (fun _ h => nomatch h), (fun _ _ _ h => nomatch h), Nat.le_refl _, rfl, rfl⟩
theorem sizes_app (a b : List It0) : sizes (a ++ b) = sizes a + sizes b := by unfold sizes; rw [List.map_append, List.sum_append]
theorem Lv.inp {A : List It0} {ni : Nat} (h : Lv A ni 0) {w : Nat} (h1 : 1 ≤ w) (h2 : w ≤ 2) : Lv (A ++ [.inp (nmK "i" ni) w]) (ni + 1) 0 := by
  refine ⟨fun it m => ?_, ?_, fun it m => ?_, fun x w' r m => ?_, ?_, ?_, ?_⟩
  · rcases List.mem_append.mp m with z | z
    · exact h.la it z
    · rw [List.mem_singleton.mp z]; exact .inl rfl
  · rw [List.map_append, h.nms, List.range_succ, List.map_append]; simp [It0.nm]
  · rcases List.mem_append.mp m with z | z
    · exact h.wid it z
    · rw [List.mem_singleton.mp z]; exact ⟨h1, h2⟩
  · rcases List.mem_append.mp m with z | z
    · exact h.rst x w' r z
    · cases List.mem_singleton.mp z
  · rw [wI_app, wI_inp, List.sum_append, List.sum_singleton]; have := h.sum; omega
  · rw [sizes_app, h.sz]; rfl
  · rw [List.length_append, h.len]; rfl
theorem Lv.reg {A : List It0} {ni nr : Nat} (h : Lv A ni nr) {w r : Nat} (h1 : 1 ≤ w) (h2 : w ≤ 2) (h3 : r < 2 ^ w) : Lv (A ++ [.reg (nmK "r" nr) w r]) ni (nr + 1) := by
  refine ⟨fun it m => ?_, ?_, fun it m => ?_, fun x w' r' m => ?_, ?_, ?_, ?_⟩
  · rcases List.mem_append.mp m with z | z
    · exact h.la it z
    · rw [List.mem_singleton.mp z]; exact .inr rfl
  · rw [List.map_append, h.nms, List.range_succ, List.map_append, List.append_assoc]; rfl
  · rcases List.mem_append.mp m with z | z
    · exact h.wid it z
    · rw [List.mem_singleton.mp z]; exact ⟨h1, h2⟩
  · rcases List.mem_append.mp m with z | z
    · exact h.rst x w' r' z
    · cases List.mem_singleton.mp z; exact h3
  · rw [wI_app, wI_reg, List.append_nil]; exact h.sum
  · rw [sizes_app, h.sz]; rfl
  · rw [List.length_append, h.len]; rfl
def lnA (A : List It0) : List (Str × Nat) := A.map fun it => (it.nm, it.wd)
theorem lnA_names (A : List It0) : (lnA A).map (·.1) = A.map It0.nm := nm_map A
/-- the rest drawn so far: nw wires, then registers' nexts -/
structure Rs (A B : List It0) (Ln : List (Str × Nat)) : Prop where
  rb : Rest B
  seq : SeqOk (lwd A) B
  cons : Cons Ln (weFin (lwd A) B)
  zero : ∀ x, x ∉ Ln.map (·.1) → weFin (lwd A) B x = 0
  size : sizes B ≤ 16 * B.length
  pos : ∀ it ∈ B, it.named = true → 1 ≤ it.wd ∧ it.wd ≤ 16
  nxr : ∀ x e, It0.nxt x e ∈ B → ∃ w r, It0.reg x w r ∈ A ∧ e.wd (weFin (lwd A) B) = w ∧ e.ok (weFin (lwd A) B)
  names : (namedL (A ++ B)).map (·.1) = Ln.map (·.1)
theorem namedL_app (a b : List It0) : namedL (a ++ b) = namedL a ++ namedL b := by unfold namedL; rw [List.filterMap_append]
theorem namedL_leafy : ∀ {A : List It0}, Leafy A → namedL A = lnA A
  | [], _ => rfl
  | it :: r, h => by
    have hr : Leafy r := fun i m => h i (List.mem_cons_of_mem _ m)
    have h0 := leafy_named (h it List.mem_cons_self)
    have ih := namedL_leafy hr
    unfold namedL at ih ⊢
    rw [List.filterMap_cons, if_pos h0, ih]; rfl
theorem rs_nil {A : List It0} {ni nr : Nat} (h : Lv A ni nr) (h1 : ni < 5) (h2 : nr < 6) : Rs A [] (lnA A) := by
  have hn : (A.map It0.nm).Nodup := by
    have := nmI_nodup ni h1 nr h2 0 (by decide)
    rw [nmI_zero, ← h.nms] at this
    exact (List.nodup_append.mp this).1
  refine ⟨(fun _ h => nomatch h), trivial, fun x hx => ?_, fun x hx => ?_, Nat.le_refl _, (fun _ h => nomatch h), (fun _ _ h => nomatch h), by rw [List.append_nil, namedL_leafy h.la]⟩
  · exact foldU_mem (by rw [nm_map]; exact hn) hx
  · exact foldU_not hx
theorem Rest.app {a b : List It0} (x : Rest a) (y : Rest b) : Rest (a ++ b) := fun it m => (List.mem_append.mp m).elim (x it) (y it)
theorem seq_snoc {we : Str → Nat} {B : List It0} {o : Bool} {x : Str} {w : Nat} {e : Ex} (h : SeqOk we B) (h1 : e.ok (weFin we B)) (h2 : e.wd (weFin we B) = w) (h3 : weFin we B x = 0) (h4 : e.dep < maxDep) : SeqOk we (B ++ [.sig o x w e]) := SeqOk_app h ⟨h1, h2, h3, h4, trivial⟩
/-- a further signal -/
theorem rs_sig {A B : List It0} {Ln : List (Str × Nat)} (h : Rs A B Ln) {o : Bool} {x : Str} {w : Nat} {e : Ex} (hx : weFin (lwd A) B x = 0) (h1 : e.ok (weFin (lwd A) B)) (h2 : e.wd (weFin (lwd A) B) = w) (h4 : e.dep < maxDep) (hw1 : 1 ≤ w) (hw2 : w ≤ 16) :
    SeqOk (lwd A) (B ++ [.sig o x w e]) ∧ weFin (lwd A) (B ++ [.sig o x w e]) = updS (weFin (lwd A) B) x w ∧ (∀ y e', It0.nxt y e' ∈ B → ∃ w' r, It0.reg y w' r ∈ A ∧ e'.wd (updS (weFin (lwd A) B) x w) = w' ∧ e'.ok (updS (weFin (lwd A) B) x w)) := by
  refine ⟨seq_snoc h.seq h1 h2 hx h4, by rw [weFin_app]; rfl, fun y e' m => ?_⟩
  obtain ⟨w', r, m1, m2, m3⟩ := h.nxr y e' m
  have hm := ev_more (we' := updS (weFin (lwd A) B) x w) (env := fun _ => 0) (env' := fun _ => 0) (fun z hz => ⟨updS_ne _ _ fun q => hz (by rw [q]; exact hx), rfl⟩) m3
  exact ⟨w', r, m1, hm.2.1.trans m2, hm.1⟩
theorem rs_wire {A B : List It0} {Ln : List (Str × Nat)} (h : Rs A B Ln) {x : Str} {w : Nat} {e : Ex} (hx : x ∉ Ln.map (·.1)) (h1 : e.ok (weFin (lwd A) B)) (h2 : e.wd (weFin (lwd A) B) = w) (h4 : e.dep < maxDep) (hs : e.size ≤ 16) (hw1 : 1 ≤ w) (hw2 : w ≤ 16) : Rs A (B ++ [.sig false x w e]) (Ln ++ [(x, w)]) := by
  obtain ⟨g1, g2, g3⟩ := rs_sig h (o := false) (h.zero x hx) h1 h2 h4 hw1 hw2
  refine ⟨h.rb.app fun it m => by rw [List.mem_singleton.mp m]; exact ⟨rfl, rfl⟩, g1, fun p hp => ?_, fun y hy => ?_, ?_, fun it m hn => ?_, fun y e' m => ?_, ?_⟩
  · rw [g2]
    rcases List.mem_append.mp hp with z | z
    · rw [updS_ne _ _ fun q => hx (by rw [← q]; exact List.mem_map_of_mem z)]
      exact h.cons p z
    · rw [List.mem_singleton.mp z, updS_same]
  · rw [g2]
    rw [List.map_append] at hy
    rw [updS_ne _ _ fun q => hy (List.mem_append_right _ (by rw [q]; exact List.mem_singleton.mpr rfl))]
    exact h.zero y fun q => hy (List.mem_append_left _ q)
  · rw [sizes_app, List.length_append]
    have := h.size
    show sizes B + (e.size + 0) ≤ 16 * (B.length + 1)
    omega
  · rcases List.mem_append.mp m with z | z
    · exact h.pos it z hn
    · rw [List.mem_singleton.mp z]; exact ⟨hw1, hw2⟩
  · rw [g2]
    rcases List.mem_append.mp m with z | z
    · exact g3 y e' z
    · cases List.mem_singleton.mp z
  · rw [← List.append_assoc, namedL_app, List.map_append, h.names, List.map_append]; rfl
theorem rs_nxt {A B : List It0} {Ln : List (Str × Nat)} (h : Rs A B Ln) {x : Str} {w r : Nat} {e : Ex} (hm : It0.reg x w r ∈ A) (h1 : e.ok (weFin (lwd A) B)) (h2 : e.wd (weFin (lwd A) B) = w) (h4 : e.dep < maxDep) (hs : e.size ≤ 16) : Rs A (B ++ [.nxt x e]) Ln := by
  have g2 : weFin (lwd A) (B ++ [.nxt x e]) = weFin (lwd A) B := by rw [weFin_app]; rfl
  refine ⟨h.rb.app fun it m => by rw [List.mem_singleton.mp m]; exact ⟨rfl, rfl⟩, SeqOk_app h.seq ⟨h1, h4, trivial⟩, by rw [g2]; exact h.cons, by rw [g2]; exact h.zero, ?_, fun it m hn => ?_, fun y e' m => ?_, ?_⟩
  · rw [sizes_app, List.length_append]
    have := h.size
    show sizes B + (e.size + 0) ≤ 16 * (B.length + 1)
    omega
  · rcases List.mem_append.mp m with z | z
    · exact h.pos it z hn
    · rw [List.mem_singleton.mp z] at hn; cases hn
  · rw [g2]
    rcases List.mem_append.mp m with z | z
    · exact h.nxr y e' z
    · cases List.mem_singleton.mp z
      exact ⟨w, r, hm, h2, h1⟩
  · rw [← List.append_assoc, namedL_app, List.map_append, h.names]; simp [namedL, It0.named]
theorem nxL_app (a b : List It0) : nxL (a ++ b) = nxL a ++ nxL b := by unfold nxL; rw [List.filterMap_append]
/-- the module as drawn -/
theorem mk_design {A B : List It0} {ni nr nw : Nat} (hA : Lv A ni nr) (h1 : ni < 5) (h2 : nr < 6) (h3 : nw < 3) (hB : Rs A B (lnA A ++ Ws)) (hn : (lnA A ++ Ws).map (·.1) = nmI ni nr nw) (hl : B.length ≤ 20) (hnx : ((nxL B).map (·.1)).Nodup)
    {wy : Nat} {ey eo : Ex} (y1 : ey.ok (weFin (lwd A) B)) (y2 : ey.wd (weFin (lwd A) B) = wy) (y3 : ey.dep < maxDep) (y4 : ey.size ≤ 16) (y5 : 1 ≤ wy) (y6 : wy ≤ 2)
    (o1 : ∀ we, Cons (lnA A ++ Ws) we → eo.ok we ∧ eo.wd we = 1) (o3 : eo.dep < maxDep) (o4 : eo.size ≤ 81) (hni : ni ≤ 4) : Design A (B ++ [.sig true "y" wy ey, .sig true "ok" 1 eo]) := by
  have hnd := nmI_nodup ni h1 nr h2 nw h3
  rw [← hn] at hnd
  obtain ⟨nd1, nd2, nd3⟩ := List.nodup_append.mp hnd
  have hy : ("y" : Str) ∉ (lnA A ++ Ws).map (·.1) := fun z => nd3 _ z "y" (by simp) rfl
  have ho : ("ok" : Str) ∉ (lnA A ++ Ws).map (·.1) := fun z => nd3 _ z "ok" (by simp) rfl
  have hyo : ¬ ("ok" : Str) = "y" := nm_ne (by decide +kernel)
  obtain ⟨g1, g2, g3⟩ := rs_sig hB (o := true) (hB.zero "y" hy) y1 y2 y3 y5 (by omega)
  have cons2 : Cons (lnA A ++ Ws) (updS (weFin (lwd A) B) "y" wy) := fun p hp => by
    rw [updS_ne _ _ fun q => hy (by rw [← q]; exact List.mem_map_of_mem hp)]
    exact hB.cons p hp
  have zero2 : updS (weFin (lwd A) B) "y" wy "ok" = 0 := by rw [updS_ne _ _ hyo]; exact hB.zero _ ho
  have e0 : B ++ [It0.sig true "y" wy ey, .sig true "ok" 1 eo] = (B ++ [.sig true "y" wy ey]) ++ [.sig true "ok" 1 eo] := by simp
  have seq2 : SeqOk (lwd A) (B ++ [It0.sig true "y" wy ey, .sig true "ok" 1 eo]) := by
    rw [e0]
    refine seq_snoc g1 ?_ ?_ ?_ o3
    · rw [g2]; exact (o1 _ cons2).1
    · rw [g2]; exact (o1 _ cons2).2
    · rw [g2]; exact zero2
  have we2 : weFin (lwd A) (B ++ [It0.sig true "y" wy ey, .sig true "ok" 1 eo]) = updS (updS (weFin (lwd A) B) "y" wy) "ok" 1 := by rw [e0, weFin_app, g2]; rfl
  have hA0 := hA.len
  refine ⟨hA.la, hB.rb.app (fun it m => ?_), ?_, ?_, seq2, fun it m hn' => ?_, ?_, hA.rst, by have := hA.sum; omega, fun x e m => ?_, ?_, ?_⟩
  · rcases List.mem_cons.mp m with z | z
    · rw [z]; exact ⟨rfl, rfl⟩
    · rw [List.mem_singleton.mp z]; exact ⟨rfl, rfl⟩
  · rw [List.length_append, List.length_append, hA0]
    show ni + nr + (B.length + 2) ≤ 40
    omega
  · have := nmI_nodup ni h1 nr h2 0 (by decide)
    rw [nmI_zero, ← hA.nms] at this
    exact (List.nodup_append.mp this).1
  · rcases List.mem_append.mp m with z | z
    · have := hA.wid it z; omega
    · rcases List.mem_append.mp z with z | z
      · exact hB.pos it z hn'
      · rcases List.mem_cons.mp z with z | z
        · rw [z]; exact ⟨y5, by show wy ≤ 16; omega⟩
        · rw [List.mem_singleton.mp z]; exact ⟨Nat.le_refl _, by show 1 ≤ 16; decide⟩
  · rw [sizes_app, hA.sz, sizes_app]
    have := hB.size
    show 5120 * (0 + (sizes B + (ey.size + (eo.size + 0)))) ≤ 16000000
    omega
  · rw [we2]
    rcases List.mem_append.mp m with z | z
    · obtain ⟨w', r, m1, m2, m3⟩ := g3 x e z
      have hm := ev_more (we' := updS (updS (weFin (lwd A) B) "y" wy) "ok" 1) (env := fun _ => 0) (env' := fun _ => 0) (fun q hq => ⟨updS_ne _ _ fun q' => hq (by rw [q']; exact zero2), rfl⟩) m3
      exact ⟨w', r, m1, hm.2.1.trans m2⟩
    · rcases List.mem_cons.mp z with z | z
      · cases z
      · cases List.mem_singleton.mp z
  · rw [nxL_app, show nxL [It0.sig true "y" wy ey, .sig true "ok" 1 eo] = [] from rfl, List.append_nil]; exact hnx
  · unfold NamesOk
    rw [← List.append_assoc, namedL_app, List.map_append, hB.names]
    exact hnd
end K14
set_option maxHeartbeats 8000000
/-! a drawn module -/
namespace K14
open PySem PySem.Spec PyProof.Rows L2
/-- the module in the making: its items, its names -/
structure DmAt (K : PySem.W.Frag) (H0 H : Hp) (p L : Addr) (c : Nat) (il nl : Addr) (its : List It0) (Ln : List (Str × Nat)) : Prop where
  st : PSt H0 H p L c
  it : ∃ vs, H il = some (.lst vs) ∧ Paired (fun it x => ItAt K H it x) its vs
  nn : NlAt K H nl Ln
  f1 : H0 il = none
  f2 : H0 nl = none
  ne : il ≠ nl
section
variable {K : PySem.W.Frag} {H0 H H2 : Hp} {p L il nl : Addr} {c c2 : Nat} {its : List It0} {Ln : List (Str × Nat)}
theorem DmAt.ip (x : DmAt K H0 H p L c il nl its Ln) : il ≠ p := by obtain ⟨vs, e, _⟩ := x.it; exact x.st.at_.neL e
theorem DmAt.np (x : DmAt K H0 H p L c il nl its Ln) : nl ≠ p := by obtain ⟨ps, e, _⟩ := x.nn; exact x.st.at_.neL e
theorem DmAt.go (x : DmAt K H0 H p L c il nl its Ln) (S : PSt H H2 p L c2) : DmAt K H0 H2 p L c2 il nl its Ln := by
  obtain ⟨vs, e, f⟩ := x.it
  exact ⟨x.st.trans S, ⟨vs, S.kp.at_ _ _ e (not1 x.ip), Paired.mapP f fun _ _ z => ItAt.kp S.kp z⟩, x.nn.kp S.kp (not1 x.np), x.f1, x.f2, x.ne⟩
theorem DmAt.k0 (x : DmAt K H0 H p L c il nl its Ln) (k : Kp [] H H2) : DmAt K H0 H2 p L c il nl its Ln := x.go ⟨k.nil, x.st.at_.kp0 k⟩
theorem PSt.put0 {a : Addr} {o : HO} {l : List V} (x : PSt H0 H p L c) (n : H0 a = none) (e : H a = some (.lst l)) (hl : a ≠ L) : PSt H0 (upd H a o) p L c :=
  ⟨x.kp.put n, x.at_.kp (Kp.putL e) (not1 (x.at_.neL e).symm) (not1 hl.symm)⟩
theorem DmAt.neL (x : DmAt K H0 H p L c il nl its Ln) (h0 : PenAt H0 p L c2) : il ≠ L ∧ nl ≠ L := ⟨(h0.ne x.f1).2, (h0.ne x.f2).2⟩
theorem DmAt.putK (x : DmAt K H0 H p L c il nl its Ln) {a : Addr} {l : List V} {o : HO} (n : H0 a = none) (e : H a = some (.lst l)) (h1 : a ≠ L) (h2 : il ≠ a) (h3 : nl ≠ a) : DmAt K H0 (upd H a o) p L c il nl its Ln := by
  obtain ⟨vs, ei, g⟩ := x.it
  have k : Kp [a] H (upd H a o) := Kp.putL e
  exact ⟨x.st.put0 n e h1, ⟨vs, (upd_ne h2).trans ei, Paired.mapP g fun _ _ z => ItAt.kp k z⟩, x.nn.kp k (not1 h3), x.f1, x.f2, x.ne⟩
theorem DmAt.addIt (x : DmAt K H0 H p L c il nl its Ln) (h0 : PenAt H0 p L c2) {it : It0} {v : V} (hv : ItAt K H it v) : ∃ vs, H il = some (.lst vs) ∧ vs.length = its.length ∧ Kp [il] H (upd H il (.lst (vs ++ [v]))) ∧ DmAt K H0 (upd H il (.lst (vs ++ [v]))) p L c il nl (its ++ [it]) Ln := by
  obtain ⟨vs, e, f⟩ := x.it
  have k : Kp [il] H (upd H il (.lst (vs ++ [v]))) := Kp.putL e
  exact ⟨vs, e, (Paired.len f).symm, k, ⟨x.st.put0 x.f1 e (x.neL h0).1, ⟨_, upd_same, Paired.app (Paired.mapP f fun _ _ z => ItAt.kp k z) (.cons (ItAt.kp k hv) .nil)⟩, x.nn.kp k (not1 x.ne.symm), x.f1, x.f2, x.ne⟩⟩
theorem DmAt.addNm (x : DmAt K H0 H p L c il nl its Ln) (h0 : PenAt H0 p L c2) {t e : Addr} {y : Str} {w : Nat} (h1 : SqT K H t [.ref e, .int (w : Int)]) (h2 : SqT K H e [.str "name", .str y]) :
    ∃ ps : List Addr, H nl = some (.lst (ps.map V.ref)) ∧ ps.length = Ln.length ∧ Kp [nl] H (upd H nl (.lst (ps.map V.ref ++ [.ref t]))) ∧ DmAt K H0 (upd H nl (.lst (ps.map V.ref ++ [.ref t]))) p L c il nl its (Ln ++ [(y, w)]) := by
  obtain ⟨ps, en, f⟩ := x.nn
  obtain ⟨vs, ei, g⟩ := x.it
  have k : Kp [nl] H (upd H nl (.lst (ps.map V.ref ++ [.ref t]))) := Kp.putL en
  exact ⟨ps, en, Paired.len f, k, ⟨x.st.put0 x.f2 en (x.neL h0).2, ⟨vs, (upd_ne x.ne).trans ei, Paired.mapP g fun _ _ z => ItAt.kp k z⟩, ⟨ps ++ [t], by rw [upd_same, List.map_append]; rfl, Paired.app (Paired.mapP f fun _ _ ⟨e, z1, z2⟩ => ⟨e, k.sqT z1, k.sqT z2⟩) (.cons ⟨e, k.sqT h1, k.sqT h2⟩ .nil)⟩, x.f1, x.f2, x.ne⟩⟩
end
def KlAt (K : PySem.W.Frag) (H : Hp) (kl : Addr) (Kt : List (Str × Nat)) : Prop := ∃ qs : List Addr, H kl = some (.lst (qs.map V.ref)) ∧ Paired (fun q (x : Str × Nat) => SqT K H q [.str x.1, .int (x.2 : Int)]) qs Kt
theorem KlAt.kp {K : PySem.W.Frag} {S : List Addr} {H H' : Hp} {kl : Addr} {Kt : List (Str × Nat)} (x : KlAt K H kl Kt) (k : Kp S H H') (h : kl ∉ S) : KlAt K H' kl Kt := by
  obtain ⟨ps, e, f⟩ := x
  exact ⟨ps, k.at_ _ _ e h, Paired.mapP f fun _ _ z => k.sqT z⟩
theorem nmI_succ (ni nr nw : Nat) : nmI ni nr (nw + 1) = nmI ni nr nw ++ [nmK "w" nw] := by unfold nmI; rw [List.range_succ, List.map_append, List.append_assoc, List.append_assoc, List.append_assoc]; rfl
theorem hN_nodup {A : List It0} (la : Leafy A) (h : (A.map It0.nm).Nodup) : ((sel "reg" A).map (·.1)).Nodup := by
  have p := (width_perm A la).map (·.1)
  rw [nm_map] at p
  have h2 := (List.Perm.nodup_iff p).mp h
  unfold leaves at h2
  rw [List.map_append, List.nodup_append] at h2
  exact h2.2.1
theorem nodup_get {l : List Str} (h : l.Nodup) {j : Nat} {x : Str} (g : l[j]? = some x) : x ∉ l.take j := fun m => by
  have e : l = l.take j ++ x :: l.drop (j + 1) := by
    obtain ⟨hl, hv⟩ := List.getElem?_eq_some_iff.mp g
    rw [← hv, List.getElem_cons_drop, List.take_append_drop]
  rw [e, List.nodup_append] at h
  exact h.2.2 x m x List.mem_cons_self rfl
theorem small_k : ∀ k, k < 100 → ((k : Nat) : Int).natAbs.log2 < 1920 := by decide +kernel
theorem nmK_len : ∀ k, k < 100 → ((toString ((k : Nat) : Int) : String) : Str).length ≤ 100 := by decide +kernel
theorem NlOk.of {Ln : List (Str × Nat)} {ni nr nw : Nat} (h : Ln.map (·.1) = nmI ni nr nw) (h1 : ni < 5) (h2 : nr < 6) (h3 : nw < 3) (hw : ∀ x ∈ Ln, 1 ≤ x.2 ∧ x.2 ≤ 16) : NlOk Ln := by
  refine ⟨?_, fun x hx => ⟨(hw x hx).1, (hw x hx).2, nmI_strOk ni h1 nr h2 nw h3 x.1 (by rw [← h]; exact List.mem_map_of_mem hx)⟩⟩
  have e : Ln.length = (nmI ni nr nw).length := by rw [← h, List.length_map]
  rw [e]
  unfold nmI
  simp; omega
section
variable {P : Program} {w : World} {K : PySem.W.Frag} {mg : Str → Option Value} {base : Heap}
theorem cal_de (T : Top K mg) : ∀ d, C8.Cal P w K mg base (3 + d) "_law_drawn_expression" (spDE K d) []
  | 0 => cal_de0 T
  | d + 1 => cal_de_s T (cal_de T d)
theorem cal_law_drawn_expression (T : Top K mg) : C8.Cal P w K mg base 7 "_law_drawn_expression" (spDE K 4) [] := cal_de T 4
/-- no word of these names -/
def NoOdd (its : List It0) : Prop := ∀ x ∈ (namedL its).map (·.1), ¬ x = ("nothing" : Str) ∧ ¬ x = ("" : Str)
theorem nmI_odd : ∀ ni, ni < 5 → ∀ nr, nr < 6 → ∀ x ∈ nmI ni nr 2 ++ [("y" : Str), "ok"], ¬ x = ("nothing" : Str) ∧ ¬ x = ("" : Str) := by decide +kernel
def spDM (K : PySem.W.Frag) : Sp := fun vs H Q _ => ∃ (p L : Addr) (c : Nat) (nm : Str) (ni nr : Nat) (ah : Addr), vs = [.ref p, .str nm, .int (ni : Int), .int (nr : Int), .int 2, .ref ah, .bl false] ∧ PenAt H p L c ∧ c + 4000 ≤ maxDraws ∧ H ah = some (.lst []) ∧ 1 ≤ ni ∧ ni ≤ 4 ∧ nr ≤ 5 ∧
  ∀ H' M I A B c', PSt H H' p L c' → c' ≤ c + 4000 → MoAt K H' M I nm (A ++ B) → Design A B → (("ok" : Str), 1) ∈ namedL (A ++ B) → NoOdd (A ++ B) → Q (.ref M) H'
abbrev nm_law_drawn_module : List Str := ["_law_pen_here", "_law_name", "_law_inputs", "_law_registers", "_law_wires", "_law_ahead", "_law_memories", "_law_items", "_law_names", "_law_k", "_law_width", "_law_kept", "_law_address", "_law_module_here", "_law_ports", "_law_given", "_law_output", "_law_called", "_law_when", "_law_where", "_law_good", "_law_item", "_law_port"]
theorem sc_law_drawn_module : FnScope nm_law_drawn_module ["_law_pen_here", "_law_name", "_law_inputs", "_law_registers", "_law_wires", "_law_ahead", "_law_memories"] (C8.fnScope (st 53)) := C8.fnScope_by (by decide +kernel)
theorem cal_law_drawn_module (T : Top K mg) : C8.Cal P w K mg base (8) "_law_drawn_module" (spDM K) [] := by
  refine calD T.d__law_drawn_module sc_law_drawn_module (fun vs H Q E h => ?_) (fun f cdv A outer s0 H vs Q E hr h => ?_)
  ·
    obtain ⟨p, L, c, nm, ni, nr, ah, rfl, _⟩ := h; rfl
  ·
    obtain ⟨p, L, c, nm, ni, nr, ah, rfl, hP, hc, hah, hni1, hni, hnr, q⟩ := h
    have hu := hu_of hr
    refine ⟨_, (pss_cons (ps_asg (pe_tup (pa_cons (pe_lst pa_nil) (pa_cons (pe_lst pa_nil) pa_nil))) (pg_tup rfl (pgs_cons (pg_name (i := 7) sc_law_drawn_module.nd rfl (Or.inl rfl)) (pgs_cons (pg_name (i := 8) sc_law_drawn_module.nd rfl (Or.inr rfl)) pgs_nil))))
      (pss_cons (ps_for PassesOwn.never rfl (pi_range1 (by rfl) T.f_range (pa_cons (pv 2) pa_nil)) (pg_name (i := 9) sc_law_drawn_module.nd rfl (Or.inl rfl)) (pss_cons (ps_set (i := 10) sc_law_drawn_module.nd rfl (Or.inl rfl) (pe_op op_add pe_int (C8.pe_c (cal_law_draw T) hr (by decide) rfl (pa_cons (pv 0) (pa_cons pe_int pa_nil)))))
      (pss_cons (ps_expr (pe_bm PySem.F.plainAttrs_list PySem.F.slot_list_append PySem.F.type_list_append mt_append (pv 7) (pa_cons (pe_tup (pa_cons pe_str (pa_cons (pe_op op_add_str pe_str (pe_callTy call_str_int (by rfl) T.f_str PyProof.Rows.boot_str (pa_cons (pv 9) pa_nil))) (pa_cons (pv 10) pa_nil)))) pa_nil)))
      (pss_one (ps_expr (pe_bm PySem.F.plainAttrs_list PySem.F.slot_list_append PySem.F.type_list_append mt_append (pv 8) (pa_cons (pe_tup (pa_cons (pe_tup (pa_cons pe_str (pa_cons (pe_op op_add_str pe_str (pe_callTy call_str_int (by rfl) T.f_str PyProof.Rows.boot_str (pa_cons (pv 9) pa_nil))) pa_nil))) (pa_cons (pv 10) pa_nil))) pa_nil)))))))
      (pss_cons (ps_set (i := 11) sc_law_drawn_module.nd rfl (Or.inl rfl) (pe_lst pa_nil))
      (pss_cons (ps_for PassesOwn.never rfl (pi_range1 (by rfl) T.f_range (pa_cons (pv 3) pa_nil)) (pg_name (i := 9) sc_law_drawn_module.nd rfl (Or.inl rfl)) (pss_cons (ps_set (i := 10) sc_law_drawn_module.nd rfl (Or.inl rfl) (pe_op op_add pe_int (C8.pe_c (cal_law_draw T) hr (by decide) rfl (pa_cons (pv 0) (pa_cons pe_int pa_nil)))))
      (pss_cons (ps_expr (pe_bm PySem.F.plainAttrs_list PySem.F.slot_list_append PySem.F.type_list_append mt_append (pv 11) (pa_cons (pe_tup (pa_cons (pe_op op_add_str pe_str (pe_callTy call_str_int (by rfl) T.f_str PyProof.Rows.boot_str (pa_cons (pv 9) pa_nil))) (pa_cons (pv 10) pa_nil))) pa_nil)))
      (pss_cons (ps_expr (pe_bm PySem.F.plainAttrs_list PySem.F.slot_list_append PySem.F.type_list_append mt_append (pv 7) (pa_cons (pe_tup (pa_cons pe_str (pa_cons (pe_op op_add_str pe_str (pe_callTy call_str_int (by rfl) T.f_str PyProof.Rows.boot_str (pa_cons (pv 9) pa_nil))) (pa_cons (pv 10) (pa_cons (C8.pe_c (cal_law_draw T) hr (by decide) rfl (pa_cons (pv 0) (pa_cons (pe_op op_shl pe_int (pv 10)) pa_nil))) pa_nil))))) pa_nil)))
      (pss_one (ps_expr (pe_bm PySem.F.plainAttrs_list PySem.F.slot_list_append PySem.F.type_list_append mt_append (pv 8) (pa_cons (pe_tup (pa_cons (pe_tup (pa_cons pe_str (pa_cons (pe_op op_add_str pe_str (pe_callTy call_str_int (by rfl) T.f_str PyProof.Rows.boot_str (pa_cons (pv 9) pa_nil))) pa_nil))) (pa_cons (pv 10) pa_nil))) pa_nil))))))))
      (pss_cons (ps_if (pt_val (pv 6)) pss_never pss_nil)
      (pss_cons (ps_for PassesOwn.never rfl (pi_list (pv 5)) (pg_name (i := 13) sc_law_drawn_module.nd rfl (Or.inl rfl)) pss_never)
      (pss_cons (ps_for PassesOwn.never rfl (pi_range1 (by rfl) T.f_range (pa_cons (pv 4) pa_nil)) (pg_name (i := 9) sc_law_drawn_module.nd rfl (Or.inl rfl)) (pss_cons (ps_set (i := 10) sc_law_drawn_module.nd rfl (Or.inl rfl) (pe_op op_add pe_int (C8.pe_c (cal_law_draw T) hr (by decide) rfl (pa_cons (pv 0) (pa_cons pe_int pa_nil)))))
      (pss_cons (ps_expr (pe_bm PySem.F.plainAttrs_list PySem.F.slot_list_append PySem.F.type_list_append mt_append (pv 7) (pa_cons (pe_tup (pa_cons pe_str (pa_cons (pe_op op_add_str pe_str (pe_callTy call_str_int (by rfl) T.f_str PyProof.Rows.boot_str (pa_cons (pv 9) pa_nil))) (pa_cons (pv 10) (pa_cons (C8.pe_c (cal_law_drawn_expression T) hr (by decide) rfl (pa_cons (pv 0) (pa_cons (pv 10) (pa_cons (pv 8) (pa_cons pe_int pa_nil))))) pa_nil))))) pa_nil)))
      (pss_one (ps_expr (pe_bm PySem.F.plainAttrs_list PySem.F.slot_list_append PySem.F.type_list_append mt_append (pv 8) (pa_cons (pe_tup (pa_cons (pe_tup (pa_cons pe_str (pa_cons (pe_op op_add_str pe_str (pe_callTy call_str_int (by rfl) T.f_str PyProof.Rows.boot_str (pa_cons (pv 9) pa_nil))) pa_nil))) (pa_cons (pv 10) pa_nil))) pa_nil)))))))
      (pss_cons (ps_for PassesOwn.never rfl (pi_list (pv 11)) (pg_tup rfl (pgs_cons (pg_name (i := 17) sc_law_drawn_module.nd rfl (Or.inl rfl)) (pgs_cons (pg_name (i := 10) sc_law_drawn_module.nd rfl (Or.inl rfl)) pgs_nil))) (pss_one (ps_if (pt_cmpR op_gt (C8.pe_c (cal_law_draw T) hr (by decide) rfl (pa_cons (pv 0) (pa_cons pe_int pa_nil))) pe_int (nomark _)) (pss_one (ps_expr (pe_bm PySem.F.plainAttrs_list PySem.F.slot_list_append PySem.F.type_list_append mt_append (pv 7) (pa_cons (pe_tup (pa_cons pe_str (pa_cons (pv 17) (pa_cons (C8.pe_c (cal_law_drawn_expression T) hr (by decide) rfl (pa_cons (pv 0) (pa_cons (pv 10) (pa_cons (pv 8) (pa_cons pe_int pa_nil))))) pa_nil)))) pa_nil)))) pss_nil)))
      (pss_cons (ps_if (pt_val (pv 6)) pss_never pss_nil)
      (pss_cons (ps_expr (pe_bm PySem.F.plainAttrs_list PySem.F.slot_list_append PySem.F.type_list_append mt_append (pv 7) (pa_cons (pe_tup (pa_cons pe_str (pa_cons pe_str (pa_cons (pe_op op_add pe_int (C8.pe_c (cal_law_draw T) hr (by decide) rfl (pa_cons (pv 0) (pa_cons pe_int pa_nil)))) (pa_cons pe_non pa_nil))))) pa_nil)))
      (pss_cons (ps_asg (pe_op op_catA (pe_slice sl_tupA (pe_ix ix_list (pv 7) (pe_un un_neg pe_int) (fun _ _ => rfl)) po_none (po_some pe_int)) (pe_tup (pa_cons (C8.pe_c (cal_law_drawn_expression T) hr (by decide) rfl (pa_cons (pv 0) (pa_cons (pe_ix ix_tup (pe_ix ix_list (pv 7) (pe_un un_neg pe_int) (fun _ _ => rfl)) pe_int (fun _ _ => rfl)) (pa_cons (pv 8) (pa_cons pe_int pa_nil))))) pa_nil))) (pg_sub (pv 7) (pe_un un_neg pe_int) set_list))
      (pss_cons (ps_set (i := 20) sc_law_drawn_module.nd rfl (Or.inl rfl) (C8.pe_c (cal_law_drawn_expression T) hr (by decide) rfl (pa_cons (pv 0) (pa_cons pe_int (pa_cons (pv 8) (pa_cons pe_int pa_nil))))))
      (C8.pss_cut (ps_if (pt_cmpR op_gt (C8.pe_c (cal_law_draw T) hr (by decide) rfl (pa_cons (pv 0) (pa_cons pe_int pa_nil))) pe_int (nomark _)) (pss_one (ps_set (i := 20) sc_law_drawn_module.nd rfl (Or.inl rfl) (pe_tup (pa_cons pe_str (pa_cons (pv 20) (pa_cons (C8.pe_c (cal_law_drawn_expression T) hr (by decide) rfl (pa_cons (pv 0) (pa_cons pe_int (pa_cons (pv 8) (pa_cons pe_int pa_nil))))) pa_nil)))))) pss_nil)
      (pss_cons (ps_expr (pe_bm PySem.F.plainAttrs_list PySem.F.slot_list_append PySem.F.type_list_append mt_append (pv 7) (pa_cons (pe_tup (pa_cons pe_str (pa_cons pe_str (pa_cons pe_int (pa_cons (pv 20) pa_nil))))) pa_nil)))
      (pss_one (ps_ret (pe_tup (pa_cons pe_str (pa_cons (pv 1) (pa_cons (pe_callTy call_tuple_of (by rfl) T.f_tuple PyProof.Rows.boot_tuple (pa_cons (pv 7) pa_nil)) pa_nil)))))))))))))))))))), ?_⟩
    have hc9 : maxDraws = 1000000 := rfl
    refine ⟨(by show 0 ≤ sizeLine; decide), fun il nil => ⟨(by show 0 ≤ sizeLine; decide), fun nl nnl => ⟨(by show 2 ≤ sizeLine; decide), fun t0 nt0 => ?_⟩⟩⟩
    refine ⟨t0, _, rfl, SqT.of upd_same, rfl, _, _, rfl, _, _, rfl, rfl, ?_⟩
    have d12 : il ≠ nl := fun e => by rw [← e, upd_same] at nnl; cases nnl
    have d1t : il ≠ t0 := fun e => by rw [← e, upd_ne d12, upd_same] at nt0; cases nt0
    have d2t : nl ≠ t0 := fun e => by rw [← e, upd_same] at nt0; cases nt0
    have kA := ((Kp.refl (H := H) (S := [])).new nil (o := .lst [])).new nnl (o := .lst [])
    have n2 : H nl = none := ((Kp.refl (H := H) (S := [])).new nil (o := .lst [])).free nnl
    have kB := kA.new nt0 (o := .tup [.ref il, .ref nl])
    have D0 : DmAt K H _ p L c il nl [] [] := ⟨(PSt.refl hP).k0 kB, ⟨[], by rw [upd_ne d1t, upd_ne d12, upd_same], .nil⟩, ⟨[], by rw [upd_ne d2t, upd_same]; rfl, .nil⟩, nil, n2, d12⟩
    refine ⟨_, rfl, _, rfl, by omega, by omega, ?_⟩
    refine for_it walk_range (fun i σ H' => ∃ (x9 x10 : Option V) (A : List It0) (c1 : Nat), σ = [some (.ref p), some (.str nm), some (.int (ni : Int)), some (.int (nr : Int)), some (.int 2), some (.ref ah), some (.bl false), some (.ref il), some (.ref nl), x9, x10, none, none, none, none, none, none, none, none, none, none, none, none] ∧ DmAt K H H' p L c1 il nl A (lnA A) ∧ c1 ≤ c + i ∧ Lv A i 0 ∧ sel "reg" A = [])
      ⟨none, none, [], c, rfl, D0, by omega, lv_nil, rfl⟩ (fun _ _ _ _ _ => trivial) ?_ ?_
    · rintro i v σ H1 H2 hi ⟨x9, x10, A, c1, rfl, D, hc1, hA, hsr⟩ ⟨e1, ev⟩
      subst e1
      have ev2 : v = .int (i : Int) := ev.trans (congrArg V.int (Int.zero_add _))
      subst ev2
      have hi2 : i < ni := by have : i < ((ni : Int) - 0).toNat := hi; omega
      have hA0 := hA.len
      refine ⟨_, rfl, p, L, c1, 2, rfl, D.st.at_, by omega, by decide, by decide, fun H3 d k3 P3 hd => ⟨_, _, rfl, rfl, ?_⟩⟩
      have e1d : (1 : Int) + (d : Int) = ((1 + d : Nat) : Int) := by omega
      dsimp only
      rw [e1d]
      have D3 := D.go ⟨k3, P3⟩
      obtain ⟨vs0, g0, _⟩ := D3.it
      refine ⟨_, rfl, .inl ⟨rfl, _, SqL.of g0⟩, _, rfl, _, rfl, small_k i (by omega), _, _, rfl, rfl, ?_, _, rfl, (by show 3 ≤ sizeLine; decide), fun t nt => ?_⟩
      · exact Nat.le_of_lt (small _ (by have := nmK_len i (by omega); show 1 + _ ≤ _; omega))
      have D4 := D3.k0 (Kp.refl.new nt (o := .tup [.str "input", .str (nmK "i" i), .int ((1 + d : Nat) : Int)]) (S := []))
      obtain ⟨vs1, a1, a2, a3, D5⟩ := D4.addIt hP (it := .inp (nmK "i" i) (1 + d)) (v := .ref t) ⟨t, _, rfl, SqT.of upd_same, rfl⟩
      refine ⟨il, _, _, rfl, rfl, a1, small _ (by rw [a2]; omega), ?_⟩
      obtain ⟨ps0, g1, _⟩ := D5.nn
      refine ⟨_, rfl, .inl ⟨rfl, _, SqL.of g1⟩, _, rfl, _, rfl, small_k i (by omega), _, _, rfl, rfl, ?_, (by show 2 ≤ sizeLine; decide), fun te nte => ⟨_, rfl, (by show 2 ≤ sizeLine; decide), fun tn ntn => ?_⟩⟩
      · exact Nat.le_of_lt (small _ (by have := nmK_len i (by omega); show 1 + _ ≤ _; omega))
      have kt := Kp.refl.new ntn (o := .tup [.ref te, .int ((1 + d : Nat) : Int)]) (S := [])
      have D6 := (D5.k0 (Kp.refl.new nte (o := .tup [.str "name", .str (nmK "i" i)]) (S := []))).k0 kt
      obtain ⟨ps1, b1, b2, b3, D7⟩ := D6.addNm hP (t := tn) (e := te) (y := nmK "i" i) (w := 1 + d) (SqT.of upd_same) (kt.sqT (SqT.of upd_same))
      refine ⟨nl, _, _, rfl, rfl, b1, small _ (by rw [List.length_map, b2]; unfold lnA; rw [List.length_map]; omega), ?_⟩
      have el : lnA A ++ [(nmK "i" i, 1 + d)] = lnA (A ++ [It0.inp (nmK "i" i) (1 + d)]) := by unfold lnA; rw [List.map_append]; rfl
      refine ⟨some (.int (i : Int)), some (.int ((1 + d : Nat) : Int)), A ++ [.inp (nmK "i" i) (1 + d)], c1 + 1, rfl, ?_, by omega, hA.inp (by omega) (by omega), by rw [sel_app, hsr, sR_inp]; rfl⟩
      rw [← el]; exact D7
    · rintro σ H1 ⟨x9, x10, A, c1, rfl, D, hc1, hA, hsr⟩
      rw [Int.toNat_natCast] at hc1 hA
      refine ⟨(by show 0 ≤ sizeLine; decide), fun kl nkl => ?_⟩
      have nkl0 : H kl = none := D.st.kp.free nkl
      have hki : kl ≠ il := fun e => by
        obtain ⟨vs, e1, _⟩ := D.it
        rw [e, e1] at nkl; cases nkl
      have hkn : kl ≠ nl := fun e => by
        obtain ⟨ps, e1, _⟩ := D.nn
        rw [e, e1] at nkl; cases nkl
      have D := D.k0 (Kp.refl.new nkl (o := .lst []) (S := []))
      have hkp : kl ≠ p := (hP.ne nkl0).1
      have hkL : kl ≠ L := (hP.ne nkl0).2
      refine ⟨_, rfl, _, rfl, by omega, by omega, ?_⟩
      refine for_it walk_range (fun i σ H' => ∃ (x9 x10 : Option V) (A : List It0) (c1 : Nat), σ = [some (.ref p), some (.str nm), some (.int (ni : Int)), some (.int (nr : Int)), some (.int 2), some (.ref ah), some (.bl false), some (.ref il), some (.ref nl), x9, x10, (some (.ref kl)), none, none, none, none, none, none, none, none, none, none, none] ∧ DmAt K H H' p L c1 il nl A (lnA A) ∧ KlAt K H' kl (sel "reg" A) ∧ c1 ≤ c + ni + 2 * i ∧ Lv A ni i)
        ⟨x9, x10, A, c1, rfl, D, ⟨[], upd_same, by rw [hsr]; exact .nil⟩, by omega, hA⟩ (fun _ _ _ _ _ => trivial) ?_ ?_
      · rintro i v σ H2 H3 hi ⟨x9, x10, A, c1, rfl, D, KL, hc1, hA⟩ ⟨e1, ev⟩
        subst e1
        have ev2 : v = .int (i : Int) := ev.trans (congrArg V.int (Int.zero_add _))
        subst ev2
        have hi2 : i < nr := by have : i < ((nr : Int) - 0).toNat := hi; omega
        have hA0 := hA.len
        refine ⟨_, rfl, p, L, c1, 2, rfl, D.st.at_, by omega, by decide, by decide, fun H4 d k4 P4 hd => ⟨_, _, rfl, rfl, ?_⟩⟩
        have e1d : (1 : Int) + (d : Int) = ((1 + d : Nat) : Int) := by omega
        dsimp only
        rw [e1d]
        have D4 := D.go ⟨k4, P4⟩
        have KL4 := KL.kp k4 (not1 hkp)
        obtain ⟨qs, q1, q2⟩ := KL4
        have lqs : qs.length ≤ 100 := by
          have := Paired.len q2
          have := sel_len "reg" A
          omega
        refine ⟨_, rfl, .inl ⟨rfl, _, SqL.of q1⟩, _, rfl, _, rfl, small_k i (by omega), _, _, rfl, rfl, ?_, _, rfl, (by show 2 ≤ sizeLine; decide), fun t nt => ?_⟩
        · exact Nat.le_of_lt (small _ (by have := nmK_len i (by omega); show 1 + _ ≤ _; omega))
        have kt := Kp.refl.new nt (o := .tup [.str (nmK "r" i), .int ((1 + d : Nat) : Int)]) (S := [])
        have D5 := D4.k0 kt
        have q1' := kt.at_ _ _ q1 (by simp)
        refine ⟨kl, _, _, rfl, rfl, q1', small _ (by rw [List.length_map]; omega), ?_⟩
        have D6 := D5.putK (o := .lst (qs.map V.ref ++ [.ref t])) nkl0 q1' hkL hki.symm hkn.symm
        have kk := Kp.putL (o := .lst (qs.map V.ref ++ [.ref t])) q1'
        have KL6 : KlAt K _ kl (sel "reg" A ++ [(nmK "r" i, 1 + d)]) := ⟨qs ++ [t], by rw [upd_same, List.map_append]; rfl, Paired.app (Paired.mapP q2 fun _ _ z => kk.sqT (kt.sqT z)) (.cons (kk.sqT (SqT.of upd_same)) .nil)⟩
        have p2 : 2 ^ (1 + d) ≤ 2 ^ 2 := Nat.pow_le_pow_right (by decide) (by omega)
        obtain ⟨vs0, g0, _⟩ := D6.it
        refine ⟨_, rfl, .inl ⟨rfl, _, SqL.of g0⟩, _, rfl, _, rfl, small_k i (by omega), _, _, rfl, rfl, ?_, _, rfl, _, rfl, _, rfl, _, _, rfl, rfl, cpow1 (by omega), p, L, c1 + 1, 2 ^ (1 + d), by dsimp only; rw [shl1]; rfl, D6.st.at_, by omega, Nat.two_pow_pos _, by omega, fun H7 r k7 P7 hr => ⟨(by show 4 ≤ sizeLine; decide), fun t2 nt2 => ?_⟩⟩
        · exact Nat.le_of_lt (small _ (by have := nmK_len i (by omega); show 1 + _ ≤ _; omega))
        have kt2 := Kp.refl.new nt2 (o := .tup [.str "reg", .str (nmK "r" i), .int ((1 + d : Nat) : Int), .int ((r : Nat) : Int)]) (S := [])
        have D7 := (D6.go ⟨k7, P7⟩).k0 kt2
        have KL7 := (KL6.kp k7 (not1 hkp)).kp kt2 (by simp)
        obtain ⟨vs1, a1, a2, a3, D8⟩ := D7.addIt hP (it := .reg (nmK "r" i) (1 + d) r) (v := .ref t2) ⟨t2, _, rfl, SqT.of upd_same, rfl⟩
        have KL8 := KL7.kp a3 (not1 hki)
        refine ⟨il, _, _, rfl, rfl, a1, small _ (by rw [a2]; omega), ?_⟩
        obtain ⟨ps0, g1, _⟩ := D8.nn
        refine ⟨_, rfl, .inl ⟨rfl, _, SqL.of g1⟩, _, rfl, _, rfl, small_k i (by omega), _, _, rfl, rfl, ?_, (by show 2 ≤ sizeLine; decide), fun te nte => ⟨_, rfl, (by show 2 ≤ sizeLine; decide), fun tn ntn => ?_⟩⟩
        · exact Nat.le_of_lt (small _ (by have := nmK_len i (by omega); show 1 + _ ≤ _; omega))
        have ke := Kp.refl.new nte (o := .tup [.str "name", .str (nmK "r" i)]) (S := [])
        have kn := Kp.refl.new ntn (o := .tup [.ref te, .int ((1 + d : Nat) : Int)]) (S := [])
        have D9 := (D8.k0 ke).k0 kn
        have KL9 := (KL8.kp ke (by simp)).kp kn (by simp)
        obtain ⟨ps1, b1, b2, b3, DA⟩ := D9.addNm hP (t := tn) (e := te) (y := nmK "r" i) (w := 1 + d) (SqT.of upd_same) (kn.sqT (SqT.of upd_same))
        refine ⟨nl, _, _, rfl, rfl, b1, small _ (by rw [List.length_map, b2]; unfold lnA; rw [List.length_map]; omega), ?_⟩
        have el : lnA A ++ [(nmK "r" i, 1 + d)] = lnA (A ++ [It0.reg (nmK "r" i) (1 + d) r]) := by unfold lnA; rw [List.map_append]; rfl
        have es : sel "reg" A ++ [(nmK "r" i, 1 + d)] = sel "reg" (A ++ [It0.reg (nmK "r" i) (1 + d) r]) := by rw [sel_app, sR_reg]
        refine ⟨some (.int (i : Int)), some (.int ((1 + d : Nat) : Int)), A ++ [.reg (nmK "r" i) (1 + d) r], c1 + 1 + 1, rfl, ?_, ?_, by omega, hA.reg (by omega) (by omega) hr⟩
        · rw [← el]; exact DA
        · rw [← es]; exact KL9.kp b3 (not1 hkn)
      · rintro σ H2 ⟨x9, x10, A, c1, rfl, D, KL, hc1, hA⟩
        rw [Int.toNat_natCast] at hc1 hA
        have hA0 := hA.len
        have hB0 := rs_nil hA (by omega) (by omega)
        have hnl0 : (lnA A).map (·.1) = nmI ni nr 0 := by rw [lnA_names, nmI_zero]; exact hA.nms
        have hwA : ∀ x ∈ lnA A, 1 ≤ x.2 ∧ x.2 ≤ 16 := fun x hx => by
          obtain ⟨it, hit, e⟩ := List.mem_map.mp hx
          have := hA.wid it hit
          rw [← e]
          exact ⟨this.1, by show it.wd ≤ 16; omega⟩
        have ndA : (A.map It0.nm).Nodup := by
          have := nmI_nodup ni (by omega) nr (by omega) 0 (by decide)
          rw [nmI_zero, ← hA.nms] at this
          exact (List.nodup_append.mp this).1
        refine ⟨_, rfl, _, rfl, iteF ?_⟩
        refine ⟨_, rfl, _, rfl, ⟨_, SqL.of (D.st.kp.at_ _ _ hah (not1 (hP.neL hah)))⟩, ?_⟩
        refine for_it (walk_list (K := K) (a := ah) (xs := [])) (fun i σ H' => σ = [some (.ref p), some (.str nm), some (.int (ni : Int)), some (.int (nr : Int)), some (.int 2), some (.ref ah), some (.bl false), some (.ref il), some (.ref nl), x9, x10, (some (.ref kl)), none, none, none, none, none, none, none, none, none, none, none] ∧ H2 = H') ⟨rfl, rfl⟩ (fun i σ H' _ ⟨_, e⟩ => by rw [← e]; exact SqL.of (D.st.kp.at_ _ _ hah (not1 (hP.neL hah)))) (fun i v σ H1 H2 hi => absurd hi (Nat.not_lt_zero _)) ?_
        rintro σ H3 ⟨rfl, rfl⟩
        refine ⟨_, rfl, _, rfl, by omega, by omega, ?_⟩
        refine for_it walk_range (fun i σ H' => ∃ (x9 x10 : Option V) (B : List It0) (Ws : List (Str × Nat)) (c1 : Nat), σ = [some (.ref p), some (.str nm), some (.int (ni : Int)), some (.int (nr : Int)), some (.int 2), some (.ref ah), some (.bl false), some (.ref il), some (.ref nl), x9, x10, (some (.ref kl)), none, none, none, none, none, none, none, none, none, none, none] ∧ DmAt K H H' p L c1 il nl (A ++ B) (lnA A ++ Ws) ∧ KlAt K H' kl (sel "reg" A) ∧ c1 ≤ c + 14 + 130 * i ∧ Rs A B (lnA A ++ Ws) ∧ (lnA A ++ Ws).map (·.1) = nmI ni nr i ∧ (∀ x ∈ lnA A ++ Ws, 1 ≤ x.2 ∧ x.2 ≤ 16) ∧ B.length = i ∧ nxL B = [])
          ⟨x9, x10, [], [], c1, rfl, by rw [List.append_nil, List.append_nil]; exact D, KL, by omega, by rw [List.append_nil]; exact hB0, by rw [List.append_nil]; exact hnl0, by rw [List.append_nil]; exact hwA, rfl, rfl⟩ (fun _ _ _ _ _ => trivial) ?_ ?_
        · rintro i v σ H3 H4 hi ⟨x9, x10, B, Ws, c1, rfl, D, KL, hc1, hB, hnm, hwd, hBl, hnx⟩ ⟨e1, ev⟩
          subst e1
          have ev2 : v = .int (i : Int) := ev.trans (congrArg V.int (Int.zero_add _))
          subst ev2
          have hi2 : i < 2 := by have : i < ((2 : Int) - 0).toNat := hi; omega
          have hLn : (lnA A ++ Ws).length ≤ 50 := (NlOk.of hnm (by omega) (by omega) (by omega) hwd).1
          have hits : (A ++ B).length ≤ 100 := by rw [List.length_append]; omega
          refine ⟨_, rfl, p, L, c1, 2, rfl, D.st.at_, by omega, by decide, by decide, fun H5 d k5 P5 hd => ⟨_, _, rfl, rfl, ?_⟩⟩
          have e1d : (1 : Int) + (d : Int) = ((1 + d : Nat) : Int) := by omega
          dsimp only
          rw [e1d]
          have D5 := D.go ⟨k5, P5⟩
          have KL5 := KL.kp k5 (not1 hkp)
          obtain ⟨vs0, g0, _⟩ := D5.it
          refine ⟨_, rfl, .inl ⟨rfl, _, SqL.of g0⟩, _, rfl, _, rfl, small_k i (by omega), _, _, rfl, rfl, ?_, _, rfl, _, rfl, _, rfl, _, rfl, p, L, c1 + 1, nl, _, 1 + d, 2, rfl, ⟨D5.st.at_, D5.nn, NlOk.of hnm (by omega) (by omega) (by omega) hwd, by omega, by omega, by decide, by omega⟩, fun H6 e ve c2 S6 hc2 E6 => ⟨(by show 4 ≤ sizeLine; decide), fun t nt => ?_⟩⟩
          · exact Nat.le_of_lt (small _ (by have := nmK_len i (by omega); show 1 + _ ≤ _; omega))
          have kt := Kp.refl.new nt (o := .tup [.str "wire", .str (nmK "w" i), .int ((1 + d : Nat) : Int), ve]) (S := [])
          have D6 := (D5.go S6).k0 kt
          have KL6 := (KL5.kp S6.kp (not1 hkp)).kp kt (by simp)
          have E6' := E6.kp kt
          have hok := E6.ok _ hB.cons
          have hsz : e.size ≤ 16 := E6.size
          have hdp : e.dep < maxDep := Nat.lt_of_le_of_lt E6.dep (by decide)
          have hnd := nmI_nodup ni (by omega) nr (by omega) (i + 1) (by omega)
          rw [nmI_succ, ← hnm] at hnd
          have hx : nmK "w" i ∉ (lnA A ++ Ws).map (·.1) := fun z => (List.nodup_append.mp (List.nodup_append.mp hnd).1).2.2 _ z _ (List.mem_singleton.mpr rfl) rfl
          have hB2 := rs_wire hB hx hok.1 hok.2 hdp hsz (by omega) (by omega)
          obtain ⟨vs1, a1, a2, a3, D7⟩ := D6.addIt hP (it := .sig false (nmK "w" i) (1 + d) e) (v := .ref t) ⟨t, _, rfl, SqT.of upd_same, ve, rfl, E6'.at_⟩
          have KL7 := KL6.kp a3 (not1 hki)
          refine ⟨il, _, _, rfl, rfl, a1, small _ (by rw [a2]; omega), ?_⟩
          obtain ⟨ps0, g1, _⟩ := D7.nn
          refine ⟨_, rfl, .inl ⟨rfl, _, SqL.of g1⟩, _, rfl, _, rfl, small_k i (by omega), _, _, rfl, rfl, ?_, (by show 2 ≤ sizeLine; decide), fun te nte => ⟨_, rfl, (by show 2 ≤ sizeLine; decide), fun tn ntn => ?_⟩⟩
          · exact Nat.le_of_lt (small _ (by have := nmK_len i (by omega); show 1 + _ ≤ _; omega))
          have ke := Kp.refl.new nte (o := .tup [.str "name", .str (nmK "w" i)]) (S := [])
          have kn := Kp.refl.new ntn (o := .tup [.ref te, .int ((1 + d : Nat) : Int)]) (S := [])
          have D8 := (D7.k0 ke).k0 kn
          have KL8 := (KL7.kp ke (by simp)).kp kn (by simp)
          obtain ⟨ps1, b1, b2, b3, D9⟩ := D8.addNm hP (t := tn) (e := te) (y := nmK "w" i) (w := 1 + d) (SqT.of upd_same) (kn.sqT (SqT.of upd_same))
          refine ⟨nl, _, _, rfl, rfl, b1, small _ (by rw [List.length_map, b2]; omega), ?_⟩
          refine ⟨some (.int (i : Int)), some (.int ((1 + d : Nat) : Int)), B ++ [.sig false (nmK "w" i) (1 + d) e], Ws ++ [(nmK "w" i, 1 + d)], c2, rfl, ?_, KL8.kp b3 (not1 hkn), by omega, ?_, ?_, ?_, ?_, ?_⟩
          · rw [← List.append_assoc, ← List.append_assoc]; exact D9
          · rw [← List.append_assoc]; exact hB2
          · rw [← List.append_assoc, List.map_append, hnm, nmI_succ]; rfl
          · intro x hx2
            rw [← List.append_assoc] at hx2
            rcases List.mem_append.mp hx2 with z | z
            · exact hwd x z
            · rw [List.mem_singleton.mp z]; exact ⟨by show 1 ≤ 1 + d; omega, by show 1 + d ≤ 16; omega⟩
          · rw [List.length_append, hBl]; rfl
          · rw [nxL_app, hnx]; rfl
        · rintro σ H3 ⟨x9, x10, B, Ws, c1, rfl, D, KL, hc1, hB, hnm, hwd, hBl, hnx⟩
          have e2 : ((2 : Int) - 0).toNat = 2 := rfl
          have hc1 : c1 ≤ c + 14 + 130 * 2 := hc1
          have hnm : (lnA A ++ Ws).map (·.1) = nmI ni nr 2 := hnm
          have hBl : B.length = 2 := hBl
          have hok := NlOk.of hnm (by omega) (by omega) (by omega) hwd
          obtain ⟨qs, q1, q2⟩ := KL
          have hNd := hN_nodup hA.la ndA
          refine ⟨_, rfl, _, rfl, ⟨_, SqL.of q1⟩, ?_⟩
          refine for_it walk_list (fun j σ H' => ∃ (x9 x10 x17 : Option V) (B : List It0) (c1 : Nat), σ = [some (.ref p), some (.str nm), some (.int (ni : Int)), some (.int (nr : Int)), some (.int 2), some (.ref ah), some (.bl false), some (.ref il), some (.ref nl), x9, x10, (some (.ref kl)), none, none, none, none, none, x17, none, none, none, none, none] ∧ DmAt K H H' p L c1 il nl (A ++ B) (lnA A ++ Ws) ∧ H' kl = some (.lst (qs.map V.ref)) ∧ Paired (fun q (x : Str × Nat) => SqT K H' q [.str x.1, .int (x.2 : Int)]) qs (sel "reg" A) ∧ c1 ≤ c + 274 + 130 * j ∧ Rs A B (lnA A ++ Ws) ∧ B.length ≤ 2 + j ∧ ((nxL B).map (·.1)).Nodup ∧ ∀ y ∈ (nxL B).map (·.1), y ∈ ((sel "reg" A).map (·.1)).take j)
            ⟨x9, x10, none, B, c1, rfl, D, q1, q2, by omega, hB, by omega, by rw [hnx]; simp, by rw [hnx]; simp⟩ (fun j σ H' _ ⟨_, _, _, _, _, _, _, g, _⟩ => SqL.of g) ?_ ?_
          · rintro j v σ H4 H5 hj ⟨x9, x10, x17, B, c1, rfl, D, g1, g2, hc1, hB, hBl, hnd, hin⟩ ⟨rfl, gv⟩
            obtain ⟨q0, gq, rfl⟩ := get_map gv
            obtain ⟨⟨x, wd⟩, gx, hq⟩ := Paired.getL g2 gq
            have hjl : j < (sel "reg" A).length := (List.getElem?_eq_some_iff.mp gx).1
            have hsl := sel_len "reg" A
            obtain ⟨r, hr⟩ := reg_sel (List.mem_of_getElem? gx) hA.la
            have hw2 := hA.wid _ hr
            have hw2 : 1 ≤ wd ∧ wd ≤ 2 := hw2
            have gxn : ((sel "reg" A).map (·.1))[j]? = some x := put_map (f := fun p : Str × Nat => p.1) gx
            have hits : (A ++ B).length ≤ 100 := by rw [List.length_append]; omega
            refine ⟨q0, _, rfl, hq, rfl, _, _, rfl, _, _, rfl, rfl, ?_⟩
            refine ⟨_, rfl, p, L, c1, 6, rfl, D.st.at_, by omega, by decide, by decide, fun H6 d k6 P6 hd => ⟨_, _, rfl, rfl, _, rfl, ?_⟩⟩
            have D6 := D.go ⟨k6, P6⟩
            have g16 := k6.at_ _ _ g1 (not1 hkp)
            have g26 : Paired (fun q (x : Str × Nat) => SqT K H6 q [.str x.1, .int (x.2 : Int)]) qs (sel "reg" A) := Paired.mapP g2 fun _ _ z => k6.sqT z
            have tk : ∀ y, y ∈ ((sel "reg" A).map (·.1)).take j → y ∈ ((sel "reg" A).map (·.1)).take (j + 1) := fun y h => by
              rw [List.take_add_one]; exact List.mem_append_left _ h
            refine ite2 (fun _ => ?_) (fun _ => ?_)
            · obtain ⟨vs0, g0, _⟩ := D6.it
              refine ⟨_, rfl, .inl ⟨rfl, _, SqL.of g0⟩, _, rfl, _, rfl, _, rfl, _, rfl, p, L, c1 + 1, nl, _, wd, 2, rfl, ⟨D6.st.at_, D6.nn, hok, by omega, by omega, by decide, by omega⟩, fun H7 e ve c2 S7 hc2 E7 => ⟨(by show 3 ≤ sizeLine; decide), fun t nt => ?_⟩⟩
              have kt := Kp.refl.new nt (o := .tup [.str "next", .str x, ve]) (S := [])
              have D7 := (D6.go S7).k0 kt
              have E7' := E7.kp kt
              have hok2 := E7.ok _ hB.cons
              have hB2 := rs_nxt hB hr hok2.1 hok2.2 (Nat.lt_of_le_of_lt E7.dep (by decide)) E7.size
              obtain ⟨vs1, a1, a2, a3, D8⟩ := D7.addIt hP (it := .nxt x e) (v := .ref t) ⟨t, _, rfl, SqT.of upd_same, ve, rfl, E7'.at_⟩
              refine ⟨il, _, _, rfl, rfl, a1, small _ (by rw [a2]; omega), ?_⟩
              have kS := S7.kp.trans kt.nil
              refine ⟨x9, some (.int (wd : Int)), some (.str x), B ++ [.nxt x e], c2, rfl, ?_, a3.at_ _ _ (kS.at_ _ _ g16 (not1 hkp)) (not1 hki), Paired.mapP g26 fun _ _ z => a3.sqT (kS.sqT z), by omega, hB2, by rw [List.length_append]; show B.length + 1 ≤ _; omega, ?_, ?_⟩
              · rw [← List.append_assoc]; exact D8
              · rw [nxL_app, List.map_append, List.nodup_append]
                refine ⟨hnd, by show [x].Nodup; simp, fun y hy z hz => ?_⟩
                have hz' : z = x := List.mem_singleton.mp hz
                rw [hz']
                exact fun ee => nodup_get hNd gxn (by rw [← ee]; exact hin y hy)
              · intro y hy
                rw [nxL_app, List.map_append] at hy
                rcases List.mem_append.mp hy with z | z
                · exact tk y (hin y z)
                · have hz' : y = x := List.mem_singleton.mp z
                  rw [hz', List.take_add_one, gxn]
                  exact List.mem_append_right _ (List.mem_singleton.mpr rfl)
            · exact ⟨x9, some (.int (wd : Int)), some (.str x), B, c1 + 1, rfl, D6, g16, g26, by omega, hB, by omega, hnd, fun y hy => tk y (hin y hy)⟩
          · rintro σ H4 ⟨x9, x10, x17, B, c1, rfl, D, g1, g2, hc1, hB, hBl, hnd, hin⟩
            have hql : (qs.map V.ref).length ≤ 9 := by
              rw [List.length_map, Paired.len g2]
              have := sel_len "reg" A
              omega
            have hits : (A ++ B).length ≤ 100 := by rw [List.length_append]; omega
            have hc1 : c1 ≤ c + 1444 := by omega
            have hBl : B.length ≤ 20 := by omega
            refine ⟨_, rfl, _, rfl, iteF ?_⟩
            obtain ⟨vs, v1, v2⟩ := D.it
            have lvs : vs.length = (A ++ B).length := (Paired.len v2).symm
            have iL := (D.neL hP).1
            refine ⟨_, rfl, .inl ⟨rfl, _, SqL.of v1⟩, _, rfl, p, L, c1, 2, rfl, D.st.at_, by omega, by decide, by decide, fun H5 d k5 P5 hd => ⟨_, _, rfl, rfl, (by show 4 ≤ sizeLine; decide), fun ty nty => ?_⟩⟩
            have e1d : (1 : Int) + (d : Int) = ((1 + d : Nat) : Int) := by omega
            dsimp only
            rw [e1d]
            have D5 := D.go ⟨k5, P5⟩
            have kty := Kp.refl.new nty (o := .tup [.str "output", .str "y", .int ((1 + d : Nat) : Int), .non]) (S := [])
            have D6 := D5.k0 kty
            have v16 := kty.at_ _ _ (k5.at_ _ _ v1 (not1 D.ip)) (by simp)
            have v26 : Paired (fun it x => ItAt K _ it x) (A ++ B) vs := Paired.mapP v2 fun _ _ z => ItAt.kp kty (ItAt.kp k5 z)
            refine ⟨il, _, _, rfl, rfl, v16, small _ (by omega), ?_⟩
            have kil := Kp.putL (o := .lst (vs ++ [.ref ty])) v16
            have st7 := D6.st.put0 (o := .lst (vs ++ [.ref ty])) D6.f1 v16 iL
            have nn7 := D6.nn.kp kil (not1 D6.ne.symm)
            have v27 : Paired (fun it x => ItAt K _ it x) (A ++ B) vs := Paired.mapP v26 fun _ _ z => ItAt.kp kil z
            have hty := kil.sqT (K := K) (SqT.of (upd_same (a := ty) (o := .tup [.str "output", .str "y", .int ((1 + d : Nat) : Int), .non])))
            -- items[-1] = items[-1][:3] + (..,)
            refine ⟨_, rfl, _, rfl, _, _, _, _, rfl, rfl, SqL.of upd_same, atI_last _ _, _, rfl, ?_⟩
            dsimp only [tNoPart]
            refine ⟨ty, _, rfl, hty, fun hh => absurd hh.2 (by show ¬ (3 : Nat) = 4; decide), fun _ t3 nt3 => ?_⟩
            have kt3 := Kp.refl.new nt3 (o := .tup (cutV [.str "output", .str "y", .int ((1 + d : Nat) : Int), .non] none (some 3))) (S := [])
            have ec : cutV [V.str "output", .str "y", .int ((1 + d : Nat) : Int), .non] none (some 3) = [.str "output", .str "y", .int ((1 + d : Nat) : Int)] := rfl
            have st8 := st7.k0 kt3
            have nn8 := nn7.kp kt3 (by simp)
            have v18 := kt3.at_ _ _ (upd_same (a := il) (o := .lst (vs ++ [.ref ty]))) (by simp)
            have v28 : Paired (fun it x => ItAt K _ it x) (A ++ B) vs := Paired.mapP v27 fun _ _ z => ItAt.kp kt3 z
            have hty8 := kt3.sqT hty
            refine ⟨_, rfl, _, rfl, _, rfl, _, _, _, _, rfl, rfl, SqL.of v18, atI_last _ _, _, _, _, _, rfl, rfl, hty8, atI_nat (j := 2) rfl, _, rfl, p, L, c1 + 1, nl, _, 1 + d, 2, rfl, ⟨st8.at_, nn8, hok, by omega, by omega, by decide, by omega⟩, fun H9 ey vy c9 S9 hc9b E9 => ⟨(by show 1 ≤ sizeLine; decide), fun t4 nt4 => ?_⟩⟩
            have kt4 := Kp.refl.new nt4 (o := .tup [vy]) (S := [])
            have ht3 : SqT K H9 t3 [.str "output", .str "y", .int ((1 + d : Nat) : Int)] := S9.kp.sqT (SqT.of (by rw [upd_same, ec]))
            refine cat_all (kt4.sqT ht3) (SqT.of upd_same) (by show 4 ≤ sizeLine; decide) fun HA t5 kA ht5 => ?_
            have stA := ((st8.trans S9).k0 kt4).k0 kA
            have hil : il ≠ p := D.ip
            have hnl : nl ≠ p := D.np
            have kSA := (S9.kp.trans kt4.nil).trans kA.nil
            have nnA := nn8.kp kSA (not1 hnl)
            have v1A := kSA.at_ _ _ v18 (not1 hil)
            have v2A : Paired (fun it x => ItAt K HA it x) (A ++ B) vs := Paired.mapP v28 fun _ _ z => ItAt.kp kSA z
            have EA := (E9.kp kt4).kp kA
            have ixl : ixN (vs ++ [V.ref ty]).length (-1) = some vs.length := by
              unfold ixN
              rw [List.length_append]
              simp; omega
            refine ⟨_, rfl, _, rfl, il, _, _, _, rfl, rfl, v1A, ixl, ?_⟩
            have kil2 := Kp.putL (o := .lst ((vs ++ [V.ref ty]).set vs.length (V.ref t5))) v1A
            have eset : (vs ++ [V.ref ty]).set vs.length (.ref t5) = vs ++ [.ref t5] := by simp
            have hoky := EA.ok _ hB.cons
            have DB : DmAt K H (upd HA il (.lst ((vs ++ [V.ref ty]).set vs.length (V.ref t5)))) p L c9 il nl ((A ++ B) ++ [.sig true "y" (1 + d) ey]) (lnA A ++ Ws) :=
              ⟨stA.put0 D.f1 v1A iL, ⟨vs ++ [.ref t5], by rw [upd_same, eset], Paired.app (Paired.mapP v2A fun _ _ z => ItAt.kp kil2 z) (.cons ⟨t5, _, rfl, kil2.sqT ht5, vy, rfl, (EA.kp kil2).at_⟩ .nil)⟩, nnA.kp kil2 (not1 D.ne.symm), D.f1, D.f2, D.ne⟩
            refine ⟨_, rfl, _, rfl, p, L, c9, nl, _, 1, 3, rfl, ⟨DB.st.at_, DB.nn, hok, by decide, by decide, by decide, by omega⟩, fun HC eg vg cC SC hcC EC => ?_⟩
            have DC := DB.go SC
            refine ⟨fun σ H' => ∃ (eo : Ex) (vo : V) (cD : Nat), σ = [some (.ref p), some (.str nm), some (.int (ni : Int)), some (.int (nr : Int)), some (.int 2), some (.ref ah), some (.bl false), some (.ref il), some (.ref nl), x9, x10, some (.ref kl), none, none, none, none, none, x17, none, none, some vo, none, none] ∧ DmAt K H H' p L cD il nl ((A ++ B) ++ [.sig true "y" (1 + d) ey]) (lnA A ++ Ws) ∧ cD ≤ c + 3800 ∧ ExAt K H' eo vo ∧ (∀ we, Cons (lnA A ++ Ws) we → eo.ok we ∧ eo.wd we = 1) ∧ eo.dep < maxDep ∧ eo.size ≤ 81, ?_, ?_⟩
            · refine ⟨_, rfl, p, L, cC, 3, rfl, DC.st.at_, by omega, by decide, by decide, fun HE dd kE PE hdd => ⟨_, _, rfl, rfl, _, rfl, ?_⟩⟩
              have DE1 := DC.go ⟨kE, PE⟩
              have EE := EC.kp kE
              refine ite2 (fun _ => ?_) (fun _ => ?_)
              · refine ⟨_, rfl, _, rfl, _, rfl, p, L, cC + 1, nl, _, 1, 2, rfl, ⟨DE1.st.at_, DE1.nn, hok, by decide, by decide, by decide, by omega⟩, fun HF e2 v2 cF SF hcF EF => ⟨(by show 3 ≤ sizeLine; decide), fun tg ntg => ?_⟩⟩
                have kg := Kp.refl.new ntg (o := .tup [.str "or", vg, v2]) (S := [])
                refine ⟨.bin .or eg e2, .ref tg, cF, rfl, (DE1.go SF).k0 kg, by omega, ⟨tg, vg, v2, rfl, SqT.of upd_same, ((EE.kp SF.kp).kp kg).at_, (EF.kp kg).at_⟩, fun we hwe => ?_, ?_, ?_⟩
                · have a := EE.ok we hwe
                  have b := EF.ok we hwe
                  exact ⟨⟨a.1, b.1, a.2.trans b.2.symm⟩, a.2⟩
                · have := EE.dep
                  have := EF.dep
                  simp only [Ex.dep]
                  have : maxDep = 12 := rfl
                  omega
                · have := EE.size
                  have := EF.size
                  simp only [Ex.size]; omega
              · exact ⟨eg, vg, cC + 1, rfl, DE1, by omega, EE.at_, EE.ok, Nat.lt_of_le_of_lt EE.dep (by decide), by have := EE.size; omega⟩
            · rintro σ HG ⟨eo, vo, cD, rfl, DG, hcD, o0, o1, o2, o3⟩
              obtain ⟨vs0, g0, _⟩ := DG.it
              refine ⟨_, rfl, .inl ⟨rfl, _, SqL.of g0⟩, _, rfl, (by show 4 ≤ sizeLine; decide), fun tk ntk => ?_⟩
              have kk := Kp.refl.new ntk (o := .tup [.str "output", .str "ok", .int 1, vo]) (S := [])
              have DH := DG.k0 kk
              obtain ⟨vs1, a1, a2, a3, DI⟩ := DH.addIt hP (it := .sig true "ok" 1 eo) (v := .ref tk) ⟨tk, _, rfl, SqT.of upd_same, vo, rfl, o0.kp kk⟩
              refine ⟨il, _, _, rfl, rfl, a1, small _ (by rw [a2, List.length_append]; show _ + 1 ≤ _; omega), ?_⟩
              obtain ⟨vs2, w1, w2⟩ := DI.it
              refine ⟨_, rfl, _, rfl, _, _, rfl, .inl ⟨SqL.of w1, fun ti nti => ⟨(by show 3 ≤ sizeLine; decide), fun tm ntm => ?_⟩⟩⟩
              have ki := Kp.refl.new nti (o := .tup vs2) (S := [])
              have km := Kp.refl.new ntm (o := .tup [.str "module", .str nm, .ref ti]) (S := [])
              have eAB : ((A ++ B) ++ [It0.sig true "y" (1 + d) ey]) ++ [It0.sig true "ok" 1 eo] = A ++ (B ++ [It0.sig true "y" (1 + d) ey, .sig true "ok" 1 eo]) := by simp
              rw [eAB] at w2
              have hsz : ey.size ≤ 16 := EA.size
              have hdes := mk_design hA (by omega) (by omega) (by decide) hB hnm hBl hnd hoky.1 hoky.2 (Nat.lt_of_le_of_lt EA.dep (by decide)) hsz (by omega) (by omega) o1 o2 o3 hni
              refine q _ tm ti A (B ++ [It0.sig true "y" (1 + d) ey, .sig true "ok" 1 eo]) cD (((DI.st.k0 ki).k0 km)) (by omega) ⟨SqT.of upd_same, ⟨vs2, km.sqT (SqT.of upd_same), Paired.mapP w2 fun _ _ z => ItAt.kp km (ItAt.kp ki z)⟩⟩ hdes ?_ ?_
              · rw [← eAB, namedL_app]
                exact List.mem_append_right _ (List.mem_singleton.mpr rfl)
              · intro x hx
                refine nmI_odd ni (by omega) nr (by omega) x ?_
                rw [← eAB, namedL_app, namedL_app, List.map_append, List.map_append, hB.names, hnm, List.append_assoc] at hx
                exact hx
end
end K14
set_option maxHeartbeats 200000
/-! the counter's and the lock's designs -/
namespace K14
open PySem PySem.Spec PyProof.Rows L2
theorem lwd2 (x y : Str) (a b : Nat) (r : Nat) (h : ¬ x = y) : lwd [.inp x a, .reg y b r] x = a ∧ lwd [.inp x a, .reg y b r] y = b ∧ ∀ z, ¬ z = x → ¬ z = y → lwd [.inp x a, .reg y b r] z = 0 := by
  have e : lwd [.inp x a, .reg y b r] = updS (updS (fun _ => 0) x a) y b := rfl
  rw [e]
  exact ⟨by rw [updS_ne _ _ h, updS_same], updS_same _ _ _, fun z h1 h2 => by rw [updS_ne _ _ h2, updS_ne _ _ h1]⟩
/-- a design of one input, one register, its next, one output -/
theorem small_design {x y : Str} {a b r : Nat} {en eo : Ex} (hxy : ¬ x = y) (hxo : ¬ ("ok" : Str) = x) (hyo : ¬ ("ok" : Str) = y) (ha : 1 ≤ a ∧ a ≤ 9) (hb : 1 ≤ b ∧ b ≤ 16) (hr : r < 2 ^ b)
    (h1 : ∀ we, we x = a → we y = b → en.ok we ∧ en.wd we = b) (h2 : ∀ we, we x = a → we y = b → eo.ok we ∧ eo.wd we = 1) (d1 : en.dep < maxDep) (d2 : eo.dep < maxDep) (s1 : en.size ≤ 1000) (s2 : eo.size ≤ 1000) :
    Design [.inp x a, .reg y b r] [.nxt y en, .sig true "ok" 1 eo] := by
  obtain ⟨w1, w2, w3⟩ := lwd2 x y a b r hxy
  have a1 := h1 _ w1 w2
  have a2 := h2 _ w1 w2
  have w4 : weFin (lwd [.inp x a, .reg y b r]) [It0.nxt y en, .sig true "ok" 1 eo] = updS (lwd [.inp x a, .reg y b r]) "ok" 1 := rfl
  refine ⟨fun it m => ?_, fun it m => ?_, by show 4 ≤ 40; decide, ?_, ⟨a1.1, d1, a2.1, a2.2, w3 _ hxo hyo, d2, trivial⟩, fun it m hn => ?_, ?_, fun x' w' r' m => ?_, ?_, fun x' e m => ?_, ?_, ?_⟩
  · rcases List.mem_cons.mp m with z | z
    · rw [z]; exact .inl rfl
    · rw [List.mem_singleton.mp z]; exact .inr rfl
  · rcases List.mem_cons.mp m with z | z
    · rw [z]; exact ⟨rfl, rfl⟩
    · rw [List.mem_singleton.mp z]; exact ⟨rfl, rfl⟩
  · show [x, y].Nodup
    simp [hxy]
  · have m' : it ∈ [It0.inp x a, .reg y b r, .nxt y en, .sig true "ok" 1 eo] := m
    simp only [List.mem_cons, List.not_mem_nil, or_false] at m'
    rcases m' with z | z | z | z <;> rw [z] at hn ⊢
    · exact ⟨ha.1, by show a ≤ 16; omega⟩
    · exact hb
    · cases hn
    · exact ⟨Nat.le_refl _, by show 1 ≤ 16; decide⟩
  · show 5120 * (0 + (0 + (en.size + (eo.size + 0)))) ≤ 16000000
    omega
  · simp only [List.mem_cons, List.not_mem_nil, or_false] at m
    rcases m with z | z
    · cases z
    · cases z; exact hr
  · have e : wI [.inp x a, .reg y b r] = [a] := by
      rw [show ([.inp x a, .reg y b r] : List It0) = [.inp x a] ++ [.reg y b r] from rfl, wI_app, wI_inp, wI_reg]; rfl
    rw [e]
    show a + 0 ≤ 9
    omega
  · simp only [List.mem_cons, List.not_mem_nil, or_false] at m
    rcases m with z | z
    · cases z
      refine ⟨b, r, by simp, ?_⟩
      rw [w4]
      exact (h1 _ (by rw [updS_ne _ _ (fun q => hxo q.symm)]; exact w1) (by rw [updS_ne _ _ (fun q => hyo q.symm)]; exact w2)).2
    · cases z
  · show [y].Nodup
    simp
  · show [x, y, "ok"].Nodup
    have q1 : ¬ x = "ok" := fun q => hxo q.symm
    have q2 : ¬ y = "ok" := fun q => hyo q.symm
    simp [hxy, q1, q2]
/-- the lock's step -/
def lockE (ks : List Nat) : Nat → Ex
  | 0 => .num 3 0
  | j + 1 => .ite (.bin .and (.bin .equal (.nm "s") (.num 3 j)) (.bin .equal (.nm "k") (.num 2 (ks.getD j 0)))) (.num 3 (j + 1)) (lockE ks j)
theorem lockE_ok (ks : List Nat) (hk : ∀ x ∈ ks, x < 4) (we : Str → Nat) (h1 : we "k" = 2) (h2 : we "s" = 3) : ∀ j, j ≤ 6 → j ≤ ks.length → (lockE ks j).ok we ∧ (lockE ks j).wd we = 3
  | 0, _, _ => ⟨⟨by decide, by decide, by decide⟩, rfl⟩
  | j + 1, h, hl => by
    obtain ⟨a, b⟩ := lockE_ok ks hk we h1 h2 j (by omega) (by omega)
    have hkj : ks.getD j 0 < 2 ^ 2 := by
      rw [List.getD_eq_getElem?_getD, List.getElem?_eq_getElem (by omega)]
      exact hk _ (List.getElem_mem _)
    have p3 : ∀ n, n ≤ 7 → n < 2 ^ 3 := fun n hn => by omega
    refine ⟨⟨⟨⟨?_, ⟨by decide, by decide, p3 j (by omega)⟩, ?_⟩, ⟨?_, ⟨by decide, by decide, hkj⟩, ?_⟩, rfl⟩, ⟨by decide, by decide, p3 (j + 1) (by omega)⟩, a, rfl, b.symm⟩, rfl⟩
    · show 1 ≤ we "s" ∧ we "s" ≤ 16; rw [h2]; decide
    · show we "s" = 3; exact h2
    · show 1 ≤ we "k" ∧ we "k" ≤ 16; rw [h1]; decide
    · show we "k" = 2; exact h1
theorem lockE_dep (ks : List Nat) : ∀ j, (lockE ks j).dep ≤ j + 3
  | 0 => Nat.zero_le _
  | j + 1 => by
    have := lockE_dep ks j
    simp only [lockE, Ex.dep]; omega
theorem lockE_size (ks : List Nat) : ∀ j, (lockE ks j).size ≤ 10 * j + 1
  | 0 => Nat.le_refl _
  | j + 1 => by
    have := lockE_size ks j
    simp only [lockE, Ex.size]; omega
end K14
set_option maxHeartbeats 8000000
/-! the counter, the lock -/
namespace K14
open PySem PySem.Spec PyProof.Rows L2
section
variable {P : Program} {w : World} {K : PySem.W.Frag} {mg : Str → Option Value} {base : Heap}
/-- a ready design, first in a tuple -/
def spReady (K : PySem.W.Frag) : Sp := fun vs H Q _ => ∃ (p L : Addr) (c : Nat), vs = [.ref p] ∧ PenAt H p L c ∧ c + 10 ≤ maxDraws ∧
  ∀ H' t D y A B c', PSt H H' p L c' → c' ≤ c + 10 → SqT K H' t [.ref D, y] → DsAt K H' D "top" (A ++ B) → Design A B → (("ok" : Str), 1) ∈ namedL (A ++ B) → NoOdd (A ++ B) → Q (.ref t) H'
theorem p3 {n : Nat} (h : n ≤ 7) : n < 2 ^ 3 := by omega
abbrev nm_law_counter : List Str := ["_law_pen_here", "_law_last", "_law_start", "_law_bad", "_law_n", "_law_go", "_law_step", "_law_back", "_law_items", "_law_ok", "_law_seen", "_law_cycles", "_law_lap"]
theorem sc_law_counter : FnScope nm_law_counter ["_law_pen_here"] (C8.fnScope (st 54)) := C8.fnScope_by (by decide +kernel)
theorem cal_law_counter (T : Top K mg) : C8.Cal P w K mg base (3) "_law_counter" (spReady K) [] := by
  refine calD T.d__law_counter sc_law_counter (fun vs H Q E h => ?_) (fun f cdv A outer s0 H vs Q E hr h => ?_)
  ·
    obtain ⟨p, L, c, rfl, _⟩ := h; rfl
  ·
    obtain ⟨p, L, c, rfl, hP, hc, q⟩ := h
    have hu := hu_of hr
    refine ⟨_, (pss_cons (ps_par3 (i := 1) (j := 2) (l := 3) (by rfl) sc_law_counter.nd rfl rfl rfl (by decide) (by decide) (by decide) rfl rfl rfl (pa_cons (pe_op op_add pe_int (C8.pe_c (cal_law_draw T) hr (by decide) rfl (pa_cons (pv 0) (pa_cons pe_int pa_nil)))) (pa_cons (C8.pe_c (cal_law_draw T) hr (by decide) rfl (pa_cons (pv 0) (pa_cons pe_int pa_nil))) (pa_cons (pe_op op_add pe_int (C8.pe_c (cal_law_draw T) hr (by decide) rfl (pa_cons (pv 0) (pa_cons pe_int pa_nil)))) pa_nil))) (by rfl))
      (pss_cons (ps_asg (pe_tup (pa_cons (pe_tup (pa_cons pe_str (pa_cons pe_str pa_nil))) (pa_cons (pe_tup (pa_cons pe_str (pa_cons pe_str pa_nil))) pa_nil))) (pg_tup rfl (pgs_cons (pg_name (i := 4) sc_law_counter.nd rfl (Or.inl rfl)) (pgs_cons (pg_name (i := 5) sc_law_counter.nd rfl (Or.inl rfl)) pgs_nil))))
      (pss_cons (ps_set (i := 6) sc_law_counter.nd rfl (Or.inl rfl) (pe_tup (pa_cons pe_str (pa_cons (pv 5) (pa_cons (pe_tup (pa_cons pe_str (pa_cons (pv 4) (pa_cons (pe_tup (pa_cons pe_str (pa_cons pe_int (pa_cons pe_int pa_nil)))) pa_nil)))) (pa_cons (pv 4) pa_nil))))))
      (pss_cons (ps_set (i := 7) sc_law_counter.nd rfl (Or.inl rfl) (pe_tup (pa_cons pe_str (pa_cons (pe_tup (pa_cons pe_str (pa_cons (pv 4) (pa_cons (pe_tup (pa_cons pe_str (pa_cons pe_int (pa_cons (pv 1) pa_nil)))) pa_nil)))) (pa_cons (pe_tup (pa_cons pe_str (pa_cons pe_int (pa_cons pe_int pa_nil)))) (pa_cons (pv 6) pa_nil))))))
      (pss_cons (ps_set (i := 8) sc_law_counter.nd rfl (Or.inl rfl) (pe_tup (pa_cons (pe_tup (pa_cons pe_str (pa_cons pe_str (pa_cons pe_int pa_nil)))) (pa_cons (pe_tup (pa_cons pe_str (pa_cons pe_str (pa_cons pe_int (pa_cons (pv 2) pa_nil))))) (pa_cons (pe_tup (pa_cons pe_str (pa_cons pe_str (pa_cons (pv 7) pa_nil)))) pa_nil)))))
      (pss_cons (ps_set (i := 9) sc_law_counter.nd rfl (Or.inl rfl) (pe_tup (pa_cons pe_str (pa_cons pe_str (pa_cons pe_int (pa_cons (pe_tup (pa_cons pe_str (pa_cons (pe_tup (pa_cons pe_str (pa_cons (pv 4) (pa_cons (pe_tup (pa_cons pe_str (pa_cons pe_int (pa_cons (pv 3) pa_nil)))) pa_nil)))) pa_nil))) pa_nil))))))
      (pss_cons (ps_par (i := 10) (j := 11) (by rfl) sc_law_counter.nd rfl rfl (by decide) rfl rfl (pa_cons (pv 2) (pa_cons pe_int pa_nil)) (by rfl))
      (pss_cons (ps_for PassesOwn.never rfl (pi_range1 (by rfl) T.f_range (pa_cons pe_int pa_nil)) (pg_name (i := 12) sc_law_counter.nd rfl (Or.inl rfl)) (pss_cons (ps_if (pt_cmpR op_eq (pv 10) (pv 3) (nomark _)) (pss_one (ps_ret (pe_tup (pa_cons (pe_tup (pa_cons (pe_tup (pa_cons pe_str (pa_cons pe_str (pa_cons (pe_op op_catA (pv 8) (pe_tup (pa_cons (pv 9) pa_nil))) pa_nil)))) pa_nil)) (pa_cons (pv 11) pa_nil))))) pss_nil)
      (pss_one (ps_par (i := 10) (j := 11) (by rfl) sc_law_counter.nd rfl rfl (by decide) rfl rfl (pa_cons (pe_ifExp (pt_cmpR op_eq (pv 10) (pv 1) (nomark _)) pe_int (pe_op op_mod (pe_callTy call_int1 (by rfl) T.f_int PyProof.Rows.boot_int (pa_cons (pe_op op_add (pv 10) pe_int) pa_nil)) pe_int)) (pa_cons (pe_op op_add (pv 11) pe_int) pa_nil)) (by rfl)))))
      (pss_one (ps_ret (pe_tup (pa_cons (pe_tup (pa_cons (pe_tup (pa_cons pe_str (pa_cons pe_str (pa_cons (pe_op op_catA (pv 8) (pe_tup (pa_cons (pv 9) pa_nil))) pa_nil)))) pa_nil)) (pa_cons pe_non pa_nil))))))))))))), ?_⟩
    have hc9 : maxDraws = 1000000 := rfl
    refine ⟨_, rfl, p, L, c, 6, rfl, hP, by omega, by decide, by decide, fun H1 la k1 P1 hla => ⟨_, _, rfl, rfl, _, rfl, p, L, c + 1, 3, rfl, P1, by omega, by decide, by decide, fun H2 st k2 P2 hst => ⟨_, rfl, p, L, c + 1 + 1, 7, rfl, P2, by omega, by decide, by decide, fun H3 ba k3 P3 hba => ⟨_, _, rfl, rfl, _, _, _, rfl, ?_⟩⟩⟩⟩
    have e1 : (1 : Int) + (la : Int) = ((1 + la : Nat) : Int) := by omega
    have e2 : (1 : Int) + (ba : Int) = ((1 + ba : Nat) : Int) := by omega
    dsimp only
    rw [e1, e2]
    have S := ((PSt.refl hP).step k1 P1).step k2 P2 |>.step k3 P3
    refine ⟨(by show 2 ≤ sizeLine; decide), fun t1 nt1 => ?_⟩
    have k1 := Kp.refl.new nt1 (o := .tup [.str "name", .str "n"]) (S := [])
    have q1 : SqT K (upd H3 t1 (.tup [.str "name", .str "n"])) t1 [.str "name", .str "n"] := SqT.of upd_same
    generalize upd H3 t1 (.tup [.str "name", .str "n"]) = G1 at k1 q1 ⊢
    have S := PSt.k0 S k1
    refine ⟨(by show 2 ≤ sizeLine; decide), fun t2 nt2 => ?_⟩
    have k2 := Kp.refl.new nt2 (o := .tup [.str "name", .str "go"]) (S := [])
    have q2 : SqT K (upd G1 t2 (.tup [.str "name", .str "go"])) t2 [.str "name", .str "go"] := SqT.of upd_same
    generalize upd G1 t2 (.tup [.str "name", .str "go"]) = G2 at k2 q2 ⊢
    have q1 := k2.sqT q1
    have S := PSt.k0 S k2
    refine ⟨(by show 2 ≤ sizeLine; decide), fun t3 nt3 => ?_⟩
    have k3 := Kp.refl.new nt3 (o := .tup [.ref t1, .ref t2]) (S := [])
    have q3 : SqT K (upd G2 t3 (.tup [.ref t1, .ref t2])) t3 [.ref t1, .ref t2] := SqT.of upd_same
    generalize upd G2 t3 (.tup [.ref t1, .ref t2]) = G3 at k3 q3 ⊢
    have q1 := k3.sqT q1
    have q2 := k3.sqT q2
    have S := PSt.k0 S k3
    refine ⟨t3, _, rfl, q3, rfl, _, _, rfl, _, _, rfl, rfl, ?_⟩
    have en : ExAt K G3 (.nm "n") (.ref t1) := ⟨_, rfl, q1⟩
    have eg : ExAt K G3 (.nm "go") (.ref t2) := ⟨_, rfl, q2⟩
    refine ⟨_, rfl, _, rfl, ?_⟩
    refine ⟨(by show 3 ≤ sizeLine; decide), fun t4 nt4 => ?_⟩
    have k4 := Kp.refl.new nt4 (o := .tup [.str "number", .int 3, .int 1]) (S := [])
    have q4 : SqT K (upd G3 t4 (.tup [.str "number", .int 3, .int 1])) t4 [.str "number", .int 3, .int 1] := SqT.of upd_same
    generalize upd G3 t4 (.tup [.str "number", .int 3, .int 1]) = G4 at k4 q4 ⊢
    have en := ExAt.kp k4 en
    have eg := ExAt.kp k4 eg
    have S := PSt.k0 S k4
    have e31 : ExAt K G4 (.num 3 1) (.ref t4) := ⟨_, rfl, q4⟩
    refine ⟨(by show 3 ≤ sizeLine; decide), fun t5 nt5 => ?_⟩
    have k5 := Kp.refl.new nt5 (o := .tup [.str "plus", .ref t1, .ref t4]) (S := [])
    have q5 : SqT K (upd G4 t5 (.tup [.str "plus", .ref t1, .ref t4])) t5 [.str "plus", .ref t1, .ref t4] := SqT.of upd_same
    generalize upd G4 t5 (.tup [.str "plus", .ref t1, .ref t4]) = G5 at k5 q5 ⊢
    have en := ExAt.kp k5 en
    have eg := ExAt.kp k5 eg
    have e31 := ExAt.kp k5 e31
    have S := PSt.k0 S k5
    have epl : ExAt K G5 (.bin .plus (.nm "n") (.num 3 1)) (.ref t5) := ⟨_, _, _, rfl, q5, en, e31⟩
    refine ⟨_, rfl, ?_⟩
    refine ⟨(by show 4 ≤ sizeLine; decide), fun t6 nt6 => ?_⟩
    have k6 := Kp.refl.new nt6 (o := .tup [.str "if", .ref t2, .ref t5, .ref t1]) (S := [])
    have q6 : SqT K (upd G5 t6 (.tup [.str "if", .ref t2, .ref t5, .ref t1])) t6 [.str "if", .ref t2, .ref t5, .ref t1] := SqT.of upd_same
    generalize upd G5 t6 (.tup [.str "if", .ref t2, .ref t5, .ref t1]) = G6 at k6 q6 ⊢
    have en := ExAt.kp k6 en
    have eg := ExAt.kp k6 eg
    have e31 := ExAt.kp k6 e31
    have epl := ExAt.kp k6 epl
    have S := PSt.k0 S k6
    have est : ExAt K G6 (.ite (.nm "go") (.bin .plus (.nm "n") (.num 3 1)) (.nm "n")) (.ref t6) := ⟨_, _, _, _, rfl, q6, eg, epl, en⟩
    refine ⟨_, rfl, _, rfl, ?_⟩
    refine ⟨(by show 3 ≤ sizeLine; decide), fun t7 nt7 => ?_⟩
    have k7 := Kp.refl.new nt7 (o := .tup [.str "number", .int 3, .int ((1 + la : Nat) : Int)]) (S := [])
    have q7 : SqT K (upd G6 t7 (.tup [.str "number", .int 3, .int ((1 + la : Nat) : Int)])) t7 [.str "number", .int 3, .int ((1 + la : Nat) : Int)] := SqT.of upd_same
    generalize upd G6 t7 (.tup [.str "number", .int 3, .int ((1 + la : Nat) : Int)]) = G7 at k7 q7 ⊢
    have en := ExAt.kp k7 en
    have eg := ExAt.kp k7 eg
    have e31 := ExAt.kp k7 e31
    have epl := ExAt.kp k7 epl
    have est := ExAt.kp k7 est
    have S := PSt.k0 S k7
    have e3l : ExAt K G7 (.num 3 (1 + la)) (.ref t7) := ⟨_, rfl, q7⟩
    refine ⟨(by show 3 ≤ sizeLine; decide), fun t8 nt8 => ?_⟩
    have k8 := Kp.refl.new nt8 (o := .tup [.str "equal", .ref t1, .ref t7]) (S := [])
    have q8 : SqT K (upd G7 t8 (.tup [.str "equal", .ref t1, .ref t7])) t8 [.str "equal", .ref t1, .ref t7] := SqT.of upd_same
    generalize upd G7 t8 (.tup [.str "equal", .ref t1, .ref t7]) = G8 at k8 q8 ⊢
    have en := ExAt.kp k8 en
    have eg := ExAt.kp k8 eg
    have e31 := ExAt.kp k8 e31
    have epl := ExAt.kp k8 epl
    have est := ExAt.kp k8 est
    have e3l := ExAt.kp k8 e3l
    have S := PSt.k0 S k8
    have eeq : ExAt K G8 (.bin .equal (.nm "n") (.num 3 (1 + la))) (.ref t8) := ⟨_, _, _, rfl, q8, en, e3l⟩
    refine ⟨(by show 3 ≤ sizeLine; decide), fun t9 nt9 => ?_⟩
    have k9 := Kp.refl.new nt9 (o := .tup [.str "number", .int 3, .int 0]) (S := [])
    have q9 : SqT K (upd G8 t9 (.tup [.str "number", .int 3, .int 0])) t9 [.str "number", .int 3, .int 0] := SqT.of upd_same
    generalize upd G8 t9 (.tup [.str "number", .int 3, .int 0]) = G9 at k9 q9 ⊢
    have en := ExAt.kp k9 en
    have eg := ExAt.kp k9 eg
    have e31 := ExAt.kp k9 e31
    have epl := ExAt.kp k9 epl
    have est := ExAt.kp k9 est
    have e3l := ExAt.kp k9 e3l
    have eeq := ExAt.kp k9 eeq
    have S := PSt.k0 S k9
    have e30 : ExAt K G9 (.num 3 0) (.ref t9) := ⟨_, rfl, q9⟩
    refine ⟨_, rfl, ?_⟩
    refine ⟨(by show 4 ≤ sizeLine; decide), fun t10 nt10 => ?_⟩
    have k10 := Kp.refl.new nt10 (o := .tup [.str "if", .ref t8, .ref t9, .ref t6]) (S := [])
    have q10 : SqT K (upd G9 t10 (.tup [.str "if", .ref t8, .ref t9, .ref t6])) t10 [.str "if", .ref t8, .ref t9, .ref t6] := SqT.of upd_same
    generalize upd G9 t10 (.tup [.str "if", .ref t8, .ref t9, .ref t6]) = G10 at k10 q10 ⊢
    have en := ExAt.kp k10 en
    have eg := ExAt.kp k10 eg
    have e31 := ExAt.kp k10 e31
    have epl := ExAt.kp k10 epl
    have est := ExAt.kp k10 est
    have e3l := ExAt.kp k10 e3l
    have eeq := ExAt.kp k10 eeq
    have e30 := ExAt.kp k10 e30
    have S := PSt.k0 S k10
    have eb : ExAt K G10 (.ite (.bin .equal (.nm "n") (.num 3 (1 + la))) (.num 3 0) (.ite (.nm "go") (.bin .plus (.nm "n") (.num 3 1)) (.nm "n"))) (.ref t10) := ⟨_, _, _, _, rfl, q10, eeq, e30, est⟩
    refine ⟨(by show 3 ≤ sizeLine; decide), fun t11 nt11 => ?_⟩
    have k11 := Kp.refl.new nt11 (o := .tup [.str "input", .str "go", .int 1]) (S := [])
    have q11 : SqT K (upd G10 t11 (.tup [.str "input", .str "go", .int 1])) t11 [.str "input", .str "go", .int 1] := SqT.of upd_same
    generalize upd G10 t11 (.tup [.str "input", .str "go", .int 1]) = G11 at k11 q11 ⊢
    have en := ExAt.kp k11 en
    have eg := ExAt.kp k11 eg
    have e31 := ExAt.kp k11 e31
    have epl := ExAt.kp k11 epl
    have est := ExAt.kp k11 est
    have e3l := ExAt.kp k11 e3l
    have eeq := ExAt.kp k11 eeq
    have e30 := ExAt.kp k11 e30
    have eb := ExAt.kp k11 eb
    have S := PSt.k0 S k11
    have i1 : ItAt K G11 (.inp "go" 1) (.ref t11) := ⟨_, _, rfl, q11, rfl⟩
    refine ⟨_, rfl, ?_⟩
    refine ⟨(by show 4 ≤ sizeLine; decide), fun t12 nt12 => ?_⟩
    have k12 := Kp.refl.new nt12 (o := .tup [.str "reg", .str "n", .int 3, .int ((st : Nat) : Int)]) (S := [])
    have q12 : SqT K (upd G11 t12 (.tup [.str "reg", .str "n", .int 3, .int ((st : Nat) : Int)])) t12 [.str "reg", .str "n", .int 3, .int ((st : Nat) : Int)] := SqT.of upd_same
    generalize upd G11 t12 (.tup [.str "reg", .str "n", .int 3, .int ((st : Nat) : Int)]) = G12 at k12 q12 ⊢
    have en := ExAt.kp k12 en
    have eg := ExAt.kp k12 eg
    have e31 := ExAt.kp k12 e31
    have epl := ExAt.kp k12 epl
    have est := ExAt.kp k12 est
    have e3l := ExAt.kp k12 e3l
    have eeq := ExAt.kp k12 eeq
    have e30 := ExAt.kp k12 e30
    have eb := ExAt.kp k12 eb
    have i1 := ItAt.kp k12 i1
    have S := PSt.k0 S k12
    have i2 : ItAt K G12 (.reg "n" 3 st) (.ref t12) := ⟨_, _, rfl, q12, rfl⟩
    refine ⟨_, rfl, ?_⟩
    refine ⟨(by show 3 ≤ sizeLine; decide), fun t13 nt13 => ?_⟩
    have k13 := Kp.refl.new nt13 (o := .tup [.str "next", .str "n", .ref t10]) (S := [])
    have q13 : SqT K (upd G12 t13 (.tup [.str "next", .str "n", .ref t10])) t13 [.str "next", .str "n", .ref t10] := SqT.of upd_same
    generalize upd G12 t13 (.tup [.str "next", .str "n", .ref t10]) = G13 at k13 q13 ⊢
    have en := ExAt.kp k13 en
    have eg := ExAt.kp k13 eg
    have e31 := ExAt.kp k13 e31
    have epl := ExAt.kp k13 epl
    have est := ExAt.kp k13 est
    have e3l := ExAt.kp k13 e3l
    have eeq := ExAt.kp k13 eeq
    have e30 := ExAt.kp k13 e30
    have eb := ExAt.kp k13 eb
    have i1 := ItAt.kp k13 i1
    have i2 := ItAt.kp k13 i2
    have S := PSt.k0 S k13
    have i3 : ItAt K G13 (.nxt "n" (.ite (.bin .equal (.nm "n") (.num 3 (1 + la))) (.num 3 0) (.ite (.nm "go") (.bin .plus (.nm "n") (.num 3 1)) (.nm "n")))) (.ref t13) := ⟨_, _, rfl, q13, _, rfl, eb⟩
    refine ⟨(by show 3 ≤ sizeLine; decide), fun t14 nt14 => ?_⟩
    have k14 := Kp.refl.new nt14 (o := .tup [.ref t11, .ref t12, .ref t13]) (S := [])
    have q14 : SqT K (upd G13 t14 (.tup [.ref t11, .ref t12, .ref t13])) t14 [.ref t11, .ref t12, .ref t13] := SqT.of upd_same
    generalize upd G13 t14 (.tup [.ref t11, .ref t12, .ref t13]) = G14 at k14 q14 ⊢
    have en := ExAt.kp k14 en
    have i1 := ItAt.kp k14 i1
    have i2 := ItAt.kp k14 i2
    have i3 := ItAt.kp k14 i3
    have S := PSt.k0 S k14
    refine ⟨_, rfl, _, rfl, ?_⟩
    refine ⟨(by show 3 ≤ sizeLine; decide), fun t15 nt15 => ?_⟩
    have k15 := Kp.refl.new nt15 (o := .tup [.str "number", .int 3, .int ((1 + ba : Nat) : Int)]) (S := [])
    have q15 : SqT K (upd G14 t15 (.tup [.str "number", .int 3, .int ((1 + ba : Nat) : Int)])) t15 [.str "number", .int 3, .int ((1 + ba : Nat) : Int)] := SqT.of upd_same
    generalize upd G14 t15 (.tup [.str "number", .int 3, .int ((1 + ba : Nat) : Int)]) = G15 at k15 q15 ⊢
    have en := ExAt.kp k15 en
    have i1 := ItAt.kp k15 i1
    have i2 := ItAt.kp k15 i2
    have i3 := ItAt.kp k15 i3
    have q14 := k15.sqT q14
    have S := PSt.k0 S k15
    have e3b : ExAt K G15 (.num 3 (1 + ba)) (.ref t15) := ⟨_, rfl, q15⟩
    refine ⟨(by show 3 ≤ sizeLine; decide), fun t16 nt16 => ?_⟩
    have k16 := Kp.refl.new nt16 (o := .tup [.str "equal", .ref t1, .ref t15]) (S := [])
    have q16 : SqT K (upd G15 t16 (.tup [.str "equal", .ref t1, .ref t15])) t16 [.str "equal", .ref t1, .ref t15] := SqT.of upd_same
    generalize upd G15 t16 (.tup [.str "equal", .ref t1, .ref t15]) = G16 at k16 q16 ⊢
    have en := ExAt.kp k16 en
    have i1 := ItAt.kp k16 i1
    have i2 := ItAt.kp k16 i2
    have i3 := ItAt.kp k16 i3
    have q14 := k16.sqT q14
    have e3b := ExAt.kp k16 e3b
    have S := PSt.k0 S k16
    have ee2 : ExAt K G16 (.bin .equal (.nm "n") (.num 3 (1 + ba))) (.ref t16) := ⟨_, _, _, rfl, q16, en, e3b⟩
    refine ⟨(by show 2 ≤ sizeLine; decide), fun t17 nt17 => ?_⟩
    have k17 := Kp.refl.new nt17 (o := .tup [.str "not", .ref t16]) (S := [])
    have q17 : SqT K (upd G16 t17 (.tup [.str "not", .ref t16])) t17 [.str "not", .ref t16] := SqT.of upd_same
    generalize upd G16 t17 (.tup [.str "not", .ref t16]) = G17 at k17 q17 ⊢
    have en := ExAt.kp k17 en
    have i1 := ItAt.kp k17 i1
    have i2 := ItAt.kp k17 i2
    have i3 := ItAt.kp k17 i3
    have q14 := k17.sqT q14
    have e3b := ExAt.kp k17 e3b
    have ee2 := ExAt.kp k17 ee2
    have S := PSt.k0 S k17
    have eok : ExAt K G17 (.un false (.bin .equal (.nm "n") (.num 3 (1 + ba)))) (.ref t17) := ⟨_, _, rfl, q17, ee2⟩
    refine ⟨(by show 4 ≤ sizeLine; decide), fun t18 nt18 => ?_⟩
    have k18 := Kp.refl.new nt18 (o := .tup [.str "output", .str "ok", .int 1, .ref t17]) (S := [])
    have q18 : SqT K (upd G17 t18 (.tup [.str "output", .str "ok", .int 1, .ref t17])) t18 [.str "output", .str "ok", .int 1, .ref t17] := SqT.of upd_same
    generalize upd G17 t18 (.tup [.str "output", .str "ok", .int 1, .ref t17]) = G18 at k18 q18 ⊢
    have en := ExAt.kp k18 en
    have i1 := ItAt.kp k18 i1
    have i2 := ItAt.kp k18 i2
    have i3 := ItAt.kp k18 i3
    have q14 := k18.sqT q14
    have e3b := ExAt.kp k18 e3b
    have ee2 := ExAt.kp k18 ee2
    have eok := ExAt.kp k18 eok
    have S := PSt.k0 S k18
    have i4 : ItAt K G18 (.sig true "ok" 1 (.un false (.bin .equal (.nm "n") (.num 3 (1 + ba))))) (.ref t18) := ⟨_, _, rfl, q18, _, rfl, eok⟩
    have hdes : Design [It0.inp "go" 1, .reg "n" 3 st] [It0.nxt "n" (.ite (.bin .equal (.nm "n") (.num 3 (1 + la))) (.num 3 0) (.ite (.nm "go") (.bin .plus (.nm "n") (.num 3 1)) (.nm "n"))), .sig true "ok" 1 (.un false (.bin .equal (.nm "n") (.num 3 (1 + ba))))] := by
      refine small_design (nm_ne (a := "go") (b := "n") (by decide +kernel)) (nm_ne (a := "ok") (b := "go") (by decide +kernel)) (nm_ne (a := "ok") (b := "n") (by decide +kernel)) (by decide) (by decide) (by have : 2 ^ 3 = 8 := rfl; omega) (fun we h1 h2 => ?_) (fun we h1 h2 => ?_) (by simp [Ex.dep, maxDep]) (by simp [Ex.dep, maxDep]) (by simp [Ex.size]) (by simp [Ex.size])
      · have hn : 1 ≤ we "n" ∧ we "n" ≤ 16 := by rw [h2]; decide
        have hg : 1 ≤ we "go" ∧ we "go" ≤ 16 := by rw [h1]; decide
        exact ⟨⟨⟨hn, ⟨by decide, by decide, p3 (by omega)⟩, h2⟩, ⟨by decide, by decide, by decide⟩, ⟨hg, ⟨hn, ⟨by decide, by decide, by decide⟩, h2⟩, hn, h1, rfl⟩, rfl, h2.symm⟩, rfl⟩
      · have hn : 1 ≤ we "n" ∧ we "n" ≤ 16 := by rw [h2]; decide
        exact ⟨⟨hn, ⟨by decide, by decide, p3 (by omega)⟩, h2⟩, rfl⟩
    have fin : ∀ (Ha : Hp) (y : V) (t1' tc' M D t : Addr), Kp [] G18 Ha → SqT K Ha tc' [.ref t11, .ref t12, .ref t13, .ref t18] → SqT K Ha M [.str "module", .str "top", .ref tc'] → SqT K Ha D [.ref M] → SqT K Ha t [.ref D, y] → Q (.ref t) Ha := fun Ha y t1' tc' M D t k z1 z2 z3 z4 =>
      q Ha t D y [It0.inp "go" 1, .reg "n" 3 st] [It0.nxt "n" (.ite (.bin .equal (.nm "n") (.num 3 (1 + la))) (.num 3 0) (.ite (.nm "go") (.bin .plus (.nm "n") (.num 3 1)) (.nm "n"))), .sig true "ok" 1 (.un false (.bin .equal (.nm "n") (.num 3 (1 + ba))))] (c + 1 + 1 + 1) (PSt.k0 S k) (by omega) z4 ⟨M, tc', z3, z2, _, z1, .cons (ItAt.kp k i1) (.cons (ItAt.kp k i2) (.cons (ItAt.kp k i3) (.cons (ItAt.kp k i4) .nil)))⟩ hdes (by show (("ok" : Str), 1) ∈ [(("go" : Str), 1), ("n", 3), ("ok", 1)]; exact List.mem_cons_of_mem _ (List.mem_cons_of_mem _ List.mem_cons_self)) (by show ∀ x ∈ [("go" : Str), "n", "ok"], ¬ x = ("nothing" : Str) ∧ ¬ x = ("" : Str); decide +kernel)
    refine ⟨_, rfl, _, _, rfl, ?_⟩
    refine ⟨_, rfl, by decide, by decide, ?_⟩
    refine for_it walk_range (fun i σ H' => ∃ (x y : Int) (x12 : Option V), σ = [some (.ref p), some (.int ((1 + la : Nat) : Int)), some (.int ((st : Nat) : Int)), some (.int ((1 + ba : Nat) : Int)), some (.ref t1), some (.ref t2), some (.ref t6), some (.ref t10), some (.ref t14), some (.ref t18), some (.int x), some (.int y), x12] ∧ G18 = H') ⟨_, _, none, rfl, rfl⟩ (fun _ _ _ _ _ => trivial) ?_ ?_
    · rintro i v σ H5 H6 hi ⟨x, y, x12, rfl, e5⟩ ⟨e6, ev⟩
      subst e5 e6
      refine ⟨_, rfl, _, rfl, rfl, _, rfl, ite2 (fun _ => ?_) (fun _ => ?_)⟩
      · refine ⟨_, rfl, _, rfl, ?_⟩
        refine ⟨(by show 1 ≤ sizeLine; decide), fun t41 nt41 => ?_⟩
        have k41 := Kp.refl.new nt41 (o := .tup [.ref t18]) (S := [])
        have q41 : SqT K (upd H6 t41 (.tup [.ref t18])) t41 [.ref t18] := SqT.of upd_same
        generalize upd H6 t41 (.tup [.ref t18]) = G41 at k41 q41 ⊢
        have q14 := k41.sqT q14
        refine cat_all q14 q41 (by show 4 ≤ sizeLine; decide) fun GC tc' kc hc' => ?_
        refine ⟨(by show 3 ≤ sizeLine; decide), fun t42 nt42 => ?_⟩
        have k42 := Kp.refl.new nt42 (o := .tup [.str "module", .str "top", .ref tc']) (S := [])
        have q42 : SqT K (upd GC t42 (.tup [.str "module", .str "top", .ref tc'])) t42 [.str "module", .str "top", .ref tc'] := SqT.of upd_same
        generalize upd GC t42 (.tup [.str "module", .str "top", .ref tc']) = G42 at k42 q42 ⊢
        have hc' := k42.sqT hc'
        refine ⟨(by show 1 ≤ sizeLine; decide), fun t43 nt43 => ?_⟩
        have k43 := Kp.refl.new nt43 (o := .tup [.ref t42]) (S := [])
        have q43 : SqT K (upd G42 t43 (.tup [.ref t42])) t43 [.ref t42] := SqT.of upd_same
        generalize upd G42 t43 (.tup [.ref t42]) = G43 at k43 q43 ⊢
        have hc' := k43.sqT hc'
        have q42 := k43.sqT q42
        refine ⟨_, rfl, ?_⟩
        refine ⟨(by show 2 ≤ sizeLine; decide), fun t44 nt44 => ?_⟩
        have k44 := Kp.refl.new nt44 (o := .tup [.ref t43, .int y]) (S := [])
        have q44 : SqT K (upd G43 t44 (.tup [.ref t43, .int y])) t44 [.ref t43, .int y] := SqT.of upd_same
        generalize upd G43 t44 (.tup [.ref t43, .int y]) = G44 at k44 q44 ⊢
        have hc' := k44.sqT hc'
        have q42 := k44.sqT q42
        have q43 := k44.sqT q43
        exact fin _ _ 0 _ _ _ _ (((((k41).trans kc).trans k42).trans k43).trans k44) hc' q42 q43 q44
      · refine ⟨_, rfl, _, rfl, rfl, _, rfl, ite2 (fun _ => ?_) (fun _ => ?_)⟩
        · exact ⟨_, rfl, _, _, rfl, rfl, _, _, rfl, _, _, _, rfl, rfl⟩
        · exact ⟨_, rfl, _, _, rfl, rfl, .inl ⟨_, rfl, _, _, rfl, rfl, (by decide : (0 : Int) < 8), _, rfl, _, _, rfl, rfl, _, _, rfl, _, _, _, rfl, rfl⟩⟩
    · rintro σ H5 ⟨x, y, x12, rfl, e5⟩
      subst e5
      refine ⟨_, rfl, _, rfl, ?_⟩
      refine ⟨(by show 1 ≤ sizeLine; decide), fun t41 nt41 => ?_⟩
      have k41 := Kp.refl.new nt41 (o := .tup [.ref t18]) (S := [])
      have q41 : SqT K (upd G18 t41 (.tup [.ref t18])) t41 [.ref t18] := SqT.of upd_same
      generalize upd G18 t41 (.tup [.ref t18]) = G41 at k41 q41 ⊢
      have q14 := k41.sqT q14
      refine cat_all q14 q41 (by show 4 ≤ sizeLine; decide) fun GC tc' kc hc' => ?_
      refine ⟨(by show 3 ≤ sizeLine; decide), fun t42 nt42 => ?_⟩
      have k42 := Kp.refl.new nt42 (o := .tup [.str "module", .str "top", .ref tc']) (S := [])
      have q42 : SqT K (upd GC t42 (.tup [.str "module", .str "top", .ref tc'])) t42 [.str "module", .str "top", .ref tc'] := SqT.of upd_same
      generalize upd GC t42 (.tup [.str "module", .str "top", .ref tc']) = G42 at k42 q42 ⊢
      have hc' := k42.sqT hc'
      refine ⟨(by show 1 ≤ sizeLine; decide), fun t43 nt43 => ?_⟩
      have k43 := Kp.refl.new nt43 (o := .tup [.ref t42]) (S := [])
      have q43 : SqT K (upd G42 t43 (.tup [.ref t42])) t43 [.ref t42] := SqT.of upd_same
      generalize upd G42 t43 (.tup [.ref t42]) = G43 at k43 q43 ⊢
      have hc' := k43.sqT hc'
      have q42 := k43.sqT q42
      refine ⟨(by show 2 ≤ sizeLine; decide), fun t44 nt44 => ?_⟩
      have k44 := Kp.refl.new nt44 (o := .tup [.ref t43, .non]) (S := [])
      have q44 : SqT K (upd G43 t44 (.tup [.ref t43, .non])) t44 [.ref t43, .non] := SqT.of upd_same
      generalize upd G43 t44 (.tup [.ref t43, .non]) = G44 at k44 q44 ⊢
      have hc' := k44.sqT hc'
      have q42 := k44.sqT q42
      have q43 := k44.sqT q43
      exact fin _ _ 0 _ _ _ _ (((((k41).trans kc).trans k42).trans k43).trans k44) hc' q42 q43 q44
abbrev nm_law_lock : List Str := ["_law_pen_here", "_law_k", "_law_keys", "_law_s", "_law_step", "_law_place", "_law_fits", "_law_items", "_law_ok"]
theorem sc_law_lock : FnScope nm_law_lock ["_law_pen_here"] (C8.fnScope (st 55)) := C8.fnScope_by (by decide +kernel)
theorem cal_law_lock (T : Top K mg) : C8.Cal P w K mg base (3) "_law_lock" (spReady K) [] := by
  refine calD T.d__law_lock sc_law_lock (fun vs H Q E h => ?_) (fun f cdv A outer s0 H vs Q E hr h => ?_)
  ·
    obtain ⟨p, L, c, rfl, _⟩ := h; rfl
  ·
    obtain ⟨p, L, c, rfl, hP, hc, q⟩ := h
    have hu := hu_of hr
    refine ⟨_, (pss_cons (ps_setLc (i := 2) (own := [("_law_k", 1)]) (g := (gName 1)) (tt := tYes)  rfl sc_law_lock.nd rfl rfl (sw_true rfl rfl rfl (by decide +kernel)) (pi_range1 (by rfl) T.f_range (pa_cons (pe_op op_add pe_int (C8.pe_c (cal_law_draw T) hr (by decide) rfl (pa_cons (pv 0) (pa_cons pe_int pa_nil)))) pa_nil)) (blkOk_by (own := [("_law_k", 1)]) (N := nm_law_lock) (sc := C8.fnScope (st 55)) (by decide +kernel)) (fun _ _ _ _ _ => (pg_name (i := 1) sc_law_lock.nd rfl (Or.inl rfl))) (fun _ _ _ _ _ => pts_nil) (fun _ _ _ _ _ => (C8.pe_c (cal_law_draw T) hr (by decide) rfl (pa_cons (pv 0) (pa_cons pe_int pa_nil)))))
      (pss_cons (ps_asg (pe_tup (pa_cons (pe_tup (pa_cons pe_str (pa_cons pe_str pa_nil))) (pa_cons (pe_tup (pa_cons pe_str (pa_cons pe_str pa_nil))) pa_nil))) (pg_tup rfl (pgs_cons (pg_name (i := 3) sc_law_lock.nd rfl (Or.inl rfl)) (pgs_cons (pg_name (i := 1) sc_law_lock.nd rfl (Or.inl rfl)) pgs_nil))))
      (pss_cons (ps_set (i := 4) sc_law_lock.nd rfl (Or.inl rfl) (pe_tup (pa_cons pe_str (pa_cons pe_int (pa_cons pe_int pa_nil)))))
      (pss_cons (ps_for PassesOwn.never rfl (pi_range1 (by rfl) T.f_range (pa_cons (pe_callB call_len_seq (by rfl) T.f_len PySem.boot_len (pa_cons (pv 2) pa_nil)) pa_nil)) (pg_name (i := 5) sc_law_lock.nd rfl (Or.inl rfl)) (pss_cons (ps_set (i := 6) sc_law_lock.nd rfl (Or.inl rfl) (pe_tup (pa_cons pe_str (pa_cons (pe_tup (pa_cons pe_str (pa_cons (pv 3) (pa_cons (pe_tup (pa_cons pe_str (pa_cons pe_int (pa_cons (pv 5) pa_nil)))) pa_nil)))) (pa_cons (pe_tup (pa_cons pe_str (pa_cons (pv 1) (pa_cons (pe_tup (pa_cons pe_str (pa_cons pe_int (pa_cons (pe_ix ix_list (pv 2) (pv 5) (fun _ _ => rfl)) pa_nil)))) pa_nil)))) pa_nil)))))
      (pss_one (ps_set (i := 4) sc_law_lock.nd rfl (Or.inl rfl) (pe_tup (pa_cons pe_str (pa_cons (pv 6) (pa_cons (pe_tup (pa_cons pe_str (pa_cons pe_int (pa_cons (pe_op op_add (pv 5) pe_int) pa_nil)))) (pa_cons (pv 4) pa_nil)))))))))
      (pss_cons (ps_set (i := 7) sc_law_lock.nd rfl (Or.inl rfl) (pe_tup (pa_cons (pe_tup (pa_cons pe_str (pa_cons pe_str (pa_cons pe_int pa_nil)))) (pa_cons (pe_tup (pa_cons pe_str (pa_cons pe_str (pa_cons pe_int (pa_cons pe_int pa_nil))))) (pa_cons (pe_tup (pa_cons pe_str (pa_cons pe_str (pa_cons (pv 4) pa_nil)))) pa_nil)))))
      (pss_cons (ps_set (i := 8) sc_law_lock.nd rfl (Or.inl rfl) (pe_tup (pa_cons pe_str (pa_cons pe_str (pa_cons pe_int (pa_cons (pe_tup (pa_cons pe_str (pa_cons (pe_tup (pa_cons pe_str (pa_cons (pv 3) (pa_cons (pe_tup (pa_cons pe_str (pa_cons pe_int (pa_cons (pe_callB call_len_seq (by rfl) T.f_len PySem.boot_len (pa_cons (pv 2) pa_nil)) pa_nil)))) pa_nil)))) pa_nil))) pa_nil))))))
      (pss_one (ps_ret (pe_tup (pa_cons (pe_tup (pa_cons (pe_tup (pa_cons pe_str (pa_cons pe_str (pa_cons (pe_op op_catA (pv 7) (pe_tup (pa_cons (pv 8) pa_nil))) pa_nil)))) pa_nil)) (pa_cons (pe_op op_add (pe_callB call_len_seq (by rfl) T.f_len PySem.boot_len (pa_cons (pv 2) pa_nil)) pe_int) pa_nil))))))))))), ?_⟩
    have hc9 : maxDraws = 1000000 := rfl
    refine ⟨_, rfl, p, L, c, 5, rfl, hP, by omega, by decide, by decide, fun H1 d1 k1 P1 hd1 => ⟨_, _, rfl, rfl, _, rfl, by omega, by omega, ?_⟩⟩
    have e1 : (1 : Int) + (d1 : Int) = ((1 + d1 : Nat) : Int) := by omega
    dsimp only
    rw [e1]
    refine fun kl nkl => ?_
    have S1 := (PSt.refl hP).step k1 P1
    have hkp : kl ≠ p := (S1.at_.ne nkl).1
    refine lc_range (lo := 0) (n := 1 + d1) (fun i H' => ∃ (c1 : Nat) (ks : List Nat), PSt H H' p L c1 ∧ c1 ≤ c + 1 + i ∧ H' kl = some (.lst (ks.map nV)) ∧ ks.length = i ∧ ∀ x ∈ ks, x < 4) ⟨c + 1, [], S1.new nkl, by omega, upd_same, rfl, (fun _ h => nomatch h)⟩ (fun i H' hi ⟨c1, ks, S, hc1, ek, hl, h4⟩ => ?_) (fun H' ⟨c1, ks, S, hc1, ek, hl, h4⟩ => ?_)
    · refine ⟨rfl, ?_⟩
      refine ⟨_, rfl, p, L, c1, 4, rfl, S.at_, by omega, by decide, by decide, fun H3 d k3 P3 hd => ?_⟩
      have ek3 := k3.at_ _ _ ek (not1 hkp)
      have S3 := S.step k3 P3
      have n0 : H kl = none := k1.free nkl
      refine ⟨_, ek3, small _ (by rw [List.length_map]; omega), c1 + 1, ks ++ [d], S3.put0 n0 ek3 (hP.ne n0).2, by omega, by rw [upd_same, List.map_append]; rfl, by rw [List.length_append, hl]; rfl, fun x hx => ?_⟩
      rcases List.mem_append.mp hx with z | z
      · exact h4 x z
      · rw [List.mem_singleton.mp z]; exact hd
    · skip
      refine ⟨(by show 2 ≤ sizeLine; decide), fun t1 nt1 => ?_⟩
      have k1 := Kp.refl.new nt1 (o := .tup [.str "name", .str "s"]) (S := [])
      have q1 : SqT K (upd H' t1 (.tup [.str "name", .str "s"])) t1 [.str "name", .str "s"] := SqT.of upd_same
      generalize upd H' t1 (.tup [.str "name", .str "s"]) = G1 at k1 q1 ⊢
      have ek := k1.at_ _ _ ek (by simp)
      have S := PSt.k0 S k1
      refine ⟨(by show 2 ≤ sizeLine; decide), fun t2 nt2 => ?_⟩
      have k2 := Kp.refl.new nt2 (o := .tup [.str "name", .str "k"]) (S := [])
      have q2 : SqT K (upd G1 t2 (.tup [.str "name", .str "k"])) t2 [.str "name", .str "k"] := SqT.of upd_same
      generalize upd G1 t2 (.tup [.str "name", .str "k"]) = G2 at k2 q2 ⊢
      have ek := k2.at_ _ _ ek (by simp)
      have q1 := k2.sqT q1
      have S := PSt.k0 S k2
      refine ⟨(by show 2 ≤ sizeLine; decide), fun t3 nt3 => ?_⟩
      have k3 := Kp.refl.new nt3 (o := .tup [.ref t1, .ref t2]) (S := [])
      have q3 : SqT K (upd G2 t3 (.tup [.ref t1, .ref t2])) t3 [.ref t1, .ref t2] := SqT.of upd_same
      generalize upd G2 t3 (.tup [.ref t1, .ref t2]) = G3 at k3 q3 ⊢
      have ek := k3.at_ _ _ ek (by simp)
      have q1 := k3.sqT q1
      have q2 := k3.sqT q2
      have S := PSt.k0 S k3
      refine ⟨t3, _, rfl, q3, rfl, _, _, rfl, _, _, rfl, rfl, ?_⟩
      have en : ExAt K G3 (.nm "s") (.ref t1) := ⟨_, rfl, q1⟩
      have eg : ExAt K G3 (.nm "k") (.ref t2) := ⟨_, rfl, q2⟩
      refine ⟨(by show 3 ≤ sizeLine; decide), fun t4 nt4 => ?_⟩
      have k4 := Kp.refl.new nt4 (o := .tup [.str "number", .int 3, .int 0]) (S := [])
      have q4 : SqT K (upd G3 t4 (.tup [.str "number", .int 3, .int 0])) t4 [.str "number", .int 3, .int 0] := SqT.of upd_same
      generalize upd G3 t4 (.tup [.str "number", .int 3, .int 0]) = G4 at k4 q4 ⊢
      have ek := k4.at_ _ _ ek (by simp)
      have en := ExAt.kp k4 en
      have eg := ExAt.kp k4 eg
      have S := PSt.k0 S k4
      have e0 : ExAt K G4 (lockE ks 0) (.ref t4) := ⟨_, rfl, q4⟩
      refine ⟨_, rfl, _, _, rfl, .inl (SqL.of ek), _, rfl, by rw [List.length_map]; omega, by rw [List.length_map]; omega, ?_⟩
      have S0 := S; have en0 := en; have eg0 := eg; have ek0 := ek
      refine for_it walk_range (fun i σ Hx => ∃ (v : Addr) (x5 x6 : Option V), σ = [some (.ref p), some (.ref t2), some (.ref kl), some (.ref t1), some (.ref v), x5, x6, none, none] ∧ Kp [] G4 Hx ∧ ExAt K Hx (lockE ks i) (.ref v)) ⟨t4, none, none, rfl, Kp.refl, e0⟩ (fun _ _ _ _ _ => trivial) ?_ ?_
      · rintro i v σ Ha Hb hi ⟨va, x5, x6, rfl, kx, ev0⟩ ⟨e6, ev⟩
        subst e6
        have ev2 : v = .int (i : Int) := ev.trans (congrArg V.int (Int.zero_add _))
        subst ev2
        have hi2 : i < ks.length := by rw [List.length_map] at hi; have : i < ((ks.length : Int) - 0).toNat := hi; omega
        have en := ExAt.kp kx en0; have eg := ExAt.kp kx eg0; have ek := kx.at_ _ _ ek0 (by simp)
        refine ⟨_, rfl, _, rfl, ?_⟩
        refine ⟨(by show 3 ≤ sizeLine; decide), fun t21 nt21 => ?_⟩
        have k21 := Kp.refl.new nt21 (o := .tup [.str "number", .int 3, .int (i : Int)]) (S := [])
        have q21 : SqT K (upd Hb t21 (.tup [.str "number", .int 3, .int (i : Int)])) t21 [.str "number", .int 3, .int (i : Int)] := SqT.of upd_same
        generalize upd Hb t21 (.tup [.str "number", .int 3, .int (i : Int)]) = G21 at k21 q21 ⊢
        have en := ExAt.kp k21 en
        have eg := ExAt.kp k21 eg
        have ek := k21.at_ _ _ ek (by simp)
        have ev0 := ExAt.kp k21 ev0
        have f1 : ExAt K G21 (.num 3 i) (.ref t21) := ⟨_, rfl, q21⟩
        refine ⟨(by show 3 ≤ sizeLine; decide), fun t22 nt22 => ?_⟩
        have k22 := Kp.refl.new nt22 (o := .tup [.str "equal", .ref t1, .ref t21]) (S := [])
        have q22 : SqT K (upd G21 t22 (.tup [.str "equal", .ref t1, .ref t21])) t22 [.str "equal", .ref t1, .ref t21] := SqT.of upd_same
        generalize upd G21 t22 (.tup [.str "equal", .ref t1, .ref t21]) = G22 at k22 q22 ⊢
        have en := ExAt.kp k22 en
        have eg := ExAt.kp k22 eg
        have ek := k22.at_ _ _ ek (by simp)
        have ev0 := ExAt.kp k22 ev0
        have f1 := ExAt.kp k22 f1
        have f2 : ExAt K G22 (.bin .equal (.nm "s") (.num 3 i)) (.ref t22) := ⟨_, _, _, rfl, q22, en, f1⟩
        have gki : ks[i]? = some (ks.getD i 0) := by rw [List.getD_eq_getElem?_getD, List.getElem?_eq_getElem hi2]; rfl
        refine ⟨_, rfl, _, rfl, _, rfl, _, _, _, _, rfl, rfl, SqL.of ek, atI_nat (j := i) (put_map gki), ?_⟩
        refine ⟨(by show 3 ≤ sizeLine; decide), fun t23 nt23 => ?_⟩
        have k23 := Kp.refl.new nt23 (o := .tup [.str "number", .int 2, nV (ks.getD i 0)]) (S := [])
        have q23 : SqT K (upd G22 t23 (.tup [.str "number", .int 2, nV (ks.getD i 0)])) t23 [.str "number", .int 2, nV (ks.getD i 0)] := SqT.of upd_same
        generalize upd G22 t23 (.tup [.str "number", .int 2, nV (ks.getD i 0)]) = G23 at k23 q23 ⊢
        have en := ExAt.kp k23 en
        have eg := ExAt.kp k23 eg
        have ek := k23.at_ _ _ ek (by simp)
        have ev0 := ExAt.kp k23 ev0
        have f2 := ExAt.kp k23 f2
        have f3 : ExAt K G23 (.num 2 (ks.getD i 0)) (.ref t23) := ⟨_, rfl, q23⟩
        refine ⟨(by show 3 ≤ sizeLine; decide), fun t24 nt24 => ?_⟩
        have k24 := Kp.refl.new nt24 (o := .tup [.str "equal", .ref t2, .ref t23]) (S := [])
        have q24 : SqT K (upd G23 t24 (.tup [.str "equal", .ref t2, .ref t23])) t24 [.str "equal", .ref t2, .ref t23] := SqT.of upd_same
        generalize upd G23 t24 (.tup [.str "equal", .ref t2, .ref t23]) = G24 at k24 q24 ⊢
        have en := ExAt.kp k24 en
        have eg := ExAt.kp k24 eg
        have ek := k24.at_ _ _ ek (by simp)
        have ev0 := ExAt.kp k24 ev0
        have f2 := ExAt.kp k24 f2
        have f3 := ExAt.kp k24 f3
        have f4 : ExAt K G24 (.bin .equal (.nm "k") (.num 2 (ks.getD i 0))) (.ref t24) := ⟨_, _, _, rfl, q24, eg, f3⟩
        refine ⟨(by show 3 ≤ sizeLine; decide), fun t25 nt25 => ?_⟩
        have k25 := Kp.refl.new nt25 (o := .tup [.str "and", .ref t22, .ref t24]) (S := [])
        have q25 : SqT K (upd G24 t25 (.tup [.str "and", .ref t22, .ref t24])) t25 [.str "and", .ref t22, .ref t24] := SqT.of upd_same
        generalize upd G24 t25 (.tup [.str "and", .ref t22, .ref t24]) = G25 at k25 q25 ⊢
        have en := ExAt.kp k25 en
        have eg := ExAt.kp k25 eg
        have ek := k25.at_ _ _ ek (by simp)
        have ev0 := ExAt.kp k25 ev0
        have f2 := ExAt.kp k25 f2
        have f4 := ExAt.kp k25 f4
        have f5 : ExAt K G25 (.bin .and (.bin .equal (.nm "s") (.num 3 i)) (.bin .equal (.nm "k") (.num 2 (ks.getD i 0)))) (.ref t25) := ⟨_, _, _, rfl, q25, f2, f4⟩
        refine ⟨_, rfl, _, rfl, _, _, rfl, rfl, ?_⟩
        refine ⟨(by show 3 ≤ sizeLine; decide), fun t26 nt26 => ?_⟩
        have k26 := Kp.refl.new nt26 (o := .tup [.str "number", .int 3, .int ((i : Int) + 1)]) (S := [])
        have q26 : SqT K (upd G25 t26 (.tup [.str "number", .int 3, .int ((i : Int) + 1)])) t26 [.str "number", .int 3, .int ((i : Int) + 1)] := SqT.of upd_same
        generalize upd G25 t26 (.tup [.str "number", .int 3, .int ((i : Int) + 1)]) = G26 at k26 q26 ⊢
        have en := ExAt.kp k26 en
        have eg := ExAt.kp k26 eg
        have ek := k26.at_ _ _ ek (by simp)
        have ev0 := ExAt.kp k26 ev0
        have f5 := ExAt.kp k26 f5
        have f6 : ExAt K G26 (.num 3 (i + 1)) (.ref t26) := ⟨_, rfl, q26⟩
        refine ⟨_, rfl, ?_⟩
        refine ⟨(by show 4 ≤ sizeLine; decide), fun t27 nt27 => ?_⟩
        have k27 := Kp.refl.new nt27 (o := .tup [.str "if", .ref t25, .ref t26, .ref va]) (S := [])
        have q27 : SqT K (upd G26 t27 (.tup [.str "if", .ref t25, .ref t26, .ref va])) t27 [.str "if", .ref t25, .ref t26, .ref va] := SqT.of upd_same
        generalize upd G26 t27 (.tup [.str "if", .ref t25, .ref t26, .ref va]) = G27 at k27 q27 ⊢
        have en := ExAt.kp k27 en
        have eg := ExAt.kp k27 eg
        have ek := k27.at_ _ _ ek (by simp)
        have ev0 := ExAt.kp k27 ev0
        have f5 := ExAt.kp k27 f5
        have f6 := ExAt.kp k27 f6
        exact ⟨t27, some (.int (i : Int)), some (.ref t25), rfl, ((((((kx.trans k21).trans k22).trans k23).trans k24).trans k25).trans k26).trans k27, ⟨_, _, _, _, rfl, q27, f5, f6, ev0⟩⟩
      · rintro σ HZ ⟨va, x5, x6, rfl, kx, ev0⟩
        rw [Int.toNat_natCast, List.length_map] at ev0
        have S := PSt.k0 S0 kx; have en := ExAt.kp kx en0; have ek := kx.at_ _ _ ek0 (by simp)
        refine ⟨(by show 3 ≤ sizeLine; decide), fun t31 nt31 => ?_⟩
        have k31 := Kp.refl.new nt31 (o := .tup [.str "input", .str "k", .int 2]) (S := [])
        have q31 : SqT K (upd HZ t31 (.tup [.str "input", .str "k", .int 2])) t31 [.str "input", .str "k", .int 2] := SqT.of upd_same
        generalize upd HZ t31 (.tup [.str "input", .str "k", .int 2]) = G31 at k31 q31 ⊢
        have en := ExAt.kp k31 en
        have ek := k31.at_ _ _ ek (by simp)
        have ev0 := ExAt.kp k31 ev0
        have S := PSt.k0 S k31
        have i1 : ItAt K G31 (.inp "k" 2) (.ref t31) := ⟨_, _, rfl, q31, rfl⟩
        refine ⟨(by show 4 ≤ sizeLine; decide), fun t32 nt32 => ?_⟩
        have k32 := Kp.refl.new nt32 (o := .tup [.str "reg", .str "s", .int 3, .int 0]) (S := [])
        have q32 : SqT K (upd G31 t32 (.tup [.str "reg", .str "s", .int 3, .int 0])) t32 [.str "reg", .str "s", .int 3, .int 0] := SqT.of upd_same
        generalize upd G31 t32 (.tup [.str "reg", .str "s", .int 3, .int 0]) = G32 at k32 q32 ⊢
        have en := ExAt.kp k32 en
        have ek := k32.at_ _ _ ek (by simp)
        have ev0 := ExAt.kp k32 ev0
        have i1 := ItAt.kp k32 i1
        have S := PSt.k0 S k32
        have i2 : ItAt K G32 (.reg "s" 3 0) (.ref t32) := ⟨_, _, rfl, q32, rfl⟩
        refine ⟨_, rfl, ?_⟩
        refine ⟨(by show 3 ≤ sizeLine; decide), fun t33 nt33 => ?_⟩
        have k33 := Kp.refl.new nt33 (o := .tup [.str "next", .str "s", .ref va]) (S := [])
        have q33 : SqT K (upd G32 t33 (.tup [.str "next", .str "s", .ref va])) t33 [.str "next", .str "s", .ref va] := SqT.of upd_same
        generalize upd G32 t33 (.tup [.str "next", .str "s", .ref va]) = G33 at k33 q33 ⊢
        have en := ExAt.kp k33 en
        have ek := k33.at_ _ _ ek (by simp)
        have ev0 := ExAt.kp k33 ev0
        have i1 := ItAt.kp k33 i1
        have i2 := ItAt.kp k33 i2
        have S := PSt.k0 S k33
        have i3 : ItAt K G33 (.nxt "s" (lockE ks ks.length)) (.ref t33) := ⟨_, _, rfl, q33, _, rfl, ev0⟩
        refine ⟨(by show 3 ≤ sizeLine; decide), fun t34 nt34 => ?_⟩
        have k34 := Kp.refl.new nt34 (o := .tup [.ref t31, .ref t32, .ref t33]) (S := [])
        have q34 : SqT K (upd G33 t34 (.tup [.ref t31, .ref t32, .ref t33])) t34 [.ref t31, .ref t32, .ref t33] := SqT.of upd_same
        generalize upd G33 t34 (.tup [.ref t31, .ref t32, .ref t33]) = G34 at k34 q34 ⊢
        have en := ExAt.kp k34 en
        have ek := k34.at_ _ _ ek (by simp)
        have i1 := ItAt.kp k34 i1
        have i2 := ItAt.kp k34 i2
        have i3 := ItAt.kp k34 i3
        have S := PSt.k0 S k34
        refine ⟨_, rfl, _, rfl, _, _, rfl, .inl (SqL.of ek), ?_⟩
        rw [List.length_map]
        refine ⟨(by show 3 ≤ sizeLine; decide), fun t35 nt35 => ?_⟩
        have k35 := Kp.refl.new nt35 (o := .tup [.str "number", .int 3, .int (ks.length : Int)]) (S := [])
        have q35 : SqT K (upd G34 t35 (.tup [.str "number", .int 3, .int (ks.length : Int)])) t35 [.str "number", .int 3, .int (ks.length : Int)] := SqT.of upd_same
        generalize upd G34 t35 (.tup [.str "number", .int 3, .int (ks.length : Int)]) = G35 at k35 q35 ⊢
        have en := ExAt.kp k35 en
        have ek := k35.at_ _ _ ek (by simp)
        have i1 := ItAt.kp k35 i1
        have i2 := ItAt.kp k35 i2
        have i3 := ItAt.kp k35 i3
        have q34 := k35.sqT q34
        have S := PSt.k0 S k35
        have g5 : ExAt K G35 (.num 3 ks.length) (.ref t35) := ⟨_, rfl, q35⟩
        refine ⟨(by show 3 ≤ sizeLine; decide), fun t36 nt36 => ?_⟩
        have k36 := Kp.refl.new nt36 (o := .tup [.str "equal", .ref t1, .ref t35]) (S := [])
        have q36 : SqT K (upd G35 t36 (.tup [.str "equal", .ref t1, .ref t35])) t36 [.str "equal", .ref t1, .ref t35] := SqT.of upd_same
        generalize upd G35 t36 (.tup [.str "equal", .ref t1, .ref t35]) = G36 at k36 q36 ⊢
        have en := ExAt.kp k36 en
        have ek := k36.at_ _ _ ek (by simp)
        have i1 := ItAt.kp k36 i1
        have i2 := ItAt.kp k36 i2
        have i3 := ItAt.kp k36 i3
        have q34 := k36.sqT q34
        have g5 := ExAt.kp k36 g5
        have S := PSt.k0 S k36
        have g6 : ExAt K G36 (.bin .equal (.nm "s") (.num 3 ks.length)) (.ref t36) := ⟨_, _, _, rfl, q36, en, g5⟩
        refine ⟨(by show 2 ≤ sizeLine; decide), fun t37 nt37 => ?_⟩
        have k37 := Kp.refl.new nt37 (o := .tup [.str "not", .ref t36]) (S := [])
        have q37 : SqT K (upd G36 t37 (.tup [.str "not", .ref t36])) t37 [.str "not", .ref t36] := SqT.of upd_same
        generalize upd G36 t37 (.tup [.str "not", .ref t36]) = G37 at k37 q37 ⊢
        have en := ExAt.kp k37 en
        have ek := k37.at_ _ _ ek (by simp)
        have i1 := ItAt.kp k37 i1
        have i2 := ItAt.kp k37 i2
        have i3 := ItAt.kp k37 i3
        have q34 := k37.sqT q34
        have g6 := ExAt.kp k37 g6
        have S := PSt.k0 S k37
        have g7 : ExAt K G37 (.un false (.bin .equal (.nm "s") (.num 3 ks.length))) (.ref t37) := ⟨_, _, rfl, q37, g6⟩
        refine ⟨(by show 4 ≤ sizeLine; decide), fun t38 nt38 => ?_⟩
        have k38 := Kp.refl.new nt38 (o := .tup [.str "output", .str "ok", .int 1, .ref t37]) (S := [])
        have q38 : SqT K (upd G37 t38 (.tup [.str "output", .str "ok", .int 1, .ref t37])) t38 [.str "output", .str "ok", .int 1, .ref t37] := SqT.of upd_same
        generalize upd G37 t38 (.tup [.str "output", .str "ok", .int 1, .ref t37]) = G38 at k38 q38 ⊢
        have en := ExAt.kp k38 en
        have ek := k38.at_ _ _ ek (by simp)
        have i1 := ItAt.kp k38 i1
        have i2 := ItAt.kp k38 i2
        have i3 := ItAt.kp k38 i3
        have q34 := k38.sqT q34
        have g7 := ExAt.kp k38 g7
        have S := PSt.k0 S k38
        have i4 : ItAt K G38 (.sig true "ok" 1 (.un false (.bin .equal (.nm "s") (.num 3 ks.length)))) (.ref t38) := ⟨_, _, rfl, q38, _, rfl, g7⟩
        refine ⟨_, rfl, _, rfl, ?_⟩
        refine ⟨(by show 1 ≤ sizeLine; decide), fun t39 nt39 => ?_⟩
        have k39 := Kp.refl.new nt39 (o := .tup [.ref t38]) (S := [])
        have q39 : SqT K (upd G38 t39 (.tup [.ref t38])) t39 [.ref t38] := SqT.of upd_same
        generalize upd G38 t39 (.tup [.ref t38]) = G39 at k39 q39 ⊢
        have ek := k39.at_ _ _ ek (by simp)
        have i1 := ItAt.kp k39 i1
        have i2 := ItAt.kp k39 i2
        have i3 := ItAt.kp k39 i3
        have q34 := k39.sqT q34
        have i4 := ItAt.kp k39 i4
        have S := PSt.k0 S k39
        refine cat_all q34 q39 (by show 4 ≤ sizeLine; decide) fun GC tc' kc hc' => ?_
        have S := PSt.k0 S kc; have i1 := ItAt.kp kc i1; have i2 := ItAt.kp kc i2; have i3 := ItAt.kp kc i3; have i4 := ItAt.kp kc i4; have ek := kc.at_ _ _ ek (by simp)
        refine ⟨(by show 3 ≤ sizeLine; decide), fun t61 nt61 => ?_⟩
        have k61 := Kp.refl.new nt61 (o := .tup [.str "module", .str "top", .ref tc']) (S := [])
        have q61 : SqT K (upd GC t61 (.tup [.str "module", .str "top", .ref tc'])) t61 [.str "module", .str "top", .ref tc'] := SqT.of upd_same
        generalize upd GC t61 (.tup [.str "module", .str "top", .ref tc']) = G61 at k61 q61 ⊢
        have hc' := k61.sqT hc'
        have i1 := ItAt.kp k61 i1
        have i2 := ItAt.kp k61 i2
        have i3 := ItAt.kp k61 i3
        have i4 := ItAt.kp k61 i4
        have ek := k61.at_ _ _ ek (by simp)
        have S := PSt.k0 S k61
        refine ⟨(by show 1 ≤ sizeLine; decide), fun t62 nt62 => ?_⟩
        have k62 := Kp.refl.new nt62 (o := .tup [.ref t61]) (S := [])
        have q62 : SqT K (upd G61 t62 (.tup [.ref t61])) t62 [.ref t61] := SqT.of upd_same
        generalize upd G61 t62 (.tup [.ref t61]) = G62 at k62 q62 ⊢
        have hc' := k62.sqT hc'
        have i1 := ItAt.kp k62 i1
        have i2 := ItAt.kp k62 i2
        have i3 := ItAt.kp k62 i3
        have i4 := ItAt.kp k62 i4
        have ek := k62.at_ _ _ ek (by simp)
        have q61 := k62.sqT q61
        have S := PSt.k0 S k62
        refine ⟨_, rfl, _, _, rfl, .inl (SqL.of ek), _, _, rfl, rfl, ?_⟩
        refine ⟨(by show 2 ≤ sizeLine; decide), fun t63 nt63 => ?_⟩
        have k63 := Kp.refl.new nt63 (o := .tup [.ref t62, .int (((ks.map nV).length : Int) + 1)]) (S := [])
        have q63 : SqT K (upd G62 t63 (.tup [.ref t62, .int (((ks.map nV).length : Int) + 1)])) t63 [.ref t62, .int (((ks.map nV).length : Int) + 1)] := SqT.of upd_same
        generalize upd G62 t63 (.tup [.ref t62, .int (((ks.map nV).length : Int) + 1)]) = G63 at k63 q63 ⊢
        have hc' := k63.sqT hc'
        have i1 := ItAt.kp k63 i1
        have i2 := ItAt.kp k63 i2
        have i3 := ItAt.kp k63 i3
        have i4 := ItAt.kp k63 i4
        have ek := k63.at_ _ _ ek (by simp)
        have q61 := k63.sqT q61
        have q62 := k63.sqT q62
        have S := PSt.k0 S k63
        have hks : ks.length ≤ 5 := by omega
        have hdes : Design [It0.inp "k" 2, .reg "s" 3 0] [It0.nxt "s" (lockE ks ks.length), .sig true "ok" 1 (.un false (.bin .equal (.nm "s") (.num 3 ks.length)))] := by
          have hdp := lockE_dep ks ks.length
          have hsz := lockE_size ks ks.length
          refine small_design (nm_ne (a := "k") (b := "s") (by decide +kernel)) (nm_ne (a := "ok") (b := "k") (by decide +kernel)) (nm_ne (a := "ok") (b := "s") (by decide +kernel)) (by decide) (by decide) (by decide) (fun we h1 h2 => lockE_ok ks h4 we h1 h2 _ (by omega) (Nat.le_refl _)) (fun we h1 h2 => ?_) (by have : maxDep = 12 := rfl; omega) (by simp [Ex.dep, maxDep]) (by omega) (by simp [Ex.size])
          have hn : 1 ≤ we "s" ∧ we "s" ≤ 16 := by rw [h2]; decide
          exact ⟨⟨hn, ⟨by decide, by decide, p3 (by omega)⟩, h2⟩, rfl⟩
        exact q _ _ _ _ [It0.inp "k" 2, .reg "s" 3 0] [It0.nxt "s" (lockE ks ks.length), .sig true "ok" 1 (.un false (.bin .equal (.nm "s") (.num 3 ks.length)))] c1 S (by omega) q63 ⟨_, tc', q62, q61, _, hc', .cons i1 (.cons i2 (.cons i3 (.cons i4 .nil)))⟩ hdes (by show (("ok" : Str), 1) ∈ [(("k" : Str), 2), ("s", 3), ("ok", 1)]; exact List.mem_cons_of_mem _ (List.mem_cons_of_mem _ List.mem_cons_self)) (by show ∀ x ∈ [("k" : Str), "s", "ok"], ¬ x = ("nothing" : Str) ∧ ¬ x = ("" : Str); decide +kernel)
end
end K14
/-! defs that raise -/
namespace K14
open PySem PySem.Spec PyProof.Rows L2
/-- a def of the module that may raise -/
structure CalX (P : Program) (w : World) (K : PySem.W.Frag) (mg : Str → Option Value) (base : Heap) (k : Nat) (x : Str) (sp : Sp) (ps : List Str) : Prop where
  ex : ∃ fd, FnOk P w K mg base (L2.CX P w) k (He.ga K x) fd ps sp ∧ mg x = some (.ref (He.ga K x)) ∧ PySem.W.keepIn K (.ref (He.ga K x)) = true ∧ Binds K fd ps []
theorem calX {P : Program} {w : World} {K : PySem.W.Frag} {mg : Str → Option Value} {base : Heap} {x : Str} {s : Stmt} {N ps : List Str} {k : Nat} {sp : Sp} (D : HasDef K mg x s ps) (S : FnScope N ps (C8.fnScope s)) (len : ∀ vs H Q E, sp vs H Q E → vs.length = ps.length)
    (hbody : ∀ (f : Addr) (cdv : Value) (A : Around) (outer : List Env) (s0 : Shared) (H : Hp) (vs : List V) (Q : VK) (E : XK), Room k (A.deeper (envOfC x (C8.fnScope s) s0.heap.objs.size f cdv)) → sp vs H Q E →
      ∃ t, PSs (cxOf (L2.CX P w) P w K mg base N x (C8.fnScope s) f cdv A outer s0 H E) (C8.fnBody s) t ∧ t { nx := fun _ H' => Q .non H', rt := Q } (start N vs) H) : CalX P w K mg base (k + 1) x sp ps := by
  obtain ⟨fd, F, b⟩ := D.ex
  obtain ⟨oc, od, dV, kV, doc, pm, an, cdv, ct, osl, rfl, lk, hcd⟩ := F.fn.ex
  exact ⟨_, fn_of lk hcd S len fun A outer s H vs Q E hr hsp => hbody _ _ A outer s H vs Q E hr hsp, F.mgf, F.kp, b⟩
/-- X(..), an own exception of these fields -/
def tMkE (C : Addr) (n : Nat) (fs : List V → List (Str × V)) (ta : TA) : L2.St → Hp → XK → Prop := fun σ H Q => ta σ H fun vs H1 => vs.length = n ∧ ∀ d, H1 d = none → Q (.ref C) (some d) (upd H1 d (.xd (fs vs)))
def fsN (vs : List V) : List (Str × V) := [("name", vs.getD 0 .non)]
def fsB (vs : List V) : List (Str × V) := [("told", vs.getD 2 .non), ("wanted", vs.getD 1 .non), ("name", vs.getD 0 .non)]
/-- the two exceptions: what their making gives -/
structure ExcTop (P : Program) (w : World) (K : PySem.W.Frag) (mg : Str → Option Value) (base : Heap) : Prop where
  gN : mg "NoName" = some (.ref (He.ga K "NoName"))
  gB : mg "BadWidth" = some (.ref (He.ga K "BadWidth"))
  mkN : ∀ {X : Cx} {a : Expr} {ta : TA} {p pos : Pos} {k : Nat}, X.prog = P → X.w = w → X.K = K → X.mg = mg → X.base = base → Room k X.A → 2 ≤ k → Gl X "NoName" → PA X [a] ta → starEach [a] X.env = [(false, eval a X.env)] → PMk X (.Call (.Name "NoName" p) [a] [] pos) (tMkE (He.ga K "NoName") 1 fsN ta)
  mkB : ∀ {X : Cx} {a b c : Expr} {ta : TA} {p pos : Pos} {k : Nat}, X.prog = P → X.w = w → X.K = K → X.mg = mg → X.base = base → Room k X.A → 2 ≤ k → Gl X "BadWidth" → PA X [a, b, c] ta → starEach [a, b, c] X.env = (false, eval a X.env) :: starEach [b, c] X.env → (backTo pos (starEach [b, c] X.env)).any (·.1) = false →
    PMk X (.Call (.Name "BadWidth" p) [a, b, c] [] pos) (tMkE (He.ga K "BadWidth") 3 fsB ta)
end K14
set_option maxHeartbeats 200000
/-! the machine's words, bit by bit -/
namespace K14
open PySem PySem.Spec PyProof.Rows L2
theorem word_bits (ms : List M) (z : Bits) : ∀ ws : List Nat, ws.map (fun l => lm ms l z) = (List.range ws.length).map fun k => wn ms ws z / 2 ^ k % 2 == 1
  | [] => rfl
  | l :: r => by
    have ih := word_bits ms z r
    rw [List.map_cons, List.length_cons, List.range_succ_eq_map, List.map_cons, List.map_map]
    congr 1
    · show lm ms l z = (((lm ms l z).toNat + 2 * wn ms r z) / 2 ^ 0 % 2 == 1)
      rw [Nat.pow_zero, Nat.div_one, Nat.add_mul_mod_self_left]
      cases lm ms l z <;> rfl
    · rw [ih]
      apply List.map_congr_left
      intro k _
      show _ = (((lm ms l z).toNat + 2 * wn ms r z) / 2 ^ (k + 1) % 2 == 1)
      have e : ((lm ms l z).toNat + 2 * wn ms r z) / 2 ^ (k + 1) = wn ms r z / 2 ^ k := by
        rw [Nat.pow_succ, Nat.mul_comm (2 ^ k) 2, ← Nat.div_div_eq_div_mul]
        congr 1
        cases lm ms l z <;> simp <;> omega
      rw [e]
/-- the values of the first j registers' next words -/
def nvals (A B : List It0) (j : Nat) (z : Bits) : List Nat := ((sel "reg" A).take j).map fun p => nval B (we1 (A ++ B)) (env1 (A ++ B) z) p.1
def nwid (A : List It0) (j : Nat) : List Nat := ((sel "reg" A).take j).map (·.2)
theorem bits_step {A B : List It0} {n : Nat} {gs : List (Nat × Nat)} {ns ws : List Nat} {j : Nat} {x : Str} {w : Nat} (g : (sel "reg" A)[j]? = some (x, w)) (h : ∀ z, (ns.map fun l => lm (nodes n gs) l z) = bitsOf (nvals A B j z) (nwid A j))
    (hl : ws.length = w) (hv : ∀ z, wn (nodes n gs) ws z = nval B (we1 (A ++ B)) (env1 (A ++ B) z) x) (z : Bits) : ((ns ++ ws).map fun l => lm (nodes n gs) l z) = bitsOf (nvals A B (j + 1) z) (nwid A (j + 1)) := by
  have e1 : nvals A B (j + 1) z = nvals A B j z ++ [nval B (we1 (A ++ B)) (env1 (A ++ B) z) x] := by
    unfold nvals
    rw [List.take_add_one, g, List.map_append]; rfl
  have e2 : nwid A (j + 1) = nwid A j ++ [w] := by
    unfold nwid
    rw [List.take_add_one, g, List.map_append]; rfl
  rw [List.map_append, h z, e1, e2, bitsOf_snoc _ _ (by unfold nvals nwid; rw [List.length_map, List.length_map]), word_bits, hl, hv z]
/-- what the machine must tell, from its words -/
theorem machine_ok {A B : List It0} (d : Design A B) {n : Nat} {gs : List (Nat × Nat)} {ns : List Nat} {w : Nat} {wish : Str} (h : ∀ z, (ns.map fun l => lm (nodes n gs) l z) = bitsOf (nvals A B (sel "reg" A).length z) (nwid A (sel "reg" A).length))
    (hw : ∀ z, (lm (nodes n gs) w z).toNat = env1 (A ++ B) z wish) : MachineOk A B n gs ns w wish := by
  intro ws ss fw fs
  have he := d.envE fw fs
  refine ⟨?_, by rw [hw, he]⟩
  rw [h, d.outsE]
  unfold nvals nwid hN
  rw [List.take_length, he, d.weE.1, List.map_map]; rfl
/-- the registers' resets, bit by bit -/
def rstBits (A : List It0) : List Nat := (bitsOf (resets A) (wR A)).map Bool.toNat
theorem nb_bits (w r : Nat) : nb w r = ((List.range w).map fun k => r / 2 ^ k % 2 == 1).map Bool.toNat := by
  unfold nb
  rw [List.map_map]
  apply List.map_congr_left
  intro k _
  exact bit_eq _
end K14
set_option maxHeartbeats 8000000
/-! machine_of -/
namespace K14
open PySem PySem.Spec PyProof.Rows L2
def selV (f : It0 → Bool) : List It0 → List V → List V
  | it :: its, v :: vs => if f it = true then v :: selV f its vs else selV f its vs
  | _, _ => []
section
variable {K : PySem.W.Frag}
theorem selV_snoc {H : Hp} (f : It0 → Bool) : ∀ {its : List It0} {vs : List V}, Paired (fun it x => ItAt K H it x) its vs → ∀ {i : Nat} {it : It0} {v : V}, its[i]? = some it → vs[i]? = some v →
    selV f (its.take (i + 1)) (vs.take (i + 1)) = if f it = true then selV f (its.take i) (vs.take i) ++ [v] else selV f (its.take i) (vs.take i)
  | _, _, .nil, i, it, v, h, _ => by simp at h
  | a :: its, b :: vs, .cons _ t, 0, it, v, h, h' => by
    cases (Option.some.inj h); cases (Option.some.inj h')
    rfl
  | a :: its, b :: vs, .cons _ t, i + 1, it, v, h, h' => by
    have ih := selV_snoc f t (i := i) h h'
    show (if f a = true then b :: selV f (its.take (i + 1)) (vs.take (i + 1)) else selV f (its.take (i + 1)) (vs.take (i + 1))) = _
    rw [ih]
    show _ = if f it = true then (if f a = true then b :: selV f (its.take i) (vs.take i) else selV f (its.take i) (vs.take i)) ++ [v] else (if f a = true then b :: selV f (its.take i) (vs.take i) else selV f (its.take i) (vs.take i))
    by_cases h1 : f a = true
    · by_cases h2 : f it = true
      · simp [h1, h2]
      · simp [h1, h2]
    · by_cases h2 : f it = true
      · simp [h1, h2]
      · simp [h1, h2]
theorem selV_at {H : Hp} (f : It0 → Bool) : ∀ {its : List It0} {vs : List V}, Paired (fun it x => ItAt K H it x) its vs → Paired (fun it x => ItAt K H it x) (its.filter f) (selV f its vs)
  | _, _, .nil => .nil
  | a :: its, b :: vs, .cons h t => by
    have ih := selV_at f t
    show Paired _ ((a :: its).filter f) (if f a = true then b :: selV f its vs else selV f its vs)
    by_cases h1 : f a = true
    · rw [List.filter_cons_of_pos h1, if_pos h1]; exact .cons h ih
    · rw [List.filter_cons_of_neg h1, if_neg h1]; exact ih
end
theorem reg_kd (it : It0) : it.isReg = true ↔ it.kd = "reg" := by
  cases it with
  | inp x w => exact ⟨fun z => (by cases z), fun z => absurd z (nm_ne (a := "input") (b := "reg") (by decide +kernel))⟩
  | reg x w r => exact ⟨fun _ => rfl, fun _ => rfl⟩
  | sig o x w e => cases o <;> first | exact ⟨fun z => (by cases z), fun z => absurd z (nm_ne (a := "wire") (b := "reg") (by decide +kernel))⟩ | exact ⟨fun z => (by cases z), fun z => absurd z (nm_ne (a := "output") (b := "reg") (by decide +kernel))⟩
  | nxt x e => exact ⟨fun z => (by cases z), fun z => absurd z (nm_ne (a := "next") (b := "reg") (by decide +kernel))⟩
theorem filter_reg (its : List It0) : (its.filter It0.isReg).map (fun it => (it.nm, it.wd)) = sel "reg" its := by
  induction its with
  | nil => rfl
  | cons a its ih =>
    rw [sel_cons]
    by_cases h : a.isReg = true
    · rw [List.filter_cons_of_pos h, List.map_cons, ih, sel_yes ((reg_kd a).mp h)]; rfl
    · rw [List.filter_cons_of_neg h, ih, sel_no (fun z => h ((reg_kd a).mpr z))]; rfl
theorem sum_cast : ∀ l : List Nat, (l.map fun x : Nat => (x : Int)).sum = ((l.sum : Nat) : Int)
  | [] => rfl
  | a :: l => by rw [List.map_cons, List.sum_cons, List.sum_cons, sum_cast l]; omega
theorem TyX.kpN {K : PySem.W.Frag} {H H' : Hp} (k : Kp [] H H') {x : V} {t : Value} (h : TyX K H x t) : TyX K H' x t := by
  have g : ∀ {b : Addr} {o : HO}, H b = some o → H' b = some o := fun e => k.at_ _ _ e (fun z => nomatch z)
  cases h with
  | base h =>
    cases h with
    | non => exact .base .non
    | bl b => exact .base (.bl b)
    | int i => exact .base (.int i)
    | str z => exact .base (.str z)
    | flt z => exact .base (.flt z)
    | lst e => exact .base (.lst (g e))
    | frz e => exact .base (.frz (g e))
    | tup e => exact .base (.tup (g e))
    | dK e => exact .base (.dK (g e))
    | dT e => exact .base (.dT (g e))
    | ins e cl ha hn htk hm => exact .base (.ins (g e) cl ha hn htk hm)
  | byt b => exact .byt b
  | set e => exact .set (g e)
  | kList e c => exact .kList e c
  | kTuple e c => exact .kTuple e c
  | kDict e c => exact .kDict e c
  | fTuple e => exact .fTuple (g e)
  | fDict e => exact .fDict (g e)
theorem valV_no : ∀ {kvs : List (Key × V)} {k : Key}, k ∉ kvs.map (·.1) → valV kvs k = none
  | [], _, _ => rfl
  | p :: r, k, h => by
    rw [valV_neg (fun e => h (by rw [← e]; exact List.mem_cons_self))]
    exact valV_no fun z => h (List.mem_cons_of_mem _ z)
theorem namedK_mem {its : List It0} {s : Str} (h : (Sum.inr s : Key) ∈ (namedK its).map (·.1)) : s ∈ (namedL its).map (·.1) := by
  unfold namedK at h
  rw [List.map_map] at h
  obtain ⟨x, hx, e⟩ := List.mem_map.mp h
  have e' : (Sum.inr x.1 : Key) = Sum.inr s := e
  rw [← Sum.inr.inj e']
  exact List.mem_map_of_mem hx
def NotStr (K : PySem.W.Frag) (H : Hp) (v : V) : Prop := ∃ t : String, TyX K H v (.type t) ∧ kitB t "str" = some false
section
variable {P : Program} {w : World} {K : PySem.W.Frag} {mg : Str → Option Value} {base : Heap}
theorem cal_expression_word2 (T : Top K mg) : C8.Cal P w K mg base 20 "expression_word" (spEx K maxDep) [] := cal_expression_word T
theorem nLeaves_eq {A B : List It0} (d : Design A B) : nLeaves (A ++ B) = (wI A).sum + (wR A).sum := by
  unfold nLeaves
  rw [d.leavesE]
  unfold tot leaves wI wR
  rw [List.map_append, List.sum_append]
/-- a register's next word, made -/
structure NxE where
  x : Str
  a : Addr
  ws : List Nat
def nxKv (es : List NxE) : List (Key × V) := es.map fun e => (Sum.inr e.x, .ref e.a)
def NxRel (n : Nat) (gs : List (Nat × Nat)) (we : Str → Nat) (env : Bits → Str → Nat) (e : NxE) (p : Str × Ex) : Prop := e.x = p.1 ∧ WOk n gs e.ws ∧ e.ws.length = p.2.wd we ∧ ∀ z, wn (nodes n gs) e.ws z = p.2.ev we (env z)
theorem NxRel.mono {n : Nat} {gs gs' : List (Nat × Nat)} {we : Str → Nat} {env : Bits → Str → Nat} {e : NxE} {p : Str × Ex} (h : NxRel n gs we env e p) (k : gs <+: gs') : NxRel n gs' we env e p := ⟨h.1, h.2.1.mono k, h.2.2.1, fun z => by rw [h.2.1.num k]; exact h.2.2.2 z⟩
theorem nxKv_names {n : Nat} {gs : List (Nat × Nat)} {we : Str → Nat} {env : Bits → Str → Nat} : ∀ {es : List NxE} {l : List (Str × Ex)}, Paired (NxRel n gs we env) es l → (nxKv es).map (·.1) = (l.map (·.1)).map fun s : Str => (Sum.inr s : Key)
  | _, _, .nil => rfl
  | _, _, .cons h t => by
    have ih := nxKv_names t
    show Sum.inr _ :: (nxKv _).map (·.1) = Sum.inr _ :: _
    rw [ih, h.1]
theorem nx_find {K : PySem.W.Frag} {H : Hp} {n : Nat} {gs : List (Nat × Nat)} {we : Str → Nat} {env : Bits → Str → Nat} {es : List NxE} {l : List (Str × Ex)} (h : Paired (NxRel n gs we env) es l) (hn : (l.map (·.1)).Nodup) (hw : ∀ e ∈ es, WAt K H e.a e.ws) (x : Str) :
    (∃ e ex, l.lookup x = some ex ∧ e ∈ es ∧ valV (nxKv es) (Sum.inr x) = some (.ref e.a) ∧ WAt K H e.a e.ws ∧ NxRel n gs we env e (x, ex)) ∨ (l.lookup x = none ∧ valV (nxKv es) (Sum.inr x) = none) := by
  have hk : ((nxKv es).map (·.1)).Nodup := by
    rw [nxKv_names h]
    exact List.Pairwise.map _ (fun _ _ hne z => hne (Sum.inr.inj z)) hn
  cases hl : l.lookup x with
  | some ex =>
    obtain ⟨i, hi⟩ := List.getElem?_of_mem (lookup_mem hl)
    obtain ⟨e, ge, hr⟩ := Paired.getR h hi
    have hm := List.mem_of_getElem? ge
    refine .inl ⟨e, ex, rfl, hm, ?_, hw e hm, hr⟩
    have hx : e.x = x := hr.1
    rw [← hx]
    exact valV_mem hk (List.mem_map_of_mem (f := fun e : NxE => ((Sum.inr e.x : Key), V.ref e.a)) hm)
  | none =>
    refine .inr ⟨rfl, valV_no fun z => ?_⟩
    rw [nxKv_names h] at z
    obtain ⟨y, hy, e⟩ := List.mem_map.mp z
    rw [Sum.inr.inj e] at hy
    exact lookup_none hl hy
theorem pairMapR {α β γ : Type} {R : α → γ → Prop} {f : β → γ} : ∀ {xs : List α} {ys : List β}, Paired (fun a b => R a (f b)) xs ys → Paired R xs (ys.map f)
  | _, _, .nil => .nil
  | _, _, .cons h t => .cons h (pairMapR t)
/-- a register's next word, where the program looks for it -/
theorem reg_word {K : PySem.W.Frag} {H : Hp} {A B : List It0} (d : Design A B) {n : Nat} {gs : List (Nat × Nat)} {es : List NxE} {tab : Str → List Nat} {kd : Addr} (hes : Paired (NxRel n gs (we1 (A ++ B)) (env1 (A ++ B))) es (nxL B)) (hw : ∀ e ∈ es, WAt K H e.a e.ws)
    (hk : KnAt K H kd tab) (htw : ∀ x, WOk n gs (tab x)) (hwe : twd tab = we1 (A ++ B)) (hen : ∀ z, envW n gs tab z = env1 (A ++ B) z) {x : Str} {w r : Nat} (hm : It0.reg x w r ∈ A) :
    ∃ (kvs : List (Key × V)) (o : Option V) (ka a : Addr) (ws : List Nat), valV (nxKv es) (Sum.inr x) = o ∧ H kd = some (.dK kvs) ∧ valV kvs (Sum.inr x) = some (.ref ka) ∧ o.getD (.ref ka) = .ref a ∧ WAt K H a ws ∧ WOk n gs ws ∧ ws.length = w ∧ ∀ z, wn (nodes n gs) ws z = nval B (we1 (A ++ B)) (env1 (A ++ B) z) x := by
  have h1 : lwd A x = w := lwd_mem d hm
  have h2 : lwd A x ≠ 0 := lwd_pos d hm
  have h3 : (tab x).length = w := by
    show twd tab x = w
    rw [hwe, d.weE.1, (fin_stay (fun _ => 0) d.rb d.seq h2).1, h1]
  have h4 : tab x ≠ [] := fun z => h2 (by rw [h1, ← h3, z]; rfl)
  obtain ⟨⟨kvs, ek, _, fk⟩⟩ := hk
  obtain ⟨ka, e1, e2⟩ := fk x h4
  rcases nx_find hes d.nxu hw x with ⟨e, ex, hl, hme, hv, hwe2, hr⟩ | ⟨hl, hv⟩
  · refine ⟨kvs, _, ka, e.a, e.ws, hv, ek, e1, rfl, hwe2, hr.2.1, ?_, fun z => ?_⟩
    · obtain ⟨w2, r2, hm2, hw2⟩ := d.nxr x ex (nxL_mem (lookup_mem hl))
      have h5 : lwd A x = w2 := lwd_mem d hm2
      rw [hr.2.2.1, d.weE.1, hw2, ← h5, h1]
    · rw [hr.2.2.2 z]; unfold nval; rw [hl]
  · refine ⟨kvs, _, ka, ka, tab x, hv, ek, e1, rfl, e2, htw x, h3, fun z => ?_⟩
    unfold nval; rw [hl, ← hen z]; rfl
theorem sig_fin {y : Str} {u : Nat} {o : Bool} {e : Ex} : ∀ {B : List It0} {we : Str → Nat}, Rest B → SeqOk we B → It0.sig o y u e ∈ B → 1 ≤ u → weFin we B y = u
  | it :: r, we, h, hs, hm, hu => by
    have hr : Rest r := fun i m => h i (List.mem_cons_of_mem _ m)
    have h0 := h it List.mem_cons_self
    rcases List.mem_cons.mp hm with z | z
    · subst z
      have h1 : updS we y u y ≠ 0 := by rw [updS_same]; omega
      exact ((fin_stay (fun _ => 0) hr hs.2.2.2.2 h1).1).trans (updS_same ..)
    · cases it with
      | inp x w => cases h0.1
      | reg x w r => cases h0.2
      | sig o2 y2 w2 e2 => exact sig_fin (B := r) (we := updS we y2 w2) hr hs.2.2.2.2 z hu
      | nxt y2 e2 => exact sig_fin (B := r) (we := we) hr hs.2.2 z hu
theorem named_we {A B : List It0} (d : Design A B) {x : Str} {w : Nat} (h : (x, w) ∈ namedL (A ++ B)) : we1 (A ++ B) x = w := by
  obtain ⟨it, hit, e⟩ := List.mem_filterMap.mp h
  by_cases hn : it.named = true
  · rw [if_pos hn] at e
    have e2 := Option.some.inj e
    have e3 : it.nm = x := congrArg Prod.fst e2
    have e4 : it.wd = w := congrArg Prod.snd e2
    rw [d.weE.1]
    rcases List.mem_append.mp hit with z | z
    · rw [← e3, (fin_stay (fun _ => 0) d.rb d.seq (lwd_pos d z)).1, lwd_mem d z, e4]
    · have hr := d.rb it z
      have hp := d.pos it hit hn
      cases it with
      | inp y w => cases hr.1
      | reg y w r => cases hr.2
      | nxt y e => cases hn
      | sig o y u e =>
        rw [← e3, ← e4]
        exact sig_fin d.rb d.seq z hp.1
  · rw [if_neg hn] at e; cases e
theorem nwid_sum {A B : List It0} (d : Design A B) (j : Nat) : (nwid A j).sum ≤ 640 := by
  have h1 : ∀ l : List Nat, (∀ x ∈ l, x ≤ 16) → l.sum ≤ 16 * l.length := fun l => by
    induction l with
    | nil => intro _; exact Nat.le_refl _
    | cons a l ih =>
      intro h
      have := ih fun x m => h x (List.mem_cons_of_mem _ m)
      have := h a List.mem_cons_self
      rw [List.sum_cons, List.length_cons]; omega
  have h2 := h1 (nwid A j) fun x m => by
    unfold nwid at m
    obtain ⟨p, hp, e⟩ := List.mem_map.mp m
    have hp2 := List.mem_of_mem_take hp
    obtain ⟨r, hr⟩ := reg_sel (x := p.1) (w := p.2) hp2 d.la
    have := (d.pos _ (List.mem_append_left _ hr) rfl).2
    rw [← e]; exact this
  have h3 : (nwid A j).length ≤ 40 := by
    have h4 := sel_len "reg" A
    have h5 := d.few
    rw [List.length_append] at h5
    unfold nwid
    rw [List.length_map, List.length_take]; omega
  omega
theorem Kp.freeS {H H7 H8 : Hp} {g dd : Addr} (k7 : Kp [] H H7) (k8 : Kp [g, dd] H7 H8) (nb : ∀ {x : Addr} {o : HO}, H x = some o → x ∉ [g, dd]) : Kp [] H H8 :=
  ⟨fun x o e _ => k8.at_ _ _ (k7.at_ _ _ e (by simp)) (nb e), fun x xs e => k8.tup _ _ (k7.tup _ _ e), fun x o u e => k8.frz _ _ _ (k7.frz _ _ _ e), fun e => k7.free (k8.free e)⟩
theorem nxL_snoc {its : List It0} {i : Nat} {it : It0} (h : its[i]? = some it) : nxL (its.take (i + 1)) = nxL (its.take i) ++ (match it.nxe with | some p => [p] | none => []) := by
  unfold nxL
  rw [List.take_add_one, h, List.filterMap_append]
  cases e : it.nxe <;> simp [e]
theorem nxL_leafy : ∀ {A : List It0}, Leafy A → nxL A = []
  | [], _ => rfl
  | it :: r, h => by
    have hr : Leafy r := fun i m => h i (List.mem_cons_of_mem _ m)
    have ih := nxL_leafy hr
    have h0 := h it List.mem_cons_self
    cases it with
    | inp x w => exact ih
    | reg x w r => exact ih
    | sig o x w e => rcases h0 with z | z <;> cases z
    | nxt x e => rcases h0 with z | z <;> cases z
theorem rst_filter (its : List It0) : resets (its.filter It0.isReg) = resets its := by
  unfold resets
  induction its with
  | nil => rfl
  | cons a its ih =>
    cases a with
    | inp x w => exact ih
    | reg x w r => exact congrArg (r :: ·) ih
    | sig o x w e => exact ih
    | nxt x e => exact ih
theorem rst_rest : ∀ {B : List It0}, Rest B → resets B = []
  | [], _ => rfl
  | it :: r, h => by
    have hr : Rest r := fun i m => h i (List.mem_cons_of_mem _ m)
    have ih := rst_rest hr
    have h0 := h it List.mem_cons_self
    cases it with
    | inp x w => cases h0.1
    | reg x w r => cases h0.2
    | sig o x w e => exact ih
    | nxt x e => exact ih
theorem resets_app (a b : List It0) : resets (a ++ b) = resets a ++ resets b := by unfold resets; rw [List.filterMap_append]
def spMach (K : PySem.W.Frag) : Sp := fun vs H Q E => ∃ (D : Addr) (nm : Str) (A B : List It0) (v : V), vs = [.ref D, v] ∧ Design A B ∧ DsAt K H D nm (A ++ B) ∧
  ((∃ wish : Str, v = .str wish ∧ (wish, 1) ∈ namedL (A ++ B) ∧ ∀ H' x gs ns wl, Kp [] H H' → MacAt K H' x ((wI A).sum + (wR A).sum) gs (wI A).sum (rstBits A) ns wl → MachineOk A B ((wI A).sum + (wR A).sum) gs ns wl wish → ns.length = (wR A).sum → Q (.ref x) H') ∨
   ((NotStr K H v ∨ ∃ s : Str, v = .str s ∧ s ∉ (namedL (A ++ B)).map (·.1)) ∧ ∀ H' d, Kp [] H H' → H' d = some (.xd [("name", v)]) → E (.ref (He.ga K "NoName")) (some d) H') ∨
   ∃ (s : Str) (wd : Nat), v = .str s ∧ (s, wd) ∈ namedL (A ++ B) ∧ wd ≠ 1 ∧ ∀ H' d, Kp [] H H' → H' d = some (.xd [("told", .int (wd : Int)), ("wanted", .int 1), ("name", v)]) → E (.ref (He.ga K "BadWidth")) (some d) H')
abbrev nm_machine_of : List Str := ["design", "wish", "items", "widths", "inputs", "regs", "builder", "known", "nexts", "bits", "resets", "reg", "item"]
theorem sc_machine_of : FnScope nm_machine_of ["design", "wish"] (C8.fnScope (st 37)) := C8.fnScope_by (by decide +kernel)
theorem cal_machine_of (T : Top K mg) (TX : ExcTop P w K mg base) : CalX P w K mg base (24) "machine_of" (spMach K) ["design", "wish"] := by
  refine calX T.d_machine_of sc_machine_of (fun vs H Q E h => ?_) (fun f cdv A outer s0 H vs Q E hr h => ?_)
  ·
    obtain ⟨D, nm, A, B, v, rfl, _⟩ := h; rfl
  ·
    obtain ⟨D, nm, A, B, v, rfl, d, ⟨M, I, hD, hM⟩, hq⟩ := h
    have hu := hu_of hr
    refine ⟨_, (pss_cons (ps_set (i := 2) sc_machine_of.nd rfl (Or.inl rfl) (pe_ix ix_tup (pe_ix ix_tup (pv 0) pe_int (fun _ _ => rfl)) pe_int (fun _ _ => rfl)))
      (pss_cons (ps_set (i := 3) sc_machine_of.nd rfl (Or.inl rfl) (pe_callTy (call_dictP rfl) (by rfl) T.f_dict PyProof.Rows.boot_dict (pa_cons (pe_lc (own := [("item", 12)]) (g := (gName 12))  rfl sc_machine_of.nd (pi_tup (pv 2)) (blkOk_by (own := [("item", 12)]) (N := nm_machine_of) (sc := C8.fnScope (st 37)) (by decide +kernel)) (fun _ _ _ _ _ => (pg_name (i := 12) sc_machine_of.nd rfl (Or.inl rfl))) (fun _ _ _ _ _ => (pts_one (pt_cmpR (op_in_seqK (K := K) rfl) (pe_ix (ix_tupK (K := K) rfl) (pv 12) pe_int (fun _ _ => rfl)) (pe_tup (pa_cons pe_str (pa_cons pe_str (pa_cons pe_str (pa_cons pe_str pa_nil))))) (by rfl)))) (fun _ _ _ _ _ => (pe_tup (pa_cons (pe_ix (ix_tupK (K := K) rfl) (pv 12) pe_int (fun _ _ => rfl)) (pa_cons (pe_ix (ix_tupK (K := K) rfl) (pv 12) pe_int (fun _ _ => rfl)) pa_nil))))) pa_nil)))
      (pss_cons (ps_if (PW.pt (pw_or (pt_not (pt_val (pe_callB call_isi (by rfl) T.f_isinstance PyProof.Rows.boot_isinstance (pa_cons (pv 1) (pa_cons (pe_bltn (v := .ty "str") (by rfl) T.f_str PyProof.Rows.boot_str rfl) pa_nil))))) (pw_or1 (pt_cmp (pc_dnotin hu (pv 1) (pv 3)))))) (pss_one (ps_raise rfl (takes_of rfl rfl rfl rfl) (TX.mkN rfl rfl rfl rfl rfl hr (by decide) (by rfl) (pa_cons (pv 1) pa_nil) rfl))) pss_nil)
      (pss_cons (ps_if (pt_cmpR op_ne (pe_dget hu (pv 3) (pv 1) (fun _ _ => rfl)) pe_int (nomark _)) (pss_one (ps_raise rfl (takes_of rfl rfl rfl rfl) (TX.mkB rfl rfl rfl rfl rfl hr (by decide) (by rfl) (pa_cons (pv 1) (pa_cons pe_int (pa_cons (pe_dget hu (pv 3) (pv 1) (fun _ _ => rfl)) pa_nil))) rfl rfl))) pss_nil)
      (PSs.nox (pss_cons (ps_set (i := 4) sc_machine_of.nd rfl (Or.inl rfl) (pe_callB (cr_sum rfl) (by rfl) T.f_sum PyProof.Rows.boot_sum (pa_cons (pe_lc (own := [("item", 12)]) (g := (gName 12))  rfl sc_machine_of.nd (pi_tup (pv 2)) (blkOk_by (own := [("item", 12)]) (N := nm_machine_of) (sc := C8.fnScope (st 37)) (by decide +kernel)) (fun _ _ _ _ _ => (pg_name (i := 12) sc_machine_of.nd rfl (Or.inl rfl))) (fun _ _ _ _ _ => (pts_one (pt_cmpR op_eq (pe_ix (ix_tupK (K := K) rfl) (pv 12) pe_int (fun _ _ => rfl)) pe_str (nomark _)))) (fun _ _ _ _ _ => (pe_ix (ix_tupK (K := K) rfl) (pv 12) pe_int (fun _ _ => rfl)))) pa_nil)))
      (pss_cons (ps_setLc (i := 5) (own := [("item", 12)]) (g := (gName 12))  rfl sc_machine_of.nd rfl rfl (sw_true rfl rfl rfl (by decide +kernel)) (pi_tup (pv 2)) (blkOk_by (own := [("item", 12)]) (N := nm_machine_of) (sc := C8.fnScope (st 37)) (by decide +kernel)) (fun _ _ _ _ _ => (pg_name (i := 12) sc_machine_of.nd rfl (Or.inl rfl))) (fun _ _ _ _ _ => (pts_one (pt_cmpR op_eq (pe_ix (ix_tupK (K := K) rfl) (pv 12) pe_int (fun _ _ => rfl)) pe_str (nomark _)))) (fun _ _ _ _ _ => (pv 12)))
      (pss_cons (ps_set (i := 6) sc_machine_of.nd rfl (Or.inr rfl) (C8.pe_mk (mak_Builder T) hr (by decide) rfl (pa_cons (pe_op op_add (pv 4) (pe_callB (cr_sum rfl) (by rfl) T.f_sum PyProof.Rows.boot_sum (pa_cons (pe_lc (own := [("item", 12)]) (g := (gName 12)) (tt := tYes)  rfl sc_machine_of.nd (pi_list (pv 5)) (blkOk_by (own := [("item", 12)]) (N := nm_machine_of) (sc := C8.fnScope (st 37)) (by decide +kernel)) (fun _ _ _ _ _ => (pg_name (i := 12) sc_machine_of.nd rfl (Or.inl rfl))) (fun _ _ _ _ _ => pts_nil) (fun _ _ _ _ _ => (pe_ix (ix_tupK (K := K) rfl) (pv 12) pe_int (fun _ _ => rfl)))) pa_nil))) pa_nil)))
      (pss_cons (ps_set (i := 7) sc_machine_of.nd rfl (Or.inr rfl) (C8.pe_c (cal_word_table T) hr (by decide) rfl (pa_cons (pv 6) (pa_cons (pv 2) pa_nil))))
      (pss_cons (ps_set (i := 8) sc_machine_of.nd rfl (Or.inl rfl) (pe_callTy (call_dictP rfl) (by rfl) T.f_dict PyProof.Rows.boot_dict (pa_cons (pe_lc (own := [("item", 12)]) (g := (gName 12))  rfl sc_machine_of.nd (pi_tup (pv 2)) (blkOk_by (own := [("item", 12)]) (N := nm_machine_of) (sc := C8.fnScope (st 37)) (by decide +kernel)) (fun _ _ _ _ _ => (pg_name (i := 12) sc_machine_of.nd rfl (Or.inl rfl))) (fun _ _ _ _ _ => (pts_one (pt_cmpR op_eq (pe_ix (ix_tupK (K := K) rfl) (pv 12) pe_int (fun _ _ => rfl)) pe_str (nomark _)))) (fun _ _ _ _ _ => (pe_tup (pa_cons (pe_ix (ix_tupK (K := K) rfl) (pv 12) pe_int (fun _ _ => rfl)) (pa_cons (C8.pe_c (cal_expression_word T) hr (by decide) rfl (pa_cons (pv 6) (pa_cons (pe_ix (ix_tupK (K := K) rfl) (pv 12) pe_int (fun _ _ => rfl)) (pa_cons (pv 7) pa_nil)))) pa_nil))))) pa_nil)))
      (pss_cons (ps_par (i := 9) (j := 10) (by rfl) sc_machine_of.nd rfl rfl (by decide) rfl rfl (pa_cons (pe_lst pa_nil) (pa_cons (pe_lst pa_nil) pa_nil)) (by rfl))
      (pss_cons (ps_for PassesOwn.never rfl (pi_list (pv 5)) (pg_name (i := 11) sc_machine_of.nd rfl (Or.inl rfl)) (pss_cons (ps_set (i := 9) sc_machine_of.nd rfl (Or.inl rfl) (pe_op op_cat (pv 9) (pe_callTy call_list_of (by rfl) T.f_list PyProof.Rows.boot_list (pa_cons (pe_dget2 hu (pv 8) (pe_ix ix_tup (pv 11) pe_int (fun _ _ => rfl)) (pe_dget hu (pv 7) (pe_ix ix_tup (pv 11) pe_int (fun _ _ => rfl)) (fun _ _ => rfl)) ⟨rfl, by rfl, by rfl, by rfl⟩) pa_nil))))
      (pss_one (ps_set (i := 10) sc_machine_of.nd rfl (Or.inl rfl) (pe_op op_cat (pv 10) (pe_callTy call_list_of (by rfl) T.f_list PyProof.Rows.boot_list (pa_cons (C8.pe_c (cal_number_bits T) hr (by decide) rfl (pa_cons (pe_ix ix_tup (pv 11) pe_int (fun _ _ => rfl)) (pa_cons (pe_ix ix_tup (pv 11) pe_int (fun _ _ => rfl)) pa_nil))) pa_nil)))))))
      (pss_one (ps_ret (C8.pe_mk (mak_Machine T) hr (by decide) rfl (pa_cons (C8.pe_mt0 (met_graph T) hr (by decide) (pv 6)) (pa_cons (pv 4) (pa_cons (pv 10) (pa_cons (pv 9) (pa_cons (pe_ix ix_tup (pe_dget hu (pv 7) (pv 1) (fun _ _ => rfl)) pe_int (fun _ _ => rfl)) pa_nil)))))))))))))))))))), ?_⟩
    obtain ⟨vs, hT, hP⟩ := hM.2
    have few := d.few
    refine ⟨_, rfl, _, _, _, _, rfl, rfl, hD, atI_nat (j := 0) rfl, _, _, _, _, rfl, rfl, hM.1, atI_nat (j := 2) rfl, ?_⟩
    refine ⟨_, rfl, _, rfl, ⟨_, hT⟩, fun C nC => ?_⟩
    refine lc_it walk_tup (fun j H' => Kp [] H H' ∧ ∃ ps : List Addr, H' C = some (.lst (ps.map V.ref)) ∧ Paired (fun p (kv : Key × V) => SqT K H' p [kV kv.1, kv.2]) ps (namedK ((A ++ B).take j))) ⟨Kp.refl.new nC, [], upd_same, .nil⟩ (fun j H' _ ⟨kk, _⟩ => kk.sqT hT) ?_ ?_
    · rintro j x H3 H4 hj ⟨kk, ps, eC, hps⟩ ⟨rfl, gv⟩
      obtain ⟨it, gi, hit⟩ := Paired.getR hP gv
      have en : namedK ((A ++ B).take (j + 1)) = if it.named = true then namedK ((A ++ B).take j) ++ [(Sum.inr it.nm, nV it.wd)] else namedK ((A ++ B).take j) := by
        unfold namedK
        rw [namedL_snoc gi]
        split <;> simp
      have hpl : ps.length ≤ 100 := by
        have h1 := Paired.len hps
        have h2 : (namedK ((A ++ B).take j)).length ≤ ((A ++ B).take j).length := by unfold namedK; rw [List.length_map]; exact namedL_len _
        rw [List.length_take] at h2
        omega
      have hit3 := ItAt.kp kk hit
      obtain ⟨p, xs, rfl, hp, hr⟩ := id hit3
      refine ⟨rfl, ?_⟩
      refine ⟨_, rfl, _, _, _, _, rfl, rfl, hp, atI_nat (j := 0) rfl, (by show 4 ≤ sizeLine; decide), fun t nt => ⟨_, _, rfl, .inr (SqT.of upd_same), rfl, rfl, _, rfl, ?_⟩⟩
      have e0 : inV (.str it.kd) [.str "input", .str "reg", .str "wire", .str "output"] = it.named := inNm4_kd it
      have kt := Kp.refl.new nt (o := .tup [.str "input", .str "reg", .str "wire", .str "output"]) (S := [])
      have eC2 := kt.at_ _ _ eC (by simp)
      have kl := kk.trans kt
      by_cases hn : it.named = true
      · refine ifBT (e0.trans hn) ?_
        obtain ⟨p2, xs2, ep, hp2⟩ := hit3.widthAt hn
        cases ep
        have hp3 := kt.sqT hp2
        refine ⟨_, rfl, _, _, _, _, rfl, rfl, hp3, atI_nat (j := 1) rfl, _, rfl, _, _, _, _, rfl, rfl, hp3, atI_nat (j := 2) rfl, (by show 2 ≤ sizeLine; decide), fun t2 nt2 => ?_⟩
        have kt2 := Kp.refl.new nt2 (o := .tup [.str it.nm, .int (it.wd : Int)]) (S := [])
        have eC3 := kt2.at_ _ _ eC2 (by simp)
        refine ⟨_, eC3, small _ (by rw [List.length_map]; omega), (kl.trans kt2).put nC, ps ++ [t2], by rw [upd_same, List.map_append]; rfl, ?_⟩
        rw [en, if_pos hn]
        have kp := Kp.putL (o := .lst (ps.map V.ref ++ [.ref t2])) eC3
        exact Paired.app (Paired.mapP hps fun _ _ z => kp.sqT (kt2.sqT (kt.sqT z))) (.cons (kp.sqT (SqT.of upd_same)) .nil)
      · refine ifBF (e0.trans (by simpa using hn)) ?_
        exact ⟨kl, ps, eC2, by rw [en, if_neg hn]; exact Paired.mapP hps fun _ _ z => kt.sqT z⟩
    · rintro H1 ⟨k1, ps, eC, hps⟩
      have hlen : (A ++ B).take vs.length = A ++ B := by rw [← Paired.len hP, List.take_length]
      rw [hlen] at hps
      refine ⟨_, ps, namedK (A ++ B), rfl, SqL.of eC, hps, fun wd nwd => ?_⟩
      have em1 : mergeK [] (namedK (A ++ B)) = namedK (A ++ B) := mergeK_nodup _ [] (by rw [List.nil_append]; exact namedK_nodup d.names)
      rw [em1]
      have k2 := k1.new (o := .dK (namedK (A ++ B))) nwd
      have eW : (upd H1 wd (.dK (namedK (A ++ B)))) wd = some (.dK (namedK (A ++ B))) := upd_same
      have gW : ∀ s : Str, DGet (upd H1 wd (.dK (namedK (A ++ B)))) wd (.str s) (valV (namedK (A ++ B)) (Sum.inr s)) := fun s => .inl ⟨_, Sum.inr s, .inl eW, rfl, rfl⟩
      have vmem : ∀ {s : Str} {u : Nat}, (s, u) ∈ namedL (A ++ B) → valV (namedK (A ++ B)) (Sum.inr s) = some (nV u) := fun h => valV_mem (namedK_nodup d.names) (List.mem_map_of_mem (f := fun x : Str × Nat => ((Sum.inr x.1 : Key), nV x.2)) h)
      rcases hq with ⟨wish, rfl, hw, q⟩ | ⟨hw, q⟩ | ⟨s, u, rfl, hw, hu1, q⟩
      · refine ⟨_, rfl, _, _, _, _, true, rfl, .ty "str", .base (.str _), kit_ty (a := "str") (b := "str") (by decide +kernel), _, rfl, ?_⟩
        have g1 := gW wish
        rw [vmem hw] at g1
        refine ⟨_, rfl, _, rfl, _, _, rfl, g1, _, rfl, ifBF rfl ?_⟩
        refine ⟨_, rfl, _, rfl, _, _, rfl, g1, rfl, _, rfl, ifBF (by show (!decide (V.int 1 = V.int 1)) = false; rw [decide_eq_true rfl]; rfl) ?_⟩
        have few2 : (A ++ B).length ≤ 40 := few
        -- inputs
        refine ⟨_, rfl, _, rfl, ⟨_, k2.sqT hT⟩, fun C2 nC2 => ?_⟩
        refine lc_it walk_tup (fun j H' => Kp [] H H' ∧ H' C2 = some (.lst ((wI ((A ++ B).take j)).map nV))) ⟨k2.new nC2, upd_same⟩ (fun j H' _ ⟨kk, _⟩ => kk.sqT hT) ?_ ?_
        · rintro j x H3 H4 hj ⟨kk, eC⟩ ⟨rfl, gv⟩
          obtain ⟨it, gi, hit⟩ := Paired.getR hP gv
          have em := wI_snoc gi
          have hit3 := ItAt.kp kk hit
          have ll := wI_len ((A ++ B).take j)
          rw [List.length_take] at ll
          refine ⟨rfl, ?_⟩
          by_cases hk : it.kd = "input"
          · obtain ⟨p, xs, rfl, hp⟩ := hit3.leafAt (.inl hk)
            refine ⟨_, rfl, _, _, _, _, rfl, rfl, hp, atI_nat (j := 0) rfl, rfl, _, rfl, ifStrT hk ?_⟩
            refine ⟨_, rfl, _, _, _, _, rfl, rfl, hp, atI_nat (j := 2) rfl, _, eC, small _ (by rw [List.length_map]; omega), kk.put (k2.free nC2), ?_⟩
            rw [upd_same, em, if_pos hk, List.map_append]; rfl
          · obtain ⟨p, xs, rfl, hp, _⟩ := hit3
            refine ⟨_, rfl, _, _, _, _, rfl, rfl, hp, atI_nat (j := 0) rfl, rfl, _, rfl, ifStrF hk ?_⟩
            exact ⟨kk, by rw [em, if_neg hk]; exact eC⟩
        · rintro H2 ⟨k3, eC2⟩
          rw [hlen, d.wIe] at eC2
          refine ⟨_, (wI A).map fun x : Nat => (x : Int), rfl, SqL.of (by rw [eC2, List.map_map]; rfl), ?_⟩
          rw [sum_cast]
          -- regs
          refine ⟨_, rfl, _, rfl, ⟨_, k3.sqT hT⟩, fun R nR => ?_⟩
          refine lc_it walk_tup (fun j H' => Kp [] H H' ∧ H' R = some (.lst (selV It0.isReg ((A ++ B).take j) (vs.take j)))) ⟨k3.new nR, upd_same⟩ (fun j H' _ ⟨kk, _⟩ => kk.sqT hT) ?_ ?_
          · rintro j x H3 H4 hj ⟨kk, eC⟩ ⟨rfl, gv⟩
            obtain ⟨it, gi, hit⟩ := Paired.getR hP gv
            have em := selV_snoc (K := K) It0.isReg hP gi gv
            obtain ⟨p, xs, rfl, hp, _⟩ := ItAt.kp kk hit
            have ll : (selV It0.isReg ((A ++ B).take j) (vs.take j)).length ≤ 100 := by
              have h1 := Paired.len (selV_at (K := K) (H := H) It0.isReg (Paired.takeP hP j))
              have h2 := List.length_filter_le It0.isReg ((A ++ B).take j)
              rw [List.length_take] at h2
              omega
            refine ⟨rfl, ?_⟩
            refine ⟨_, rfl, _, _, _, _, rfl, rfl, hp, atI_nat (j := 0) rfl, rfl, _, rfl, ?_⟩
            by_cases hk : it.kd = "reg"
            · refine ifStrT hk ?_
              refine ⟨_, rfl, _, eC, small _ (by omega), kk.put (k3.free nR), ?_⟩
              rw [upd_same, em, if_pos ((reg_kd it).mpr hk)]
            · refine ifStrF hk ?_
              exact ⟨kk, by rw [em, if_neg (fun z => hk ((reg_kd it).mp z))]; exact eC⟩
          · rintro H4 ⟨k4, eR⟩
            have hvl : vs.take vs.length = vs := List.take_length
            rw [hlen, hvl] at eR
            have hPr := selV_at (K := K) (H := H) It0.isReg hP
            have hfr : ((A ++ B).filter It0.isReg).map (fun it => (it.nm, it.wd)) = sel "reg" A := by rw [filter_reg, d.sI _ (.inr rfl)]
            have lfr : ((A ++ B).filter It0.isReg).length = (sel "reg" A).length := by rw [← hfr, List.length_map]
            have lsr := sel_len "reg" A
            have lA : A.length ≤ 40 := by rw [List.length_append] at few2; omega
            -- builder
            refine ⟨_, rfl, _, rfl, _, rfl, ⟨_, SqL.of eR⟩, fun S nS => ?_⟩
            refine lc_it walk_list (fun j H' => Kp [] H4 H' ∧ H' S = some (.lst ((nwid A j).map nV))) ⟨Kp.refl.new nS, upd_same⟩ (fun j H' _ ⟨kk, _⟩ => kk.sqL0 (SqL.of eR)) ?_ ?_
            · rintro j x H5 H6 hj ⟨kk, eS⟩ ⟨rfl, gv⟩
              obtain ⟨it, gi, hit⟩ := Paired.getR hPr gv
              have gs : (sel "reg" A)[j]? = some (it.nm, it.wd) := by rw [← hfr]; exact put_map gi
              have hreg : it.isReg = true := (List.mem_filter.mp (List.mem_of_getElem? gi)).2
              obtain ⟨p, xs, rfl, hp⟩ := (ItAt.kp (k4.trans kk) hit).leafAt (.inr ((reg_kd it).mp hreg))
              have ll : (nwid A j).length ≤ 40 := by unfold nwid; rw [List.length_map, List.length_take]; omega
              refine ⟨rfl, ?_⟩
              refine ⟨_, rfl, _, _, _, _, rfl, rfl, hp, atI_nat (j := 2) rfl, _, eS, small _ (by rw [List.length_map]; omega), kk.put nS, ?_⟩
              have e : nwid A (j + 1) = nwid A j ++ [it.wd] := by
                unfold nwid
                rw [List.take_add_one, gs, List.map_append]; rfl
              rw [upd_same, e, List.map_append]; rfl
            · rintro H5 ⟨k5, eS⟩
              have hse : (selV It0.isReg (A ++ B) vs).length = (sel "reg" A).length := by rw [← Paired.len hPr, lfr]
              rw [hse] at eS
              have hnw : nwid A (sel "reg" A).length = wR A := by unfold nwid; rw [List.take_length]; rfl
              rw [hnw] at eS
              refine ⟨_, (wR A).map fun x : Nat => (x : Int), rfl, SqL.of (by rw [eS, List.map_map]; rfl), ?_⟩
              rw [sum_cast]
              refine ⟨_, _, rfl, rfl, fun b db nb0 ndb neb => ?_⟩
              have hnl := nLeaves_eq d
              have k05 := k4.trans k5
              have kb := (k05.new ndb (o := .own b)).new ((upd_ne neb.symm).trans nb0) (o := .ins (cBuilder K) db [])
              refine ⟨b, db, (wI A).sum + (wR A).sum, by dsimp only; rw [← Int.natCast_add]; rfl, upd_same, fun H6 g dd kb2 hB ng nd => ⟨rfl, ?_⟩⟩
              have nbH : H b = none := k05.free nb0
              have k6 := kb.drop kb2 nbH
              have eR6 : H6 R = some (.lst (selV It0.isReg (A ++ B) vs)) := (((Kp.refl.new ndb (o := .own b) (S := [])).trans (Kp.refl.new ((upd_ne neb.symm).trans nb0) (o := .ins (cBuilder K) db []))).drop kb2 nb0).at_ _ _ (k5.at_ _ _ eR (by simp)) (by simp)
              rw [← hnl] at hB
              -- the table
              refine ⟨_, rfl, _, rfl, b, g, dd, I, A ++ B, rfl, hB, hM.2.kp k6, d.itsOk, fun H7 kd gs tab nkd S7 hkn htw hwe hen => ?_⟩
              have hne := hB.ne nkd
              have smallD := d.small
              have ngH : H g = none := by
                have := kb.free ng
                exact this
              have ndH : H dd = none := kb.free nd
              have nbk : ∀ {x : Addr} {o : HO}, H x = some o → x ∉ [g, dd] := fun e => not2 (fun z => by rw [z, ngH] at e; cases e) (fun z => by rw [z, ndH] at e; cases e)
              have k7 : Kp [] H H7 := ⟨fun x o e _ => S7.kp.at_ _ _ (k6.at_ _ _ e (by simp)) (nbk e), fun x xs e => S7.kp.tup _ _ (k6.tup _ _ e), fun x o u e => S7.kp.frz _ _ _ (k6.frz _ _ _ e), fun e => k6.free (S7.kp.free e)⟩
              have hRg : R ≠ g ∧ R ≠ dd := by
                have g6 := k6
                refine ⟨fun z => ?_, fun z => ?_⟩
                · obtain ⟨ts, e2, _⟩ := hB.gts
                  rw [← z, eR6] at e2
                  have e3 := HO.lst.inj (Option.some.inj e2)
                  exact absurd z (fun z => by
                    have n4 : (upd (upd H5 db (.own b)) b (.ins (cBuilder K) db [])) R ≠ none := by
                      have e5 := ((Kp.refl.new ndb (o := .own b) (S := [])).trans (Kp.refl.new ((upd_ne neb.symm).trans nb0) (o := .ins (cBuilder K) db []))).at_ _ _ (k5.at_ _ _ eR (by simp)) (by simp)
                      rw [e5]; simp
                    rw [z] at n4; exact n4 ng)
                · have n4 : (upd (upd H5 db (.own b)) b (.ins (cBuilder K) db [])) R ≠ none := by
                    have e5 := ((Kp.refl.new ndb (o := .own b) (S := [])).trans (Kp.refl.new ((upd_ne neb.symm).trans nb0) (o := .ins (cBuilder K) db []))).at_ _ _ (k5.at_ _ _ eR (by simp)) (by simp)
                    rw [e5]; simp
                  rw [z] at n4; exact n4 nd
              have eR7 : H7 R = some (.lst (selV It0.isReg (A ++ B) vs)) := S7.kp.at_ _ _ eR6 (not2 hRg.1 hRg.2)
              have hweB : twd tab = weFin (lwd A) B := hwe.trans d.weE.1
              have gsl : gs.length ≤ 2560 * sizes (A ++ B) := by have h := S7.len; rw [List.length_nil, Nat.zero_add] at h; exact h
              -- nexts
              refine ⟨_, rfl, _, rfl, ⟨_, k7.sqT hT⟩, fun N nN => ?_⟩
              have nN2 := S7.at_.ne nN
              refine lc_it walk_tup (fun j H' => ∃ (gs2 : List (Nat × Nat)) (ps : List Addr) (es : List NxE), BSt K H7 H' b g dd (nLeaves (A ++ B)) gs gs2 (2560 * sizes ((A ++ B).take j)) ∧ H' N = some (.lst (ps.map V.ref)) ∧ Paired (fun p (e : NxE) => SqT K H' p [.str e.x, .ref e.a] ∧ WAt K H' e.a e.ws) ps es ∧ Paired (NxRel (nLeaves (A ++ B)) gs2 (we1 (A ++ B)) (env1 (A ++ B))) es (nxL ((A ++ B).take j)) ∧ ps.length ≤ j)
                ⟨gs, [], [], (BSt.refl S7.at_ 0).new nN, upd_same, .nil, .nil, Nat.le_refl _⟩ (fun j H' _ ⟨_, _, _, S, _⟩ => S.kp.sqT (k7.sqT hT)) ?_ ?_
              · rintro j x Hb Ha hj ⟨gs2, ps, es, S, eN, hps, hes, hpl⟩ ⟨rfl, gv⟩
                obtain ⟨it, gi, hit⟩ := Paired.getR hP gv
                have hjl : j < (A ++ B).length := (List.getElem?_eq_some_iff.mp gi).1
                have em := nxL_snoc gi
                have sz := sizes_take gi
                have szl := sizes_le (A ++ B) (j + 1)
                have b2 := S.len
                obtain ⟨p, xs, rfl, hp, hr⟩ := ItAt.kp S.kp (ItAt.kp k7 hit)
                refine ⟨rfl, ?_⟩
                refine ⟨_, rfl, _, _, _, _, rfl, rfl, hp, atI_nat (j := 0) rfl, rfl, _, rfl, ?_⟩
                by_cases hk : it.kd = "next"
                · refine ifStrT hk ?_
                  cases it with
                  | inp y w => exact absurd hk (nm_ne (a := "input") (b := "next") (by decide +kernel))
                  | reg y w r => exact absurd hk (nm_ne (a := "reg") (b := "next") (by decide +kernel))
                  | sig o y w e => cases o <;> first | exact absurd hk (nm_ne (a := "wire") (b := "next") (by decide +kernel)) | exact absurd hk (nm_ne (a := "output") (b := "next") (by decide +kernel))
                  | nxt y e =>
                    obtain ⟨ve, rfl, hve⟩ := hr
                    have hmB : It0.nxt y e ∈ B := by
                      rcases List.mem_append.mp (List.mem_of_getElem? gi) with z | z
                      · rcases d.la _ z with z | z <;> cases z
                      · exact z
                    have hok : e.ok (twd tab) := by rw [hweB]; exact nx_ok d.rb d.seq hmB
                    have hdp := (d.cyc j _ gi).2
                    have hIn : ExIn K Ha b g dd (nLeaves (A ++ B)) gs2 kd tab := ⟨S.at_, hkn.kp S.kp (not2 hne.2.1 hne.2.2), hne.2.1, hne.2.2, fun y => (htw y).mono S.pre⟩
                    simp only [It0.size] at sz
                    refine ⟨_, rfl, _, _, _, _, rfl, rfl, hp, atI_nat (j := 1) rfl, _, rfl, _, rfl, _, _, _, _, rfl, rfl, hp, atI_nat (j := 2) rfl, _, rfl, b, g, dd, _, gs2, kd, ve, e, tab, rfl, hIn, hve, hok, hdp, by omega, fun Hc gs3 pw ww S3 wp3 ow3 el3 hv3 => ⟨(by show 2 ≤ sizeLine; decide), fun t nt => ?_⟩⟩
                    have kt := Kp.refl.new nt (o := .tup [.str y, .ref pw]) (S := [])
                    have eN3 := S3.keepL eN nN2
                    have eN4 := kt.at_ _ _ eN3 (by simp)
                    have kp := Kp.putL (o := .lst (ps.map V.ref ++ [.ref t])) eN4
                    have pre23 := S3.pre
                    refine ⟨_, eN4, small _ (by rw [List.length_map]; omega), gs3, ps ++ [t], es ++ [⟨y, pw, ww⟩], (((S.trans S3).new nt).put S7.at_ nN eN4).mono (by rw [sz]; omega), by rw [upd_same, List.map_append]; rfl, ?_, ?_, by rw [List.length_append]; show ps.length + 1 ≤ j + 1; omega⟩
                    · exact Paired.app (Paired.mapP hps fun _ _ z => ⟨kp.sqT (kt.sqT (S3.kp.sqT z.1)), kp.sqT (kt.sqT (S3.kp.sqT z.2))⟩) (.cons ⟨kp.sqT (SqT.of upd_same), kp.sqT (kt.sqT wp3)⟩ .nil)
                    · rw [em]
                      refine Paired.app (Paired.mapP hes fun _ _ z => z.mono pre23) (.cons ⟨rfl, ow3, by rw [el3, hwe], fun z => ?_⟩ .nil)
                      rw [hv3 z]
                      dsimp only
                      rw [envW_pre htw S.pre, hen z, hwe]
                · refine ifStrF hk ?_
                  have e0 : it.nxe = none := by
                    cases it with
                    | inp y w => rfl
                    | reg y w r => rfl
                    | sig o y w e => rfl
                    | nxt y e => exact absurd rfl hk
                  refine ⟨gs2, ps, es, S.mono (by rw [sz]; omega), eN, hps, ?_, by omega⟩
                  rw [em, e0, List.append_nil]; exact hes
              · rintro H8 ⟨gs2, ps, es, S, eN, hps, hes, hpl⟩
                rw [hlen] at hes S
                have hps2 : Paired (fun p (kv : Key × V) => SqT K H8 p [kV kv.1, kv.2]) ps (nxKv es) := pairMapR (Paired.mapP hps fun _ _ z => z.1)
                have hwA : ∀ e ∈ es, WAt K H8 e.a e.ws := fun e m => by
                  obtain ⟨i, hi⟩ := List.getElem?_of_mem m
                  obtain ⟨_, _, z⟩ := Paired.getR hps hi
                  exact z.2
                have hnn : ((nxL (A ++ B)).map (·.1)).Nodup := by rw [nxL_app, nxL_leafy d.la, List.nil_append]; exact d.nxu
                have hkn2 : ((nxKv es).map (·.1)).Nodup := by
                  rw [nxKv_names hes]
                  exact List.Pairwise.map _ (fun _ _ hne z => hne (Sum.inr.inj z)) hnn
                have em3 : mergeK [] (nxKv es) = nxKv es := mergeK_nodup _ [] (by rw [List.nil_append]; exact hkn2)
                refine ⟨N, ps, nxKv es, rfl, SqL.of eN, hps2, fun M2 nM2 => ?_⟩
                rw [em3]
                refine ⟨(by show 0 ≤ sizeLine; decide), fun bl0 nbl0 => ⟨(by show 0 ≤ sizeLine; decide), fun rl0 nrl0 => ⟨_, _, rfl, ?_⟩⟩⟩
                have nN8 : H8 N ≠ none := by rw [eN]; simp
                have kd8 : kd ∉ [g, dd] := not2 hne.2.1 hne.2.2
                have k8 : Kp [] H H8 := Kp.freeS k7 S.kp nbk
                have kq : Kp [] H8 (upd (upd (upd H8 M2 (.dK (nxKv es))) bl0 (.lst [])) rl0 (.lst [])) := ((Kp.refl.new nM2).new nbl0).new nrl0
                have eM9 : (upd (upd (upd H8 M2 (.dK (nxKv es))) bl0 (.lst [])) rl0 (.lst [])) M2 = some (.dK (nxKv es)) := ((Kp.refl.new nbl0 (o := .lst []) (S := [])).new nrl0 (o := .lst [])).at_ _ _ upd_same (by simp)
                have ebl9 : (upd (upd (upd H8 M2 (.dK (nxKv es))) bl0 (.lst [])) rl0 (.lst [])) bl0 = some (.lst []) := (Kp.refl.new nrl0 (o := .lst []) (S := [])).at_ _ _ upd_same (by simp)
                have eR8 : H8 R = some (.lst (selV It0.isReg (A ++ B) vs)) := S.kp.at_ _ _ eR7 (not2 hRg.1 hRg.2)
                have hk8 := hkn.kp S.kp kd8
                have htw2 : ∀ x, WOk (nLeaves (A ++ B)) gs2 (tab x) := fun x => (htw x).mono S.pre
                have hen2 : ∀ z, envW (nLeaves (A ++ B)) gs2 tab z = env1 (A ++ B) z := fun z => by rw [envW_pre htw S.pre, hen z]
                generalize hH9 : (upd (upd (upd H8 M2 (.dK (nxKv es))) bl0 (.lst [])) rl0 (.lst [])) = H9 at kq eM9 ebl9 ⊢
                have erl9 : H9 rl0 = some (.lst []) := by rw [← hH9]; exact upd_same
                have hB8 := S.at_
                have hesB : Paired (NxRel (nLeaves (A ++ B)) gs2 (we1 (A ++ B)) (env1 (A ++ B))) es (nxL B) := by
                  rw [nxL_app, nxL_leafy d.la, List.nil_append] at hes; exact hes
                have eR9 := kq.at_ _ _ eR8 (by simp)
                have hF := rst_filter (A ++ B)
                refine ⟨_, rfl, _, rfl, ⟨_, SqL.of eR9⟩, ?_⟩
                refine for_it walk_list (fun j σ H' => ∃ (x11 x12 : Option V) (bl rl : Addr) (ns : List Nat), σ = [some (.ref D), some (.str wish), some (.ref I), some (.ref wd), some (.int ((wI A).sum : Int)), some (.ref R), some (.ref b), some (.ref kd), some (.ref M2), some (.ref bl), some (.ref rl), x11, x12] ∧ Kp [] H9 H' ∧ H' bl = some (.lst (ns.map lit)) ∧ H' rl = some (.lst (((bitsOf (resets (((A ++ B).filter It0.isReg).take j)) (nwid A j)).map Bool.toNat).map lit)) ∧ WOk (nLeaves (A ++ B)) gs2 ns ∧ (∀ z, (ns.map fun l => lm (nodes (nLeaves (A ++ B)) gs2) l z) = bitsOf (nvals A B j z) (nwid A j)) ∧ ns.length = (nwid A j).sum ∧ (resets (((A ++ B).filter It0.isReg).take j)).length = (nwid A j).length)
                  ⟨none, none, bl0, rl0, [], rfl, .refl, ebl9, erl9, (fun _ h => nomatch h), (fun _ => rfl), rfl, rfl⟩ (fun j σ H' _ ⟨_, _, _, _, _, _, kk, _⟩ => kk.sqL0 (SqL.of eR9)) ?_ ?_
                · rintro j x σ Hb Ha hj ⟨x11, x12, bl, rl, ns, rfl, kk, ebl, erl, hok, hbits, hnl2, hrl⟩ ⟨rfl, gv⟩
                  obtain ⟨it, gi, hit⟩ := Paired.getR hPr gv
                  have gsr : (sel "reg" A)[j]? = some (it.nm, it.wd) := by rw [← hfr]; exact put_map gi
                  have hfm := List.mem_filter.mp (List.mem_of_getElem? gi)
                  obtain ⟨p, xs, rfl, hp, hr⟩ := ItAt.kp kk (ItAt.kp kq (ItAt.kp k8 hit))
                  cases it with
                  | inp y u => exact absurd hfm.2 (by show ¬ (false = true); decide)
                  | sig o y u e => exact absurd hfm.2 (by show ¬ (false = true); decide)
                  | nxt y e => exact absurd hfm.2 (by show ¬ (false = true); decide)
                  | reg y u r =>
                    have hmA : It0.reg y u r ∈ A := by
                      rcases List.mem_append.mp hfm.1 with z | z
                      · exact z
                      · have h0 := d.rb _ z
                        cases h0.2
                    subst hr
                    obtain ⟨kvs, o, ka, a, ws, v1, e1, v2, e3, wa, wo, wl, wv⟩ := reg_word d hesB hwA hk8 htw2 hwe hen2 hmA
                    have r8 := kk.at_ _ _ (kq.at_ _ _ e1 (by simp)) (by simp)
                    have rM := kk.at_ _ _ eM9 (by simp)
                    have gM : DGet Ha M2 (.str y) o := .inl ⟨_, Sum.inr y, .inl rM, rfl, v1.symm⟩
                    have gK : DGet Ha kd (.str y) (some (.ref ka)) := .inl ⟨_, Sum.inr y, .inl r8, rfl, v2.symm⟩
                    have wa9 : WAt K Ha a ws := (wa.kp kq).kp kk
                    have em := resets_snoc gi
                    have em2 : nwid A (j + 1) = nwid A j ++ [u] := by
                      unfold nwid
                      rw [List.take_add_one, gsr, List.map_append]; rfl
                    have bs := bits_step gsr hbits wl wv
                    have hbl := bitsOf_snoc r u hrl
                    have hul : u ≤ 16 := (d.pos _ (List.mem_append_left _ hmA) rfl).2
                    have hsum : (nwid A j).sum ≤ 640 := nwid_sum d j
                    refine ⟨_, rfl, _, rfl, M2, rfl, .inl ⟨_, .inl rM⟩, _, rfl, _, _, _, _, rfl, rfl, hp, atI_nat (j := 1) rfl, _, rfl, _, rfl, _, _, _, _, rfl, rfl, hp, atI_nat (j := 1) rfl, _, _, rfl, gK, o, gM, ?_⟩
                    rw [e3]
                    refine ⟨a, _, rfl, .inr wa9, fun l1 nl1 => ⟨bl, l1, ns.map lit, ws.map lit, rfl, rfl, (Kp.refl.new nl1 (o := .lst (ws.map lit)) (S := [])).at_ _ _ ebl (by simp), upd_same, Nat.le_of_lt (small _ (by rw [List.length_map, List.length_map]; omega)), fun p1 np1 => ?_⟩⟩
                    have ka1 := (Kp.refl.new nl1 (o := .lst (ws.map lit)) (S := [])).new np1 (o := .lst (ns.map lit ++ ws.map lit))
                    have erl1 := ka1.at_ _ _ erl (by simp)
                    have ep1 : (upd (upd Ha l1 (.lst (ws.map lit))) p1 (.lst (ns.map lit ++ ws.map lit))) p1 = some (.lst (ns.map lit ++ ws.map lit)) := upd_same
                    refine ⟨_, rfl, _, rfl, _, _, _, _, rfl, rfl, ka1.sqT hp, atI_nat (j := 2) rfl, _, rfl, _, _, _, _, rfl, rfl, ka1.sqT hp, atI_nat (j := 3) rfl, u, r, rfl, (by omega), fun Hc a2 kc wa2 => ⟨a2, _, rfl, .inr wa2, fun l2 nl2 => ?_⟩⟩
                    have kd1 := kc.new nl2 (o := .lst ((nb u r).map lit))
                    refine ⟨rl, l2, _, _, rfl, rfl, kd1.at_ _ _ erl1 (by simp), upd_same, Nat.le_of_lt (small _ (by rw [List.length_map, List.length_map, List.length_map, nb_len, bitsOf_len hrl]; omega)), fun p2 np2 => ?_⟩
                    have ke1 := kd1.new np2 (o := .lst (((bitsOf (resets (((A ++ B).filter It0.isReg).take j)) (nwid A j)).map Bool.toNat).map lit ++ (nb u r).map lit))
                    refine ⟨_, _, p1, p2, ns ++ ws, rfl, (kk.trans ka1).trans ke1, ?_, ?_, ?_, bs, ?_, ?_⟩
                    · rw [ke1.at_ _ _ ep1 (by simp), List.map_append]
                    · rw [upd_same, em, em2]
                      show _ = some (HO.lst (((bitsOf (resets (((A ++ B).filter It0.isReg).take j) ++ [r]) (nwid A j ++ [u])).map Bool.toNat).map lit))
                      rw [hbl, List.map_append, List.map_append, nb_bits]
                    · intro l hl
                      rcases List.mem_append.mp hl with z | z
                      · exact hok l z
                      · exact wo l z
                    · rw [em2, List.length_append, List.sum_append, hnl2, wl]; simp
                    · rw [em, em2, List.length_append, List.length_append, hrl]; rfl
                · rintro σ H10 ⟨x11, x12, bl, rl, ns, rfl, kk, ebl, erl, hok, hbits, hnl2, hrl⟩
                  have hB10 := hB8.kp0 (kq.trans kk)
                  obtain ⟨dxb, exb⟩ := hB10.1
                  have hnF : (nwid A ((A ++ B).filter It0.isReg).length) = wR A := by rw [lfr]; exact hnw
                  rw [hse] at hbits hnl2 hrl erl
                  rw [hnw] at hnl2 hrl
                  have hrs : resets (((A ++ B).filter It0.isReg).take (sel "reg" A).length) = resets A := by
                    rw [← lfr, List.take_length, hF, resets_app, rst_rest d.rb, List.append_nil]
                  rw [hrs] at hrl erl
                  rw [hnw] at erl
                  have hwe1 := named_we d hw
                  have htl : (tab wish).length = 1 := by
                    show twd tab wish = 1
                    rw [hwe, hwe1]
                  obtain ⟨l, hl⟩ := List.length_eq_one_iff.mp htl
                  have kk2 := kq.trans kk
                  obtain ⟨⟨kvs, ek, _, fk⟩⟩ := hk8
                  obtain ⟨ka, v2, wka⟩ := fk wish (by rw [hl]; simp)
                  rw [hl] at wka
                  refine ⟨_, rfl, b, _, _, rfl, exb, rfl, b, g, dd, _, gs2, rfl, hB10, by have := S.len; omega, fun Hg G kg ng grA => ?_⟩
                  have k10 := kk2.trans kg
                  have ekg := k10.at_ _ _ ek (by simp)
                  have gK : DGet Hg kd (.str wish) (some (.ref ka)) := .inl ⟨_, Sum.inr wish, .inl ekg, rfl, v2.symm⟩
                  refine ⟨_, rfl, _, rfl, _, rfl, _, rfl, _, rfl, _, _, rfl, gK, _, _, _, _, rfl, rfl, wka.kp k10, atI_nat (j := 0) rfl, fun x dx nx ndx nex => ?_⟩
                  have ky := (Kp.refl.new ndx (o := .own x) (S := [])).new ((upd_ne nex.symm).trans nx) (o := .ins (cMachine K) dx [])
                  have hG2 := grA.kp ky (by simp)
                  have hwok : Ok (nLeaves (A ++ B)) gs2 l := htw2 wish l (by rw [hl]; exact List.mem_cons_self)
                  have ebl2 := (kg.trans ky).at_ _ _ ebl (by simp)
                  have erl2 := (kg.trans ky).at_ _ _ erl (by simp)
                  have gz : gs2.length ≤ big := by have := S.len; omega
                  have hsl : (wI A).sum + (wR A).sum ≤ 100000 := by
                    have h1 := d.sumI
                    have h2 := nwid_sum d (sel "reg" A).length
                    rw [hnw] at h2; omega
                  have hns : ns.length = (wR A).sum := hnl2
                  refine ⟨x, dx, G, nLeaves (A ++ B), gs2, (wI A).sum, rl, bl, rstBits A, ns, l, rfl, upd_same, ⟨hG2, by omega, erl2, ebl2, ?_, by omega, ?_, hok, hwok, by omega, gz⟩, fun Hz tr tn kz ez wtr wtn => ⟨rfl, ?_⟩⟩
                  · unfold rstBits
                    rw [List.length_map, bitsOf_len hrl]; omega
                  · intro b hb
                    unfold rstBits at hb
                    obtain ⟨c, _, e⟩ := List.mem_map.mp hb
                    rw [← e]; cases c <;> decide
                  · have hA : MacAt K Hz x ((wI A).sum + (wR A).sum) gs2 (wI A).sum (rstBits A) ns l := by
                      obtain ⟨⟨dg, tg, ts, g1, g2, g3⟩⟩ := hG2
                      have hGx : G ∉ [x] := by
                        obtain ⟨⟨_, _, _, gg, _, _⟩⟩ := grA
                        intro z
                        have e := List.mem_singleton.mp z
                        rw [e, nx] at gg; cases gg
                      rw [← hnl]
                      exact ⟨⟨dx, G, dg, tg, ts, tr, tn, ez, kz.at_ _ _ g1 hGx, kz.sqT g2, g3.kp kz, wtr, wtn⟩, hB10.ok, hok, hwok, gz, by omega, by omega⟩
                    have hM : MachineOk A B ((wI A).sum + (wR A).sum) gs2 ns l wish := by
                      rw [← hnl]
                      refine machine_ok d hbits fun z => ?_
                      have e1 := congrFun (hen2 z) wish
                      rw [← e1]
                      unfold envW
                      rw [hl]; simp [wn]
                    have kfin : Kp [] H Hz := ((k8.trans k10).trans ky).drop kz ((k8.trans k10).free nx)
                    exact q _ _ _ _ _ kfin hA hM hns
      · rcases hw with ⟨t, ht, hk⟩ | ⟨s, rfl, hs⟩
        · have ht2 : TyX K (upd H1 wd (.dK (namedK (A ++ B)))) v (.type t) := TyX.kpN k2 ht
          refine ⟨_, rfl, _, _, _, _, false, rfl, .ty "str", ht2, kit_ty hk, _, rfl, iteT ?_⟩
          refine ⟨_, rfl, rfl, fun dd ndd => q _ dd (k2.new ndd) upd_same⟩
        · refine ⟨_, rfl, _, _, _, _, true, rfl, .ty "str", .base (.str _), kit_ty (a := "str") (b := "str") (by decide +kernel), _, rfl, ?_⟩
          have hv : valV (namedK (A ++ B)) (Sum.inr s) = none := valV_no (fun h => hs (namedK_mem h))
          have g1 := gW s
          rw [hv] at g1
          refine ⟨_, rfl, _, rfl, _, _, rfl, g1, _, rfl, ifBT rfl ?_⟩
          refine ⟨_, rfl, rfl, fun dd ndd => q _ dd (k2.new ndd) upd_same⟩
      · refine ⟨_, rfl, _, _, _, _, true, rfl, .ty "str", .base (.str _), kit_ty (a := "str") (b := "str") (by decide +kernel), _, rfl, ?_⟩
        have g1 := gW s
        rw [vmem hw] at g1
        refine ⟨_, rfl, _, rfl, _, _, rfl, g1, _, rfl, ifBF rfl ?_⟩
        refine ⟨_, rfl, _, rfl, _, _, rfl, g1, rfl, _, rfl, ifBT (by show (!decide (V.int (u : Int) = V.int 1)) = true; rw [dF (by omega)]; rfl) ?_⟩
        refine ⟨_, rfl, _, rfl, _, rfl, _, _, rfl, g1, rfl, fun dd ndd => q _ dd (k2.new ndd) upd_same⟩
end
end K14
set_option maxHeartbeats 4000000
/-! NoName(..), BadWidth(..): an own exception whose __init__ calls super().__init__ first -/
namespace K14E
open PySem PySem.W PySem.Calls PyProof.Rows PySem.HandSPX
/-- what the written part says of such a class at C; its __init__ at fI, the cell of __class__ at cc, the code object at cda -/
structure SupTxt (P : Program) (K : Frag) (mg : Str → Option Value) (C fI cc cda : Addr) (qual : Str) (s : Stmt) : Prop where
  cls : ∃ nm q N bs bm sn sub ab col dd k0 k1 k2 k3 k5, K.lookup C = some (excClassObj nm q C N bs bm true sn sub ab col dd k0 k1 k2 k3 k5 "ValueError.__new__") ∧ refsVE bm = true
  sa : findIn K (.ref C) "__setattr__" = some (some (.builtin "object.__setattr__"))
  iC : findIn K (.ref C) "__init__" = some (some (.ref fI))
  tI : typeIn K (.ref fI) = some (.type "function")
  kC : keepIn K (.ref C) = true
  exC : subIn K (.ref C) (.type "BaseException") = some true
  tyC : typeIn K (.ref C) = some (.type "type")
  ve : subIn K (.ref C) (.type "ValueError") = some true
  me : mroIn K C (.ref C) = some true
  th : nsIn K cStatics "thirdparty.any" = some none
  su : ks_superIn K C C "__init__" = some (some (.builtin "ValueError.__init__"))
  sup : mg "super" = none
  cell : ∃ cl cld csl, K.lookup cc = some ⟨cl, cld, .cell (some (.ref C)), csl⟩
  code : ∃ ccl cdd vs ccs file tf, K.lookup cda = some ⟨ccl, cdd, .fields vs, ccs⟩ ∧ vs[2]? = some (.str file tf) ∧ ((P.main.file : Str) == file) = true
  top : (P.main.scope.names.lookup ("super" : Str)).isSome = false
  fn : ∃ oc od osl kV doc pm an ct, K.lookup fI = some ⟨oc, od, .func (ksFn "__init__" qual (C8.fnArgs s) (C8.fnBody s) (C8.fnScope s) .none kV doc pm an (.ref cda) ct cc), osl⟩ ∧ codeIn K (.ref cda) qual = true
section
variable {P : Program} {w : World} {A : Around} {E : Value → Shared → Prop} {K : Frag} {mg : Str → Option Value} {C fI cc cda : Addr} {qual : Str} {st : Stmt} {h : Heap} {g : Array GenState} {d : Drawn} {t : Nat} {os : OsState}
/-- ValueError.__init__ bound to x, called -/
theorem sup_call {u x t0 : Addr} {rest : List Value} {Q : Value → Shared → Prop} (T : SupTxt P K mg C fI cc cda qual st) (X : K.In h) (hx : h.get? x = some (excO C t0)) (hu : h.get? u = some (kxs_mw "ValueError.__init__" x)) (hz : rest.length ≤ sizeLine)
    (hq : ∀ h' t1, (∀ b o, b ≠ x → h.get? b = some o → h'.get? b = some o) → h'.get? x = some (excO C t1) → Q .none ⟨h', g, d, t, os⟩) :
    wpAny (model P w) A (call (.ref u) rest) Q E ⟨h, g, d, t, os⟩ := by
  obtain ⟨nm, q, N, bs, bm, sn, sub, ab, col, dd, k0, k1, k2, k3, k5, hC, hbm⟩ := T.cls
  refine wpAny_call (codeAny_of_tree ?_)
  show wpAny _ A.in1 (callAny (.ref u) ⟨rest, []⟩) _ _ _
  simp only [callAny]
  refine wpAny_bind (wpAny_load hu ?_)
  simp only [kxs_mw, show (Value.type "method-wrapper" == Value.type "method" || Value.type "method-wrapper" == Value.type "builtin_function_or_method" || Value.type "method-wrapper" == Value.type "method-wrapper") = true by decide, if_true]
  refine KFB.if_so (by decide) ?_
  refine wpAny_bind (check_bound_init F.excBase_ValueError.toExcCallFacts (X _ _ hC) hx rfl ?_)
  refine wpAny_bind (wpAny_pure (wpAny_pure ?_))
  refine ⟨plainId_quiet F.excBase_ValueError.init.plain _, codeAny_builtin F.excBase_ValueError.initEntry ?_⟩
  exact exc_init_tree (cls := .ref C) (t0 := t0) (dv := none) (c2 := .none) (c3 := .none) (b4 := .bool false) hx hz fun h' k e _ => hq h' h.objs.size k e
/-- super().__init__(..) -/
theorem sup_first {kV doc pm ct oc : Value} {an od : Option Addr} {osl : Array (Option Value)} {L x t0 : Addr} {m mb : Str → Option Value} {p0 p1 apos pos : Pos} {es : List Expr} {e : Expr} {us : List Value} {Q : Value → Shared → Prop} {body : List Stmt} {ar : Arg} {pl : Sem Bool}
    (T : SupTxt P K mg C fI cc cda qual st) (X : K.In h) (G : h.Ns mainGlobals mg) (B : h.Ns builtinsNs mb) (hb : mb "super" = some (.type "super"))
    (lk : K.lookup fI = some ⟨oc, od, .func (ksFn "__init__" qual (C8.fnArgs st) (C8.fnBody st) (C8.fnScope st) .none kV doc pm an (.ref cda) ct cc), osl⟩)
    (hp : ((C8.fnArgs st).posonlyargs ++ (C8.fnArgs st).args).head? = some ar) (har : ar.arg = "self")
    (hks : (C8.fnScope st).names.lookup ("super" : Str) = some .globalImplicit) (hkc : (C8.fnScope st).names.lookup ("__class__" : Str) = some .free) (hka : (C8.fnScope st).names.lookup ("self" : Str) = some .local) (hk : (C8.fnScope st).kind = .function)
    (hn : h.Ns L m) (hv : m "self" = some (.ref x)) (hx : h.get? x = some (excO C t0)) (hz : us.length ≤ sizeLine)
    (hargs : ∀ (h1 : Heap) (t1 : Nat) (Q1 : List Value → Shared → Prop), (∀ b o, h.get? b = some o → h1.get? b = some o) → Q1 us ⟨h1, g, d, t1, os⟩ → wpAny (model P w) A (spliced (backTo pos (starEach (e :: es) (ksEnv qual (C8.fnScope st) L fI (.ref cda) cc)))) Q1 E ⟨h1, g, d, t1, os⟩)
    (hq : ∀ h' t' t1, (∀ b o, b ≠ x → h.get? b = some o → h'.get? b = some o) → h'.get? x = some (excO C t1) → Q .none ⟨h', g, d, t', os⟩)
    (he : starEach (e :: es) (ksEnv qual (C8.fnScope st) L fI (.ref cda) cc) = (false, eval e (ksEnv qual (C8.fnScope st) L fI (.ref cda) cc)) :: starEach es (ksEnv qual (C8.fnScope st) L fI (.ref cda) cc))
    (hpl : (backTo pos (starEach es (ksEnv qual (C8.fnScope st) L fI (.ref cda) cc))).any (·.1) = false)
    (hcall : eval (.Call (.Attribute (.Call (.Name "super" p0) [] [] p1) "__init__" apos) (e :: es) [] pos) (ksEnv qual (C8.fnScope st) L fI (.ref cda) cc) = (do
      let ov ← attributeBase (.Call (.Name "super" p0) [] [] p1) "__init__" (ksEnv qual (C8.fnScope st) L fI (.ref cda) cc) (eval (.Call (.Name "super" p0) [] [] p1) (ksEnv qual (C8.fnScope st) L fI (.ref cda) cc))
      standAt apos.atName
      let (f, first) ← holding [ov] (getMethod ov "__init__" pl)
      callWith pos f first (backTo pos (starEach (e :: es) (ksEnv qual (C8.fnScope st) L fI (.ref cda) cc))) [])) :
    _root_.PySem.wpAt (model P w) A (.func body (ksEnv qual (C8.fnScope st) L fI (.ref cda) cc)) (eval (.Call (.Attribute (.Call (.Name "super" p0) [] [] p1) "__init__" apos) (e :: es) [] pos) (ksEnv qual (C8.fnScope st) L fI (.ref cda) cc)) Q E ⟨h, g, d, t, os⟩ := by
  obtain ⟨nm, q, N, bs, bm, sn, sub, ab, col, dd, k0, k1, k2, k3, k5, hC, hbm⟩ := T.cls
  have hC' := X _ _ hC
  obtain ⟨ccl, cdd, vs, ccs, file, tf, hcode, hvs, hfile⟩ := T.code
  obtain ⟨cl, cld, csl, hcell⟩ := T.cell
  have I : InstAt h x (excO C t0) C none := ⟨hx, rfl, rfl, trivial⟩
  refine ks_wpAt_MethodCall ?_ hcall
  refine ks_wpAt_super_base (env := ksEnv qual (C8.fnScope st) L fI (.ref cda) cc) (fd := ksFn "__init__" qual (C8.fnArgs st) (C8.fnBody st) (C8.fnScope st) .none kV doc pm an (.ref cda) ct cc) hks hkc (by decide) rfl (X _ _ lk) rfl hp rfl (X _ _ hcode) rfl hvs hfile T.top ?_
  refine ks_loadName_global hk hks (loadGlobal_builtin (env := ksEnv qual (C8.fnScope st) L fI (.ref cda) cc) G T.sup B hb ⟨rfl, ?_⟩)
  refine wpAny_loadName_free hk hkc rfl ⟨_, X _ _ hcell, rfl⟩ ?_
  rw [har]
  refine wpAny_loadName_local hk hka hn hv ?_
  refine ks_wpAny_isType_cls hC' rfl ⟨rfl, ?_⟩
  refine ks_wpAny_call_super hC' rfl hx rfl (fun c e => by cases e) (looks_mroIn X T.me) (fun h1 e1 k1 => ?_)
  have X1 : K.In h1 := X.keeps k1
  have hx1 := k1 _ _ hx
  have I1 : InstAt h1 x (excO C t0) C none := ⟨hx1, rfl, rfl, trivial⟩
  have hI : Looks (model P w) h1 (isInstance (.ref x) (.type "ValueError")) true := I1.type.andThen (looks_subIn X1 T.ve)
  cases hc : clsIn K C with
  | none => have hm := T.su; unfold ks_superIn at hm; rw [hc] at hm; cases hm
  | some cd =>
    have hm := T.su
    unfold ks_superIn at hm
    rw [hc] at hm
    refine kxs_getMethod kxs_ValueError e1 (looks_opaque X1 T.th) (l₀ := cd.mro) (fun A Q E s k q => wpAny_bind ((looks_clsIn X1 hc) A _ E s k (wpAny_pure q))) rfl X1 hm hI (ks_ne X1 I1 hc) (by decide) ?_
    have k2 : ∀ b o, h1.get? b = some o → (h1.push (kxs_mw "ValueError.__init__" x)).get? b = some o := fun b o e => Heap.get?_push_of_some _ e
    have hu : (h1.push (kxs_mw "ValueError.__init__" x)).get? h1.objs.size = some (kxs_mw "ValueError.__init__" x) := Heap.get?_push_at rfl rfl
    have ha := hargs (h1.push (kxs_mw "ValueError.__init__" x)) (t + 1) (fun vs s₁ => KxsAt "ValueError.__init__" h1.objs.size x s₁.heap ∧ wpAny (model P w) A (call (.ref h1.objs.size) ([] ++ vs)) Q E s₁) (fun b o e => k2 b o (k1 b o e))
      ⟨hu, sup_call T (X1.keeps k2) (k2 _ _ hx1) hu hz fun h' t1 k3 e3 => hq h' _ t1 (fun b o n e => k3 b o n (k2 b o (k1 b o e))) e3⟩
    show wpAny _ _ (callWith pos (.ref h1.objs.size) [] (backTo pos (starEach (e :: es) (ksEnv qual (C8.fnScope st) L fI (.ref cda) cc))) []) _ _ _
    rw [he] at ha ⊢
    refine kxs_callWith (i := "ValueError.__init__") (x := x) (by show (false || (backTo pos (starEach es _)).any (·.1)) = false; rw [hpl]; rfl) ?_
    exact evalArgs_plain ha
end
end K14E
/-! NoName(..), BadWidth(..): their __init__ walked, their making -/
namespace K14E
open PySem PySem.W PySem.Calls PyProof.Rows PySem.HandSPX
/-- what __init__ leaves of a fresh exception at x -/
structure InitEnd (h h' : Heap) (x C dx : Addr) (fs : List (Str × Value)) : Prop where
  keep : ∀ b o, b ≠ x → h.get? b = some o → h'.get? b = some o
  obj : ∃ t1, h'.get? x = some { cls := .ref C, dict := some dx, data := .fields #[.ref t1, .none, .none, .none, .bool false, .none] }
  dbig : h.objs.size ≤ dx
  dne : dx ≠ x
  ns : ∃ m, h'.Ns1 dx m ∧ ∀ y, m y = fs.lookup y
def InitRuns (P : Program) (w : World) (K : Frag) (mg : Str → Option Value) (C fI : Addr) (us : List Value) (fs : List (Str × Value)) : Prop :=
  ∀ (A : Around) (R : Result → Shared → Prop) (s : Shared) (x t0 : Addr), K.In s.heap → s.heap.Ns mainGlobals mg → (∃ mb, s.heap.Ns builtinsNs mb ∧ ∀ x : Str, x ≠ "__name__" → mb x = bootBuiltins x) → s.heap.NoLimit →
    s.heap.get? x = some (excO C t0) → K.lookup x = none → A.depth < recursionLimit → (∀ h' tk dx, InitEnd s.heap h' x C dx fs → R (.ok (.ret .none)) { s with heap := h', toks := tk }) →
    codeAny (model P w) A (.call (.ref fI) ⟨.ref x :: us, []⟩) R s
theorem ns_stay {h h' : Heap} {L x : Addr} {m : Str → Option Value} (hn : h.Ns L m) (ne : L ≠ x) (k : ∀ b o, b ≠ x → h.get? b = some o → h'.get? b = some o) : h'.Ns L m := by
  obtain ⟨oL, es, ep, hL, r⟩ := hn
  exact ⟨oL, es, ep, k _ _ ne hL, r⟩
theorem kept_but {K : Frag} {h h' : Heap} {x : Addr} (X : K.In h) (hx : K.lookup x = none) (k : ∀ b o, b ≠ x → h.get? b = some o → h'.get? b = some o) : K.In h' := fun a o e =>
  k a o (fun z => by rw [z, hx] at e; cases e) (X a o e)
theorem fresh_K {K : Frag} {h : Heap} {x : Addr} (X : K.In h) (hx : h.objs.size ≤ x) : K.lookup x = none := by
  cases e : K.lookup x with
  | none => rfl
  | some o => exact absurd (Heap.lt_size (X _ _ e)) (Nat.not_lt.mpr hx)
theorem ldN {M : Model} {s : Shared} {A : Around} {E : Value → Shared → Prop} {env : Env} {m : Str → Option Value} {x : Str} {pos : Pos} {v : Value} {Q : Value → Shared → Prop} (hn : s.heap.Ns env.locals m) (hv : m x = some v) (h : Q v s)
    (hk : env.scope.kind = .function) (hl : env.kindOf x = some .local) (hd : (x == ("__debug__" : Str)) = false := by decide) : wpAny M A (eval (.Name x pos) env) Q E s := wpAny_Name (wpAny_loadName_local hk hl hn hv h) hd
section
variable {P : Program} {w : World} {K : Frag} {mg : Str → Option Value} {C fI cc cda : Addr}
abbrev sN : Stmt := K14.ms 5 0
abbrev sB : Stmt := K14.ms 4 0
theorem kN : (C8.fnScope sN).kind = .function := by decide +kernel
theorem cN : (C8.fnScope sN).isCoroutine = false := by decide +kernel
theorem gN : (C8.fnScope sN).isGenerator = false := by decide +kernel
theorem cB : (C8.fnScope sB).isCoroutine = false := by decide +kernel
theorem gB : (C8.fnScope sB).isGenerator = false := by decide +kernel
theorem kB : (C8.fnScope sB).kind = .function := by decide +kernel
theorem nn_init (T : SupTxt P K mg C fI cc cda "NoName.__init__" sN) (no : findIn K (.ref C) "name" = some none) (v : Value) : InitRuns P w K mg C fI [v] [("name", v)] := by
  intro A R s x t0 X G B hlim hx hnx hroom hq
  obtain ⟨mb, hB, hbb⟩ := B
  have hb : mb "super" = some (.type "super") := (hbb "super" (by decide)).trans (by decide +kernel)
  obtain ⟨nm, q, N, bs, bm, sn, sub, ab, col, dd, k0, k1, k2, k3, k5, hC, hbm⟩ := T.cls
  have hcl : clsIn K C = some { name := nm, bases := bs, mro := .ref C :: bm, ns := N, qualname := q, hasDict := true, slotNames := sn, subclasses := sub, abstract := ab, collection := col, hasDel := false } := by unfold clsIn; rw [hC] <;> rfl
  obtain ⟨oc, od, osl, kV, doc, pm, an, ct, lk, hcd⟩ := T.fn
  obtain ⟨ar, hp, har⟩ : ∃ ar : Arg, ((C8.fnArgs sN).posonlyargs ++ (C8.fnArgs sN).args).head? = some ar ∧ ar.arg = "self" := ⟨_, rfl, rfl⟩
  have h1 : (C8.fnScope sN).names.lookup ("super" : Str) = some .globalImplicit := by decide +kernel
  have h2 : (C8.fnScope sN).names.lookup ("__class__" : Str) = some .free := by decide +kernel
  have h3 : (C8.fnScope sN).names.lookup ("self" : Str) = some .local := by decide +kernel
  have h4 : (C8.fnScope sN).names.lookup ("name" : Str) = some .local := by decide +kernel
  have hcell : ∀ y ∈ (C8.fnScope sN).names, y.2 ≠ .cell := by decide +kernel
  obtain ⟨hp0, g, dr, tk, os⟩ := s
  refine ks_codeAny_call_defAt (fd := ksFn "__init__" "NoName.__init__" (C8.fnArgs sN) (C8.fnBody sN) (C8.fnScope sN) .none kV doc pm an (.ref cda) ct cc) (body := C8.fnBody sN) (binds := [("self", .ref x), ("name", v)]) hroom (X _ _ lk) rfl hlim (codeRec_of X hcd) rfl (.of_eq rfl) hcell (fun y hy => ?_) (fun h₁ hn k => ?_) cN gN kN
  · rcases List.mem_cons.mp hy with rfl | hy
    · exact h3
    · rw [List.mem_singleton.mp hy]; exact h4
  have X₁ : K.In h₁ := X.keeps k
  have hx₁ := k _ _ hx
  have hxL : hp0.objs.size ≠ x := Nat.ne_of_gt (Heap.lt_size hx)
  show _root_.PySem.wpAt _ _ (.func _ (ksEnv "NoName.__init__" (C8.fnScope sN) hp0.objs.size fI (.ref cda) cc)) (execs (C8.fnBody sN) (ksEnv "NoName.__init__" (C8.fnScope sN) hp0.objs.size fI (.ref cda) cc)) _ _ _
  refine ks_wpAt_execs_cons (ks_wpAt_Expr_any ?_)
  refine sup_first (us := [v]) T X₁ (G.keeps k) (hB.keeps k) hb lk hp har h1 h2 h3 kN hn rfl hx₁ (by rw [sizeLine_eq]; exact (by decide : 1 ≤ 16777216)) (fun h1 t1 Q1 kk q1 => ?_) (fun h' t' t1 k' e' => ?_) (by rfl) (by rfl) (by rfl)
  · exact spliced_more (ldN (v := v) (hn.keeps kk) rfl (spliced_none q1) kN h4)
  · refine wpAt_of_wpAny ?_
    have X' : K.In h' := kept_but X₁ hnx k'
    have hn' := ns_stay hn hxL k'
    refine wpAny_execs_cons (plainObj_wpAny_Assign_Attribute (ldN (v := v) hn' rfl (ldN (v := .ref x) hn' rfl ?_ kN h3) kN h4))
    refine set_plain X' (ox := excO C t1) (od := none) ⟨e', rfl, rfl, trivial⟩ T.sa ?_
    refine exc_osa X' e' hcl (show refsVE (.ref C :: bm) = true from hbm) rfl no (fun h₃ tk₃ dx k₃ dn dne hx₃ hn₃ => ?_)
    show wpAny _ _ (execs _ _) _ _ _
    have z1 : hp0.objs.size ≤ dx := Nat.le_trans (Nat.le_of_lt hn'.lt) dn
    exact wpAny_execs_nil (hq h₃ tk₃ dx ⟨fun b o hb e => k₃ b o hb (k' b o hb (k b o e)), ⟨t1, hx₃⟩, z1, dne, _, hn₃, fun y => by
      by_cases e : y = "name"
      · rw [if_pos e, e]; rfl
      · rw [if_neg e]
        have q : (y == ("name" : Str)) = false := by simpa using e
        simp [List.lookup, q]⟩)
theorem bw_init (T : SupTxt P K mg C fI cc cda "BadWidth.__init__" sB) (no1 : findIn K (.ref C) "name" = some none) (no2 : findIn K (.ref C) "wanted" = some none) (no3 : findIn K (.ref C) "told" = some none) (v1 v2 v3 : Value) :
    InitRuns P w K mg C fI [v1, v2, v3] [("told", v3), ("wanted", v2), ("name", v1)] := by
  intro A R s x t0 X G B hlim hx hnx hroom hq
  obtain ⟨mb, hB, hbb⟩ := B
  have hb : mb "super" = some (.type "super") := (hbb "super" (by decide)).trans (by decide +kernel)
  obtain ⟨nm, q, N, bs, bm, sn, sub, ab, col, dd, k0, k1, k2, k3, k5, hC, hbm⟩ := T.cls
  have hcl : clsIn K C = some { name := nm, bases := bs, mro := .ref C :: bm, ns := N, qualname := q, hasDict := true, slotNames := sn, subclasses := sub, abstract := ab, collection := col, hasDel := false } := by unfold clsIn; rw [hC] <;> rfl
  obtain ⟨oc, od, osl, kV, doc, pm, an, ct, lk, hcd⟩ := T.fn
  obtain ⟨ar, hp, har⟩ : ∃ ar : Arg, ((C8.fnArgs sB).posonlyargs ++ (C8.fnArgs sB).args).head? = some ar ∧ ar.arg = "self" := ⟨_, rfl, rfl⟩
  have h1 : (C8.fnScope sB).names.lookup ("super" : Str) = some .globalImplicit := by decide +kernel
  have h2 : (C8.fnScope sB).names.lookup ("__class__" : Str) = some .free := by decide +kernel
  have h3 : (C8.fnScope sB).names.lookup ("self" : Str) = some .local := by decide +kernel
  have h4 : (C8.fnScope sB).names.lookup ("name" : Str) = some .local := by decide +kernel
  have h5 : (C8.fnScope sB).names.lookup ("wanted" : Str) = some .local := by decide +kernel
  have h6 : (C8.fnScope sB).names.lookup ("told" : Str) = some .local := by decide +kernel
  have hcell : ∀ y ∈ (C8.fnScope sB).names, y.2 ≠ .cell := by decide +kernel
  obtain ⟨hp0, g, dr, tk, os⟩ := s
  refine ks_codeAny_call_defAt (fd := ksFn "__init__" "BadWidth.__init__" (C8.fnArgs sB) (C8.fnBody sB) (C8.fnScope sB) .none kV doc pm an (.ref cda) ct cc) (body := C8.fnBody sB) (binds := [("self", .ref x), ("name", v1), ("wanted", v2), ("told", v3)]) hroom (X _ _ lk) rfl hlim (codeRec_of X hcd) rfl (.of_eq rfl) hcell (fun y hy => ?_) (fun h₁ hn k => ?_) cB gB kB
  · rcases List.mem_cons.mp hy with rfl | hy
    · exact h3
    rcases List.mem_cons.mp hy with rfl | hy
    · exact h4
    rcases List.mem_cons.mp hy with rfl | hy
    · exact h5
    · rw [List.mem_singleton.mp hy]; exact h6
  have X₁ : K.In h₁ := X.keeps k
  have hx₁ := k _ _ hx
  have hxL : hp0.objs.size ≠ x := Nat.ne_of_gt (Heap.lt_size hx)
  show _root_.PySem.wpAt _ _ (.func _ (ksEnv "BadWidth.__init__" (C8.fnScope sB) hp0.objs.size fI (.ref cda) cc)) (execs (C8.fnBody sB) (ksEnv "BadWidth.__init__" (C8.fnScope sB) hp0.objs.size fI (.ref cda) cc)) _ _ _
  refine ks_wpAt_execs_cons (ks_wpAt_Expr_any ?_)
  refine sup_first (us := [v1, v2, v3]) T X₁ (G.keeps k) (hB.keeps k) hb lk hp har h1 h2 h3 kB hn rfl hx₁ (by rw [sizeLine_eq]; exact (by decide : 3 ≤ 16777216)) (fun h1 t1 Q1 kk q1 => ?_) (fun h' t' t1 k' e' => ?_) (by rfl) (by rfl) (by rfl)
  · exact spliced_more (ldN (v := v1) (hn.keeps kk) rfl (spliced_more (ldN (v := v2) (hn.keeps kk) rfl (spliced_more (ldN (v := v3) (hn.keeps kk) rfl (spliced_none q1) kB h6)) kB h5)) kB h4)
  · refine wpAt_of_wpAny ?_
    have X' : K.In h' := kept_but X₁ hnx k'
    have hn' := ns_stay hn hxL k'
    refine wpAny_execs_cons (plainObj_wpAny_Assign_Attribute (ldN (v := v1) hn' rfl (ldN (v := .ref x) hn' rfl ?_ kB h3) kB h4))
    refine set_plain X' (ox := excO C t1) (od := none) ⟨e', rfl, rfl, trivial⟩ T.sa ?_
    refine exc_osa X' e' hcl (show refsVE (.ref C :: bm) = true from hbm) rfl no1 (fun h₃ tk₃ dx k₃ dn dne hx₃ hn₃ => ?_)
    show wpAny _ _ (execs _ _) _ _ _
    have z1 : hp0.objs.size < dx := Nat.lt_of_lt_of_le hn'.lt dn
    have fK : K.lookup dx = none := fresh_K X (Nat.le_of_lt z1)
    have X₃ : K.In h₃ := kept_but X' hnx k₃
    have n3 := ns_stay hn' hxL k₃
    obtain ⟨oD, _, _, hoD, _, _⟩ := hn₃.count (Within.cons "name" v1 Within.nil)
    refine wpAny_execs_cons (plainObj_wpAny_Assign_Attribute (ldN (v := v2) n3 rfl (ldN (v := .ref x) n3 rfl ?_ kB h3) kB h5))
    refine set_plain X₃ (od := some oD) ⟨hx₃, rfl, rfl, hoD⟩ T.sa ?_
    refine PySem.OEX.osa_old X₃ hx₃ hn₃ (Within.cons "name" v1 Within.nil) (by decide) hcl (show refsVE (.ref C :: bm) = true from hbm) rfl no2 (fun h₄ tk₄ k₄ hn₄ => ?_)
    show wpAny _ _ (execs _ _) _ _ _
    have X₄ : K.In h₄ := kept_but X₃ fK k₄
    have n4 := ns_stay n3 (Nat.ne_of_lt z1) k₄
    have hx₄ := k₄ _ _ (Ne.symm dne) hx₃
    have w4 := Within.cons "wanted" v2 (Within.cons "name" v1 Within.nil)
    obtain ⟨oD4, _, _, hoD4, _, _⟩ := hn₄.count w4
    refine wpAny_execs_cons (plainObj_wpAny_Assign_Attribute (ldN (v := v3) n4 rfl (ldN (v := .ref x) n4 rfl ?_ kB h3) kB h6))
    refine set_plain X₄ (od := some oD4) ⟨hx₄, rfl, rfl, hoD4⟩ T.sa ?_
    refine PySem.OEX.osa_old X₄ hx₄ hn₄ w4 (by decide) hcl (show refsVE (.ref C :: bm) = true from hbm) rfl no3 (fun h₅ tk₅ k₅ hn₅ => ?_)
    show wpAny _ _ (execs _ _) _ _ _
    refine wpAny_execs_nil (hq h₅ tk₅ dx ⟨fun b o hb e => ?_, ⟨t1, k₅ _ _ (Ne.symm dne) hx₄⟩, Nat.le_of_lt z1, dne, _, hn₅, fun y => ?_⟩)
    · have nd : b ≠ dx := Nat.ne_of_lt (Nat.lt_trans (Heap.lt_size e) z1)
      exact k₅ b o nd (k₄ b o nd (k₃ b o hb (k' b o hb (k b o e))))
    · by_cases e1 : y = "told"
      · rw [if_pos e1, e1]; rfl
      rw [if_neg e1]
      have q1 : (y == ("told" : Str)) = false := by simpa using e1
      by_cases e2 : y = "wanted"
      · rw [if_pos e2, e2]; rfl
      rw [if_neg e2]
      have q2 : (y == ("wanted" : Str)) = false := by simpa using e2
      by_cases e3 : y = "name"
      · rw [if_pos e3, e3]; rfl
      rw [if_neg e3]
      have q3 : (y == ("name" : Str)) = false := by simpa using e3
      simp [List.lookup, q1, q2, q3]
/-- a made one -/
structure OwnMade (h h' : Heap) (e C d : Addr) (fs : List (Str × Value)) : Prop where
  keep : ∀ b o, h.get? b = some o → h'.get? b = some o
  new : h.objs.size ≤ e
  obj : ∃ oe vs, h'.get? e = some oe ∧ oe.cls = .ref C ∧ oe.dict = some d ∧ oe.data = .fields vs ∧ vs[1]? = some .none
  dbig : h.objs.size ≤ d
  dne : d ≠ e
  ns : ∃ m, h'.Ns1 d m ∧ ∀ y, m y = fs.lookup y
theorem sup_made {A : Around} {R : Result → Shared → Prop} {s : Shared} {qual : Str} {st : Stmt} {us : List Value} {fs : List (Str × Value)} (T : SupTxt P K mg C fI cc cda qual st) (hin : InitRuns P w K mg C fI us fs) (hz : us.length ≤ sizeLine)
    (X : K.In s.heap) (G : s.heap.Ns mainGlobals mg) (B : ∃ mb, s.heap.Ns builtinsNs mb ∧ ∀ x : Str, x ≠ "__name__" → mb x = bootBuiltins x) (hlim : s.heap.NoLimit) (hroom : A.depth + 1 < recursionLimit)
    (hq : ∀ h' tk e d, OwnMade s.heap h' e C d fs → R (.ok (.ret (.ref e))) { s with heap := h', toks := tk }) :
    codeAny (model P w) A (.call (.ref C) ⟨us, []⟩) R s := by
  obtain ⟨nm, q, N, bs, bm, sn, sub, ab, col, dd, k0, k1, k2, k3, k5, hC, hbm⟩ := T.cls
  obtain ⟨hp, g, dr, tk, os⟩ := s
  have k : ∀ b o, hp.get? b = some o → ((hp.push (kdv_tup us)).push (excO C hp.objs.size)).get? b = some o := fun b o e => Heap.get?_push_of_some _ (Heap.get?_push_of_some _ e)
  have hget : ((hp.push (kdv_tup us)).push (excO C hp.objs.size)).get? (hp.objs.size + 1) = some (excO C hp.objs.size) := by heap_get
  obtain ⟨mb, hB, hbb⟩ := B
  refine call_own F.excBase_ValueError (fun X => refsVE_contains X bm hbm) (X _ _ hC) (looks_findIn X T.iC) (fun self => bind_fn X self T.tI) hz ?_
  refine hin _ _ ⟨(hp.push (kdv_tup us)).push (excO C hp.objs.size), g, dr, tk, os⟩ (hp.objs.size + 1) hp.objs.size (X.keeps k) (G.keeps k) ⟨mb, hB.keeps k, hbb⟩ (hlim.keeps k) hget (fresh_K X (Nat.le_succ _)) ?_ fun h' tk' dx ⟨k', ⟨t1, hx⟩, dn, dne, hns⟩ => ?_
  · show A.depth + 1 < recursionLimit
    exact hroom
  · have old : ∀ b o, hp.get? b = some o → h'.get? b = some o := fun b o e => k' b o (Nat.ne_of_lt (Nat.lt_succ_of_lt (Heap.lt_size e))) (k b o e)
    have z : hp.objs.size + 1 + 1 ≤ dx := by
      first
        | (simpa only [Heap.size_push] using dn)
        | exact dn
        | (have q := dn; rw [Heap.size_push, Heap.size_push] at q; exact q)
    exact ⟨rfl, hq h' tk' (hp.objs.size + 1) dx ⟨old, Nat.le_succ _, ⟨_, _, hx, rfl, rfl, rfl, rfl⟩, Nat.le_trans (Nat.le_trans (Nat.le_succ _) (Nat.le_succ _)) z, dne, hns⟩⟩
end
end K14E
namespace K14
open PySem PySem.Spec PyProof.Rows L2 K14E
theorem pmk_sup {X : Cx} {C fI cc cda : Addr} {qual nm : Str} {st : Stmt} {n k : Nat} {fs : List V → List (Str × V)} {fsV : List Value → List (Str × Value)} {e : Expr} {es : List Expr} {ta : TA} {p pos : Pos} (T : SupTxt X.prog X.K X.mg C fI cc cda qual st)
    (hin : ∀ us, us.length = n → InitRuns X.prog X.w X.K X.mg C fI us (fsV us)) (hrel : ∀ vs us, Vals vs us → vs.length = n → ∀ y, RelO ((fs vs).lookup y) ((fsV us).lookup y)) (hr : Room k X.A) (gC : X.mg nm = some (.ref C)) (hg : Gl X nm) (hn : n ≤ 10)
    (ha : PA X (e :: es) ta) (he : starEach (e :: es) X.env = (false, eval e X.env) :: starEach es X.env) (hpl : (backTo pos (starEach es X.env)).any (·.1) = false) (hdb : (nm == ("__debug__" : Str)) = false) :
    PMk X (.Call (.Name nm p) (e :: es) [] pos) (tMkE C n fs ta) := by
  intro pins s σ H Q I h
  refine wpAny_Call_Name_kw (ld_glob I hg gC ?_ hdb)
  refine PySem.W.callWith_K (h₀ := X.base) I.ok.mod.kin T.kC (thn (ha.run pos pins s σ H _ I h) fun us s1 hh => ?_) he hpl
  obtain ⟨vs, H1, I1, r1, hl, q1⟩ := hh
  refine ⟨I1.kIn, ?_⟩
  have hlu : us.length = n := by rw [← r1.length]; exact hl
  show wpAny _ _ (call (.ref C) us) _ _ _
  have hlim := I1.nolimit
  have hG := I1.mod.glob.keeps I1.bk
  obtain ⟨mb, hB, hbb⟩ := I1.mod.blt
  have hB' := hB.keeps I1.bk
  obtain ⟨hp, g, dr, tk, os⟩ := s1
  refine wpAny_call (sup_made T (hin us hlu) (by rw [hlu, sizeLine_eq]; omega) I1.kIn hG ⟨mb, hB', hbb⟩ hlim (by have := hr.dp; omega) fun h' tk' e d M => ?_)
  show MkP X pins σ Q (.ref e) ⟨h', g, dr, tk', os⟩
  obtain ⟨oe, fv, hoe, hc, hd, hdat, h1⟩ := M.obj
  obtain ⟨m, hns, hm⟩ := M.ns
  obtain ⟨G', g1, g2⟩ := restrict h' fun b => decide (b ≠ e)
  have gk : ∀ b, b ≠ e → G'.get? b = h'.get? b := fun b hb => g1 b (decide_eq_true hb)
  have ge : G'.get? e = none := g2 e (by simp)
  have old : ∀ b o, hp.get? b = some o → G'.get? b = some o := fun b o q => (gk b (Nat.ne_of_lt (Nat.lt_of_lt_of_le (Heap.lt_size q) M.new))).trans (M.keep b o q)
  have ob : ObjOk X.prog X.w (upd H1 d (.xd (fs vs))) G' d (.xd (fs vs)) :=
    ⟨_, hns.at (fun o q => (gk d M.dne).trans q), fun f => by rw [hm f]; exact hrel vs us r1 hl f⟩
  have J : Inv X pins σ (upd H1 d (.xd (fs vs))) ⟨G', g, dr, tk', os⟩ := I1.laid (t' := tk') old M.dbig ob
  refine ⟨e, oe, fv, ⟨G', g, dr, tk', os⟩, _, .ref C, some d, rfl, J, fun b o q => ?_, ge, hoe, ⟨hc, hd⟩, hdat, h1, ?_, rfl, I1.bare, raises_own T.exC T.tyC, q1 d (I1.hok.fresh M.dbig)⟩
  · by_cases hb : b = e
    · have q' : G'.get? b = some o := q
      rw [hb, ge] at q'; cases q'
    · exact (gk b hb).symm.trans q
  · rw [upd_ne (Ne.symm M.dne)]
    exact I1.hok.fresh M.new
theorem relO_cons {f g : Str} {v : V} {u : Value} {a : List (Str × V)} {b : List (Str × Value)} (r : RelV v u) (h : RelO (a.lookup g) (b.lookup g)) : RelO (((f, v) :: a).lookup g) (((f, u) :: b).lookup g) := by
  by_cases e : g = f
  · subst e
    simp only [List.lookup, beq_self_eq_true]
    exact r
  · have q : (g == f) = false := by simpa using e
    simp only [List.lookup, q]
    exact h
def fsNV (us : List Value) : List (Str × Value) := [("name", us.getD 0 .none)]
def fsBV (us : List Value) : List (Str × Value) := [("told", us.getD 2 .none), ("wanted", us.getD 1 .none), ("name", us.getD 0 .none)]
theorem exc_top {P : Program} {w : World} {K : PySem.W.Frag} {mg : Str → Option Value} {base : Heap} {cN cB fN fB ccN ccB cdN cdB : Addr} (eN : He.ga K "NoName" = cN) (eB : He.ga K "BadWidth" = cB) (gN : mg "NoName" = some (.ref cN)) (gB : mg "BadWidth" = some (.ref cB))
    (TN : SupTxt P K mg cN fN ccN cdN "NoName.__init__" sN) (TB : SupTxt P K mg cB fB ccB cdB "BadWidth.__init__" sB) (noN : PySem.W.findIn K (.ref cN) "name" = some none)
    (no1 : PySem.W.findIn K (.ref cB) "name" = some none) (no2 : PySem.W.findIn K (.ref cB) "wanted" = some none) (no3 : PySem.W.findIn K (.ref cB) "told" = some none) : ExcTop P w K mg base := by
  subst eN eB
  refine ⟨gN, gB, ?_, ?_⟩
  · intro X a ta p pos k hP hw hK hm hb hr hk hg ha he
    subst hP hw hK hm hb
    refine pmk_sup (fsV := fsNV) TN (fun us hl => ?_) (fun vs us r hl y => ?_) hr gN hg (by decide) ha he rfl (by decide)
    · match us, hl with
      | [u], _ => exact nn_init TN noN u
    · cases r with
      | nil => cases hl
      | cons r0 r1 => exact relO_cons r0 True.intro
  · intro X a b c ta p pos k hP hw hK hm hb hr hk hg ha he hpl
    subst hP hw hK hm hb
    refine pmk_sup (fsV := fsBV) TB (fun us hl => ?_) (fun vs us r hl y => ?_) hr gB hg (by decide) ha he hpl (by decide)
    · match us, hl with
      | [u1, u2, u3], _ => exact bw_init TB no1 no2 no3 u1 u2 u3
    · cases r with
      | nil => cases hl
      | cons r0 r1 =>
        cases r1 with
        | nil => cases hl
        | cons r2 r3 =>
          cases r3 with
          | nil => cases hl
          | cons r4 r5 => exact relO_cons r4 (relO_cons r2 (relO_cons r0 True.intro))
end K14
/-! the law's end: its code known at the judge's caller alone -/
namespace K14
open PySem PySem.Spec PyProof.Rows L2
/-- a def's promise at the judge's caller alone -/
def RunA (P : Program) (w : World) (K : PySem.W.Frag) (mg : Str → Option Value) (base : Heap) (CX : CXT) (fa : Addr) (fd : FuncData) (x : Str) (sp : Sp) : Prop :=
  ∀ (s : Shared) (H : Hp) (a : Addr) (Q : VK) (E : XK), Env0 P w K mg base callerA [] s H → BindsTo s fd ⟨[.ref a], []⟩ [(x, .ref a)] → sp [.ref a] H Q E →
    codeAny (model P w) callerA (.call (.ref fa) ⟨[.ref a], []⟩) (CR CX [] P w H s Q E) s
theorem law_code {P : Program} {w : World} {K : PySem.W.Frag} {mg mb : Str → Option Value} {CX : CXT} {fa a : Addr} {fd : FuncData} {x : Str} {sp : Sp} {s₁ : Shared} {H : Hp}
    (KX : K.In s₁.heap) (hns : s₁.heap.Ns mainGlobals mg) (hb : s₁.heap.Ns builtinsNs mb) (hbb : ∀ x : Str, x ≠ "__name__" → mb x = bootBuiltins x) (hlim : s₁.heap.NoLimit) (hg : s₁.gens = #[])
    {vs : List Value} (ha : s₁.heap.get? a = some { cls := .type "list", data := .seq vs.toArray })
    (F : ∀ base : Heap, K.In base → base.Ns mainGlobals mg → RunA P w K mg base CX fa fd x sp) (hbind : BindsTo s₁ fd ⟨[.ref a], []⟩ [(x, .ref a)])
    (hsp : sp [.ref a] H (fun v _ => v = .bl true) fun _ _ _ => False)
    (hCX : ∀ H e s', CX [] H s₁ (fun _ _ _ => False) e s' → False) (hO : Only H) (hok : HOk P w H s₁.heap) (hA : ∀ b, H b ≠ none → b = a) (hK : H a ≠ none → K.lookup a = none) :
    codeAny (model P w) callerA (.call (.ref fa) ⟨[.ref a], []⟩) (fun r s' => r = .ok (.ret (.bool true)) ∧ OldK s₁.heap s'.heap ∧ s'.os = s₁.os ∧ AllBare s'.gens) s₁ := by
  have off : ∀ {b : Addr}, b ≠ a → H b = none := fun {b} h => by
    cases q : H b with
    | none => rfl
    | some u => exact absurd (hA b (by rw [q]; simp)) h
  have stay : ∀ {b : Addr} {o : Obj}, s₁.heap.get? b = some o → H b = none → (hidT s₁.heap H).get? b = some o := fun e n => hidT_get e n
  have dicts : ∀ {b : Addr} {m : Str → Option Value}, s₁.heap.Ns b m → (hidT s₁.heap H).Ns b m := fun {b m} ⟨o, es, ep, e, d, r⟩ => by
    refine ⟨o, es, ep, stay e (off fun z => ?_), d, r⟩
    rw [z, ha] at e
    cases e
    cases d
  have hKb : K.In (hidT s₁.heap H) := fun b o e => by
    refine stay (KX b o e) ?_
    by_cases z : b = a
    · subst z
      cases q : H b with
      | none => rfl
      | some u => rw [hK (by rw [q]; simp)] at e; cases e
    · exact off z
  have e0 : Env0 P w K mg (hidT s₁.heap H) callerA [] s₁ H :=
    ⟨rfl, ⟨hKb, dicts hns, ⟨mb, dicts hb, hbb⟩, let ⟨mc, h1, h2⟩ := hlim; ⟨mc, dicts h1, h2⟩⟩, fun b o e => of_hidT e, Nat.le_of_eq (hidT_size _ _), trivial, fun b hb => absurd (show b ∈ ([] : List Addr) from hb) (by simp), hok, .of_eq hg⟩
  refine codeAny_mono (F _ hKb (dicts hns) s₁ H a _ _ e0 hbind hsp) fun r s' h => ?_
  cases r with
  | error e => exact (hCX H e s' h).elim
  | ok fl =>
    cases fl with
    | next => exact False.elim h
    | brk => exact False.elim h
    | cont => exact False.elim h
    | ret u =>
      obtain ⟨v, H', os, bare, un, hok', r', q⟩ := h
      have q' : v = .bl true := q
      subst q'
      obtain rfl : u = Value.bool true := r'
      refine ⟨rfl, OldK.of_keep fun b o e => ?_, os, bare⟩
      rcases hO b with z | ⟨ob, xs, z⟩
      · exact un.keep b o e z (by intro z; exact absurd (show b ∈ ([] : List Addr) from z) (by simp)) (by simp)
      · obtain ⟨e1, _⟩ := hok b _ z
        obtain ⟨e2, _⟩ := hok' b _ (un.frzs b ob _ z)
        rw [e] at e1; cases e1
        exact e2
theorem law_callA {P : Program} {w : World} {K : PySem.W.Frag} {mg mb : Str → Option Value} {CX : CXT} {fa a : Addr} {fd : FuncData} {x : Str} {sp : Sp} {s₁ : Shared} {vs : List Value} {ns : List Int}
    (KX : K.In s₁.heap) (hns : s₁.heap.Ns mainGlobals mg) (hb : s₁.heap.Ns builtinsNs mb) (hbb : ∀ x : Str, x ≠ "__name__" → mb x = bootBuiltins x) (hlim : s₁.heap.NoLimit) (hg : s₁.gens = #[])
    (ha : s₁.heap.get? a = some { cls := .type "list", data := .seq vs.toArray }) (hi : IntsAre vs ns) (hl : ns.length ≤ sizeLine)
    (F : ∀ base : Heap, K.In base → base.Ns mainGlobals mg → RunA P w K mg base CX fa fd x sp) (hbind : ∀ (s : Shared) (u : Value), BindsTo s fd ⟨[u], []⟩ [(x, u)])
    (hsp : ∀ H : Hp, Only H → SqL K H a (ns.map V.int) → sp [.ref a] H (fun v _ => v = .bl true) fun _ _ _ => False)
    (hCX : ∀ H e s', CX [] H s₁ (fun _ _ _ => False) e s' → False) :
    codeAny (model P w) callerA (.call (.ref fa) ⟨[.ref a], []⟩) (fun r s' => r = .ok (.ret (.bool true)) ∧ OldK s₁.heap s'.heap ∧ s'.os = s₁.os ∧ AllBare s'.gens) s₁ := by
  have rv := vals_ints hi
  have lenV := hi.length
  cases hk : K.lookup a with
  | some o =>
    have e := KX a o hk
    rw [ha] at e
    cases e
    have hO : Only (fun _ => none) := fun _ => .inl rfl
    have hS : SqL K (fun _ => none) a (ns.map V.int) := .inr ⟨_, vs.toArray, _, hk, rfl, rfl, rfl, by rw [List.size_toArray, lenV]; exact hl, by simpa using rv⟩
    exact law_code KX hns hb hbb hlim hg ha F (hbind _ _) (hsp _ hO hS) hCX hO (fun b u z => by have z' : (none : Option HO) = some u := z; cases z') (fun b z => absurd rfl z) fun z => absurd rfl z
  | none =>
    have hat : (fun b : Addr => if b = a then some (HO.frz { cls := .type "list", data := .seq vs.toArray } (.lst (ns.map V.int))) else none) a = some (HO.frz { cls := .type "list", data := .seq vs.toArray } (.lst (ns.map V.int))) := if_pos rfl
    have hnot : ∀ b, b ≠ a → (fun b : Addr => if b = a then some (HO.frz { cls := .type "list", data := .seq vs.toArray } (.lst (ns.map V.int))) else none) b = none := fun b h => if_neg h
    generalize (fun b : Addr => if b = a then some (HO.frz { cls := .type "list", data := .seq vs.toArray } (.lst (ns.map V.int))) else none) = H at hat hnot
    have hO : Only H := fun b => by
      by_cases z : b = a
      · rw [z]; exact .inr ⟨_, _, hat⟩
      · exact .inl (hnot b z)
    have hA : ∀ b, H b ≠ none → b = a := fun b z => by
      by_cases y : b = a
      · exact y
      · exact absurd (hnot b y) z
    refine law_code KX hns hb hbb hlim hg ha F (hbind _ _) (hsp _ hO (.inl (.inr ⟨_, hat⟩))) hCX hO (fun b u z => ?_) hA fun _ => hk
    have e := hA b (by rw [z]; simp)
    subst e
    rw [hat] at z
    cases z
    exact ⟨ha, by rw [List.length_map]; exact hl, vs, _, rv, ha⟩
/-- the law's end over a head with facts -/
theorem walk_ofA {l : PySem.W.OpenLaw} {n : Nat} {q : Program} {loose : List Str} {XP : (Str → Option Value) → Heap → Prop} {YP : World → Heap → Prop} {d : DefRec} {CX : CXT} {x : Str}
    (hn : l.most = some n) (hn2 : n ≤ sizeLine) (hdf : d.params.defaults = [])
    (F : ∀ (w : World) (mg : Str → Option Value) (fa : Addr) (h : Heap), YP w h → h.Ns mainGlobals mg → mg d.name = some (.ref fa) →
      ∃ (K : PySem.W.Frag) (fd : FuncData) (sp : Sp), K.In h ∧ (∀ (s : Shared) (u : Value), BindsTo s fd ⟨[u], []⟩ [(x, u)]) ∧
        (∀ (H : Hp) (a : Addr) (ns : List Int), ns.length ≤ n → Only H → SqL K H a (ns.map V.int) → sp [.ref a] H (fun v _ => v = .bl true) fun _ _ _ => False) ∧
        ∀ base : Heap, K.In base → base.Ns mainGlobals mg → RunA l.prog w K mg base CX fa fd x sp)
    (hCX : ∀ (H : Hp) (s : Shared) (e : Value) (s' : Shared), CX [] H s (fun _ _ _ => False) e s' → False) :
    PySem.W.WalkO q loose XP YP l.row.toRowW d [] (fun f vs => PySem.call f vs) := by
  refine Att.attach_call hn hdf fun w s₀ s₁ mg mb fa o pm cd doc a vs ns G Y ho hd hcd hmg hobj hints hlen hg => ?_
  obtain ⟨K, fd, sp, KX, hb, hsp, hF⟩ := F w mg fa _ Y G.T.g hmg
  exact law_callA KX G.T.g G.T.b G.T.builtins G.T.nolimit hg hobj hints (Nat.le_trans hlen hn2) hF hb (fun H hO hS => hsp H a ns hlen hO hS) fun H e s' => hCX H s₁ e s'
end K14
/-! the law's code at the judge's caller, from its body -/
namespace K14
open PySem PySem.Spec PyProof.Rows L2
theorem runA_of {CX : CXT} {P : Program} {w : World} {K : PySem.W.Frag} {mg : Str → Option Value} {base : Heap} {k : Nat} {f : Addr} {name qual : Str} {params : Arguments} {body : List Stmt} {scope : Scope} {dV kV doc pm cdv ct oc : Value} {an od : Option Addr}
    {osl : Array (Option Value)} {N : List Str} {x : Str} {sp : Sp} (lk : K.lookup f = some ⟨oc, od, .func (PySem.W.fnOf name qual params body scope dV kV doc pm an cdv ct), osl⟩) (hcd : PySem.W.codeIn K cdv qual = true) (S : FnScope N [x] scope) (hr : Room (k + 1) callerA)
    (hbody : ∀ (s : Shared) (H : Hp) (a : Addr) (Q : VK) (E : XK), Room k (callerA.deeper (envOfC qual scope s.heap.objs.size f cdv)) → (callerA.deeper (envOfC qual scope s.heap.objs.size f cdv)).guards = some [] → sp [.ref a] H Q E →
      ∃ t, PSs (cxOf CX P w K mg base N qual scope f cdv callerA [] s H E) body t ∧ t { nx := fun _ H' => Q .non H', rt := Q } (start N [.ref a]) H) :
    RunA P w K mg base CX f (PySem.W.fnOf name qual params body scope dV kV doc pm an cdv ct) x sp := by
  intro s H a Q E e0 hb hsp
  have KX : K.In s.heap := e0.mod.kin.keeps fun b o e => (e0.bs b o e).1
  have lim : s.heap.NoLimit := e0.mod.nolimit.keeps fun b o e => (e0.bs b o e).1
  have hz : ([x].zip [Value.ref a]) = [(x, .ref a)] := rfl
  have hkind : ∀ y ∈ [(x, Value.ref a)], scope.names.lookup y.1 = some .local ∨ (scope.names.lookup y.1 = some .cell ∧ ((cellsFrom (s.heap.objs.size + 1) scope.names []).lookup y.1).isSome = true) := fun y hy => by
    rw [List.mem_singleton.mp hy]
    rcases S.par x List.mem_cons_self with q | q
    · exact .inl q
    · exact .inr ⟨q, PySem.W.cellsFrom_some _ _ _ (.inl q)⟩
  refine codeAny_call_function hr.depth (KX _ _ lk) rfl S.co S.gen rfl (PySem.W.codeRec_of KX hcd) (hb _ _ _ _ ?_)
  refine wpAny_newFunctionEnv_cells S.kind hkind fun env he s1 z => ?_
  subst he
  refine ⟨lim.keeps z.toInCall.keep, codeAny_func ?_⟩
  obtain ⟨t, ht, hq⟩ := hbody s H a Q E (hr.deeper _) rfl hsp
  have I : Inv (cxOf CX P w K mg base N qual scope f cdv callerA [] s H E) [] (start N [.ref a]) H s1 := inv_start (us := [.ref a]) S hr.hd e0 rfl (.cons rfl .nil) z
  refine wpAny_mono (ht.run [] s1 (start N [.ref a]) H _ I hq) (fun fl s' hs => ?_) fun e s' hs => hs
  cases fl with
  | ret u =>
    obtain ⟨v, σ', H', J, rv, q⟩ := hs
    exact ⟨v, H', J.os, J.bare, J.base, J.hok, rv, q⟩
  | next =>
    obtain ⟨σ', H', J, q⟩ := hs
    exact ⟨.non, H', J.os, J.bare, J.base, J.hok, rfl, q⟩
  | brk =>
    obtain ⟨_, _, _, q⟩ := hs
    exact False.elim q
  | cont =>
    obtain ⟨_, _, _, q⟩ := hs
    exact False.elim q
end K14
/-! two clauses 'except X as n' of which one takes whatever comes -/
namespace K14
open PySem PySem.Spec PyProof.Rows L2
/-- the clause's suite, its name gone behind it -/
def dAs (i : Nat) (D : Ends) : Ends := { nx := fun σ' H' => D.nx (σ'.set i none) H', rt := D.rt, bk := fun σ' H' => D.bk (σ'.set i none) H', ct := fun σ' H' => D.ct (σ'.set i none) H' }
def wAs2 (K : PySem.W.Frag) (c₁ c₂ : Value) (i : Nat) (t₁ t₂ : Addr → Value → Option Addr → TS) (D : Ends) : WX := fun cls d σ H =>
  ∃ b, PySem.W.exmOne K cls c₁ = some b ∧ (b = true → ∀ a, H a = none → t₁ a cls d (dAs i D) (σ.set i (some (.ref a))) H) ∧
    (b = false → PySem.W.exmOne K cls c₂ = some true ∧ ∀ a, H a = none → t₂ a cls d (dAs i D) (σ.set i (some (.ref a))) H)
section
variable {X : Cx} {x₁ x₂ n : Str} {c₁ c₂ : Value} {i : Nat} {body s₁ s₂ : List Stmt} {b₁ b₂ : Stmt} {p₁ p₂ pos q₁ q₂ : Pos} {tb : WX → TS} {t₁ t₂ : Addr → Value → Option Addr → TS}
theorem ps_try_as2 (hs : X.stack = X.env :: X.outer) (hf : X.env.frame = some X.env.locals) (hN : X.N.Nodup) (hi : X.N[i]? = some n) (hln : X.env.kindOf n = some .local) (hc₁ : Names X x₁ c₁) (hc₂ : Names X x₂ c₂)
    (hb : ∀ (W : WX) (pn : List (Addr × Obj)) (xe : Value → Shared → Prop), Takes (X.tr pn xe) W → PassesOwn (model X.prog X.w) X.A X.env xe → PSs (X.tr pn xe) body (tb W))
    (h₁ : ∀ (a : Addr) (oe : Obj) (cls : Value) (d : Option Addr) (pn : List (Addr × Obj)), Zc cls d oe → (∃ vs, oe.data = .fields vs) → PSs (X.suite a ((a, oe) :: pn)) (b₁ :: s₁) (t₁ a cls d))
    (h₂ : ∀ (a : Addr) (oe : Obj) (cls : Value) (d : Option Addr) (pn : List (Addr × Obj)), Zc cls d oe → (∃ vs, oe.data = .fields vs) → PSs (X.suite a ((a, oe) :: pn)) (b₂ :: s₂) (t₂ a cls d)) :
    PS X (.Try body [.ExceptHandler (some (.Name x₁ p₁)) (some n) (b₁ :: s₁) q₁, .ExceptHandler (some (.Name x₂ p₂)) (some n) (b₂ :: s₂) q₂] [] [] pos) (fun D σ H => tb (wAs2 X.K c₁ c₂ i t₁ t₂ D) D σ H) := by
  refine ⟨fun pins s σ H D I h => ?_⟩
  have ok := I.ok
  have hfr : X.A.frames = some (X.env :: X.outer) := by rw [ok.frames, hs]
  have hloc : Loc X.env.scope n := .inl hln
  refine wpAny_Try_except ?_
  refine wpAny_mono ((hb (wAs2 X.K c₁ c₂ i t₁ t₂ D) (X.pn ++ pins) (fun e z₁ => wpAny (model X.prog X.w) X.A (noteFrame e X.env) (fun _ z₂ => wpAny (model X.prog X.w) X.A (setFlight e none) (fun _ z₃ =>
    wpAny (model X.prog X.w) X.A (handleBy e X.env [.ExceptHandler (some (.Name x₁ p₁)) (some n) (b₁ :: s₁) q₁, .ExceptHandler (some (.Name x₂ p₂)) (some n) (b₂ :: s₂) q₂]) (SP X pins D) X.xe z₃) X.xe z₂) X.xe z₁) (fun u s' xx => ?_) PassesOwn.looking).run [] s σ H D (I.toTry _) h) (fun f s1 hsp => ?_) (fun e s1 he => he)
  · obtain ⟨a, B, sI, pins', σ', H', cls, d, rfl, J', nb, up, sky, na, os, ag, b, hb1, hyes, hno⟩ := xx
    have J : Inv X pins σ' H' sI := J'.ofTry ok
    have sky' : Sky B (X.env :: X.outer) a (Zc cls d) X.env.locals s'.heap := by rw [← hs]; exact sky
    show wpAny _ X.A (noteFrame (.ref a) X.env) _ _ _
    refine Sky.land Zc.steady hfr hf sky' fun h3 fl3 up3 => ?_
    have J3 : Inv X pins σ' H' { s' with heap := h3 } := J.landed nb fl3.1 (up.trans up3) os ag
    obtain ⟨oe3, vs3, he3, hz3, hd3⟩ := fl3.there
    have notFr : ∀ {h : Heap} {o : Obj} {vs : Array Value}, h.FunFrames B (X.env :: X.outer) → h.get? a = some o → o.data = .fields vs → a ∉ frs (X.env :: X.outer) := fun {h o vs} ff e dd hm => by
      obtain ⟨_, o', e', hnf⟩ := ff.mem hm
      rw [e] at e'; cases e'
      exact hnf _ dd
    have nfr := notFr fl3.2.2.1 he3 hd3
    have nL : a ≠ X.env.locals := fun z => nfr (List.mem_filterMap.mpr ⟨X.env, List.mem_cons_self, by rw [hf, z]⟩)
    have nF : a ∉ X.fs := fun hm => by
      obtain ⟨e, he, q⟩ := List.mem_filterMap.mp hm
      exact nfr (List.mem_filterMap.mpr ⟨e, List.mem_cons_of_mem _ he, q⟩)
    have S3 := J3.suite he3 hd3 na nL nF
    have LT : PySem.W.Looks (model X.prog X.w) h3 (typeOf (.ref a)) cls := fun A Q E s k q => wpAny_typeOf_ref (k _ _ he3) (by rw [hz3.1]; exact q)
    have test : ∀ {x : Str} {c : Value} {np : Pos}, Names X x c → ∀ {Q : Value → Shared → Prop} {E : Value → Shared → Prop}, Q c { s' with heap := h3 } → wpAny (model X.prog X.w) (X.A.mark (some (.ref a))) (eval (.Name x np) X.env) Q E { s' with heap := h3 } := fun {x c np} hc {Q E} q => by
      obtain ⟨hg, hdbg, hm | ⟨hm, hv, hnn⟩⟩ := hc
      · exact ld_glob (X := X.suite a ((a, oe3) :: (X.pn ++ pins))) S3 hg hm q hdbg
      · exact ld_blt (X := X.suite a ((a, oe3) :: (X.pn ++ pins))) S3 hg hm hv q hnn hdbg
    refine wpAny_handleBy_cons (codeAny_handlers_test ?_) (by intro q; cases q)
    refine test hc₁ ((PySem.W.exm_one (M := model X.prog X.w) (J3.kIn) LT hb1).here ?_)
    cases b with
    | true =>
      refine codeAny_handlers_suite_as ?_
      refine HandSPX.lands_againZ fl3 fun h4 fl4 up4 => ?_
      have J4 : Inv X pins σ' H' { s' with heap := h4 } := J.landed nb fl4.1 ((up.trans up3).trans up4) os ag
      obtain ⟨oe4, vs4, he4, hz4, hd4⟩ := fl4.there
      have S4 := J4.suite he4 hd4 na nL nF
      refine store_ok (X := X.suite a ((a, oe4) :: (X.pn ++ pins))) (v := .ref a) S4 hN hi hloc rfl (fun s5 S5 => ?_) (.inr hln)
      refine wpAny_mono ((h₁ a oe4 cls d (X.pn ++ pins) hz4 ⟨_, hd4⟩).run [] s5 _ H' _ S5 (hyes rfl a na)) (fun f s6 hsp => ?_) (fun _ _ z => False.elim z)
      cases f with
      | next => obtain ⟨σ6, H6, S6, q6⟩ := hsp; exact gone_ok (S6.unsuite ok) hN hi hln fun s7 J7 => ⟨_, _, J7, q6⟩
      | brk => obtain ⟨σ6, H6, S6, q6⟩ := hsp; exact gone_ok (S6.unsuite ok) hN hi hln fun s7 J7 => ⟨_, _, J7, q6⟩
      | cont => obtain ⟨σ6, H6, S6, q6⟩ := hsp; exact gone_ok (S6.unsuite ok) hN hi hln fun s7 J7 => ⟨_, _, J7, q6⟩
      | ret u => obtain ⟨v6, σ6, H6, S6, r6, q6⟩ := hsp; exact gone_ok (S6.unsuite ok) hN hi hln fun s7 J7 => ⟨_, _, _, J7, r6, q6⟩
    | false =>
      obtain ⟨hb2, hyes2⟩ := hno rfl
      refine wpAny_handleBy_cons (codeAny_handlers_test ?_) (by intro q; cases q)
      refine test hc₂ ((PySem.W.exm_one (M := model X.prog X.w) (J3.kIn) LT hb2).here ?_)
      refine codeAny_handlers_suite_as ?_
      refine HandSPX.lands_againZ fl3 fun h4 fl4 up4 => ?_
      have J4 : Inv X pins σ' H' { s' with heap := h4 } := J.landed nb fl4.1 ((up.trans up3).trans up4) os ag
      obtain ⟨oe4, vs4, he4, hz4, hd4⟩ := fl4.there
      have S4 := J4.suite he4 hd4 na nL nF
      refine store_ok (X := X.suite a ((a, oe4) :: (X.pn ++ pins))) (v := .ref a) S4 hN hi hloc rfl (fun s5 S5 => ?_) (.inr hln)
      refine wpAny_mono ((h₂ a oe4 cls d (X.pn ++ pins) hz4 ⟨_, hd4⟩).run [] s5 _ H' _ S5 (hyes2 a na)) (fun f s6 hsp => ?_) (fun _ _ z => False.elim z)
      cases f with
      | next => obtain ⟨σ6, H6, S6, q6⟩ := hsp; exact gone_ok (S6.unsuite ok) hN hi hln fun s7 J7 => ⟨_, _, J7, q6⟩
      | brk => obtain ⟨σ6, H6, S6, q6⟩ := hsp; exact gone_ok (S6.unsuite ok) hN hi hln fun s7 J7 => ⟨_, _, J7, q6⟩
      | cont => obtain ⟨σ6, H6, S6, q6⟩ := hsp; exact gone_ok (S6.unsuite ok) hN hi hln fun s7 J7 => ⟨_, _, J7, q6⟩
      | ret u => obtain ⟨v6, σ6, H6, S6, r6, q6⟩ := hsp; exact gone_ok (S6.unsuite ok) hN hi hln fun s7 J7 => ⟨_, _, _, J7, r6, q6⟩
  · cases f with
    | next =>
      obtain ⟨σ', H', J', q⟩ := hsp
      exact wpAny_execs_nil ⟨σ', H', J'.ofTry ok, q⟩
    | brk =>
      obtain ⟨σ', H', J', q⟩ := hsp
      exact ⟨σ', H', J'.ofTry ok, q⟩
    | cont =>
      obtain ⟨σ', H', J', q⟩ := hsp
      exact ⟨σ', H', J'.ofTry ok, q⟩
    | ret u =>
      obtain ⟨v, σ', H', J', r, q⟩ := hsp
      exact ⟨v, σ', H', J'.ofTry ok, r, q⟩
end
end K14
/-! repr of a tuple of bits -/
namespace K14
open PySem PySem.Spec PyProof.Rows L2
def bitT (n : Nat) : Str := ((toString (n : Int) : String) : Str)
theorem bits_repr {prog : Program} {w : World} : ∀ {ns : List Nat} {its : List Value}, Vals (ns.map nV) its → (∀ n ∈ ns, n < 2) → ReprAll prog w its (ns.map bitT)
  | [], _, r, _ => by
    cases r
    exact .nil
  | n :: ns, _, r, h => by
    cases r with
    | cons r1 r2 =>
      obtain ⟨t, rfl⟩ := r1
      refine .cons (ReprIs.int t ?_) (bits_repr r2 fun z hz => h z (List.mem_cons_of_mem _ hz))
      have h2 := h n List.mem_cons_self
      have h3 : n = 0 ∨ n = 1 := by omega
      rcases h3 with z | z <;> rw [z] <;> decide +kernel
section
variable {X : Cx}
theorem call_repr_tup {k : Nat} (hr : Room k X.A) (hg : X.A.guards = some []) : CallR X (.builtin "repr") (fun xs H Q => ∃ (a : Addr) (ns : List Nat), xs = [.ref a] ∧ SqT X.K H a (ns.map nV) ∧ (∀ n ∈ ns, n < 2) ∧ (tupleText (ns.map bitT)).length ≤ sizeLine ∧ Q (.str (tupleText (ns.map bitT))) H) := by
  intro pins s σ H xs us Q I r h
  obtain ⟨a, ns, rfl, ht, hb, hz, q⟩ := h
  obtain ⟨u, rfl, rx⟩ := vals1 r
  cases rx
  obtain ⟨its, rv, ⟨o, ho, hcl, n, hd⟩, _⟩ := I.tuple ht
  have hu := hr.units
  exact call_repr_slot (by omega) ⟨o, ho, hcl⟩ F.slot_tuple_repr (call_tuple_repr ⟨o, ho, hcl⟩ hg (fun c m => nomatch m) ho hd (bits_repr rv hb) (fun u tk => ⟨_, _, rfl, ⟨.str (tupleText (ns.map bitT)), H, I.tok _, ⟨_, rfl⟩, q⟩⟩) hz)
end
end K14
/-! != of two tuples, item by item -/
namespace K14
open PySem PySem.Spec PyProof.Rows L2
/-- how two items compare -/
inductive EqC (K : PySem.W.Frag) (H : Hp) : V → V → Bool → Prop
  | flat {x y : V} : flatV x = true → flatV y = true → EqC K H x y (eqV x y)
  | same (a : Addr) : EqC K H (.ref a) (.ref a) true
  | non : EqC K H .non .non true
  | ti {a : Addr} {xs : List V} {i : Int} : SqT K H a xs → EqC K H (.ref a) (.int i) false
inductive EqCs (K : PySem.W.Frag) (H : Hp) : List V → List V → List Bool → Prop
  | nil : EqCs K H [] [] []
  | nl {y : V} {ys : List V} : EqCs K H [] (y :: ys) []
  | nr {x : V} {xs : List V} : EqCs K H (x :: xs) [] []
  | cons {x y : V} {b : Bool} {xs ys : List V} {bs : List Bool} : EqC K H x y b → EqCs K H xs ys bs → EqCs K H (x :: xs) (y :: ys) (b :: bs)
theorem EqCs.len {K : PySem.W.Frag} {H : Hp} {xs ys : List V} {bs : List Bool} (h : EqCs K H xs ys bs) : bs.length = min xs.length ys.length := by
  induction h with
  | nil => rfl
  | nl => simp
  | nr => simp
  | cons _ _ ih => simp only [List.length_cons, ih]; omega
section
variable {X : Cx} {pins : List (Addr × Obj)} {σ : L2.St} {H : Hp} {s : Shared}
theorem eqC_run (I : Inv X pins σ H s) {A : Around} (hu : A.units < cLine) {x y : V} {b : Bool} {u v : Value} (h : EqC X.K H x y b) (rx : RelV x u) (ry : RelV y v) : SeqAt.EqAt A s u v b := by
  cases h with
  | flat fx fy => exact eqAt_V rx ry fx fy
  | same a =>
    cases (show u = Value.ref a from rx)
    cases (show v = Value.ref a from ry)
    exact SeqAt.EqAt.same _
  | non =>
    cases rx
    cases ry
    exact SeqAt.EqAt.same _
  | ti ht =>
    rename_i a xs i
    cases (show u = Value.ref a from rx)
    obtain ⟨t, rfl⟩ := ry
    obtain ⟨us, _, p1, _⟩ := I.tuple ht
    exact SeqAt.EqAt.tuple_int i t p1 hu
theorem eqCs_run (I : Inv X pins σ H s) {A : Around} (hu : A.units < cLine) {xs ys : List V} {bs : List Bool} (h : EqCs X.K H xs ys bs) : ∀ {us vs : List Value}, Vals xs us → Vals ys vs → ∀ j (h1 : j < us.length) (h2 : j < vs.length), SeqAt.EqAt A s us[j] vs[j] (bs.getD j true) := by
  induction h with
  | nil => intro us vs r1 r2 j h1 h2; cases r1; exact absurd h1 (Nat.not_lt_zero j)
  | nl => intro us vs r1 r2 j h1 h2; cases r1; exact absurd h1 (Nat.not_lt_zero j)
  | nr => intro us vs r1 r2 j h1 h2; cases r2; exact absurd h2 (Nat.not_lt_zero j)
  | cons h _ k =>
    intro us vs r1 r2 j h1 h2
    cases r1 with
    | cons a1 b1 =>
      cases r2 with
      | cons a2 b2 =>
        cases j with
        | zero => exact eqC_run I hu h a1 a2
        | succ j => exact k b1 b2 j (Nat.lt_of_succ_lt_succ h1) (Nat.lt_of_succ_lt_succ h2)
theorem range_all_getD : ∀ bs : List Bool, ((List.range bs.length).all fun j => bs.getD j true) = bs.all id
  | [] => rfl
  | b :: bs => by
    rw [List.length_cons, List.range_succ_eq_map, List.all_cons, List.all_map, List.all_cons, ← range_all_getD bs]
    rfl
end
/-- a != b, two tuples -/
def rNeT (K : PySem.W.Frag) : R2 := fun x y H Q => ∃ (a b : Addr) (xs ys : List V) (bs : List Bool), x = .ref a ∧ y = .ref b ∧ SqT K H a xs ∧ SqT K H b ys ∧ EqCs K H xs ys bs ∧ Q (.bl (!(bs.all id && xs.length == ys.length))) H
theorem op_neT {X : Cx} (hu : X.A.units + 64 < cLine) : OpR X (compareOp .NotEq) (rNeT X.K) := by
  intro pins s σ H x y v u Q I rx ry h
  obtain ⟨a, b, xs, ys, bs, rfl, rfl, ha, hb, hc, q⟩ := h
  cases (show v = Value.ref a from rx)
  cases (show u = Value.ref b from ry)
  obtain ⟨us, r1, p1, _⟩ := I.tuple ha
  obtain ⟨ws, r2, p2, _⟩ := I.tuple hb
  refine SeqAt.RcNeAt.tuples (e := fun j => bs.getD j true) p1 p2 (by omega) (fun j h1 h2 => ?_) X.prog X.w _ _ ?_
  · have k := eqCs_run I (A := X.A.in1) (by show X.A.units + 1 < cLine; omega) hc r1 r2 j (by simpa using h1) (by simpa using h2)
    simpa using k
  · have e1 : us.toArray.size = xs.length := by rw [List.size_toArray]; exact r1.length.symm
    have e2 : ws.toArray.size = ys.length := by rw [List.size_toArray]; exact r2.length.symm
    rw [e1, e2, ← hc.len, range_all_getD]
    exact ⟨.bl _, H, I, rfl, q⟩
theorem op_neTK {X : Cx} {K : PySem.W.Frag} (h : X.K = K) (hu : X.A.units + 64 < cLine) : OpR X (compareOp .NotEq) (rNeT K) := by
  subst h
  exact op_neT hu
end K14
set_option maxHeartbeats 200000
/-! the leaves in another order are a design still -/
namespace K14
open PySem PySem.Spec PyProof.Rows L2
theorem lwd_perm {A A' : List It0} (p : A.Perm A') (hn : (A.map It0.nm).Nodup) : lwd A' = lwd A := by
  unfold lwd
  exact (foldU_perm _ (p.map _) (by rw [nm_map]; exact hn)).symm
theorem namedL_perm {a b : List It0} (p : a.Perm b) : (namedL a).Perm (namedL b) := by
  unfold namedL
  exact p.filterMap _
theorem Design.perm {A A' B : List It0} (d : Design A B) (p : A.Perm A') : Design A' B := by
  have pa : (A ++ B).Perm (A' ++ B) := p.append_right B
  have hl := lwd_perm p d.nod
  have hm : ∀ {it : It0}, it ∈ A' → it ∈ A := fun h => p.mem_iff.mpr h
  refine ⟨fun it m => d.la it (hm m), d.rb, ?_, ?_, ?_, fun it m => d.pos it (pa.mem_iff.mpr m), ?_, fun x w r m => d.rst x w r (hm m), ?_, fun x e m => ?_, d.nxu, ?_⟩
  · rw [← pa.length_eq]; exact d.few
  · exact (List.Perm.nodup_iff (p.map _)).mp d.nod
  · rw [hl]; exact d.seq
  · have : sizes (A' ++ B) = sizes (A ++ B) := by unfold sizes; exact ((pa.map _).sum_nat).symm
    rw [this]; exact d.small
  · have : (wI A').sum = (wI A).sum := by
      unfold wI
      unfold sel
      exact (((p.filterMap _).map _).sum_nat).symm
    rw [this]; exact d.sumI
  · obtain ⟨w, r, h1, h2⟩ := d.nxr x e m
    exact ⟨w, r, p.mem_iff.mp h1, by rw [hl]; exact h2⟩
  · exact (List.Perm.nodup_iff ((namedL_perm pa).map _)).mp d.names
theorem NoOdd.perm {A A' B : List It0} (h : NoOdd (A ++ B)) (p : A.Perm A') : NoOdd (A' ++ B) := fun x m =>
  h x (((namedL_perm (p.append_right B)).map _).mem_iff.mpr m)
theorem ok_perm {A A' B : List It0} {x : Str × Nat} (h : x ∈ namedL (A ++ B)) (p : A.Perm A') : x ∈ namedL (A' ++ B) := (namedL_perm (p.append_right B)).mem_iff.mp h
end K14
set_option maxHeartbeats 8000000
/-! law: its context, blocks shown one by one -/
namespace K14
open PySem PySem.Spec PyProof.Rows L2
abbrev nm_law : List Str := ["_law_script", "_law_pen_here", "_law_lap", "_law_design", "_law_regs", "_law_rest", "_law_inputs", "_law_registers", "_law_named", "_law_wish", "_law_told", "_law_own_here", "_law_state", "_law_rows", "_law_turn", "_law_right", "_law_drawn", "_law_wide", "_law_faults", "_law_odd", "_law_bad", "e", "_law_item", "_law_name", "_law_width"]
theorem sc_law : FnScope nm_law ["_law_script"] (C8.fnScope (st 61)) := C8.fnScope_by (by decide +kernel)
def forBody : Stmt → List Stmt
  | .For (body := b) .. => b
  | _ => []
def lawB : List Stmt := C8.fnBody (st 61)
def lapB : List Stmt := forBody (lawB.getD 1 (.Pass ⟨0, 0, 0, 0⟩))
def turnB : List Stmt := forBody (lapB.getD 12 (.Pass ⟨0, 0, 0, 0⟩))
def badB : List Stmt := forBody (lapB.getD 15 (.Pass ⟨0, 0, 0, 0⟩))
/-- a block runs, from these slots and this heap, to what is wanted -/
def Goes (X : Cx) (ss : List Stmt) : TS := fun D σ H => ∃ t, PSs X ss t ∧ t D σ H
theorem pss_later {X : Cx} {ss : List Stmt} : PSs X ss (Goes X ss) := ⟨fun pins s σ H D I ⟨_, h, q⟩ => h.run pins s σ H D I q⟩
abbrev XL (P : Program) (w : World) (K : PySem.W.Frag) (mg : Str → Option Value) (base : Heap) (f : Addr) (cdv : Value) (s0 : Shared) (H0 : Hp) (E : XK) : Cx := (cxOf (L2.CX P w) P w K mg base nm_law "law" (C8.fnScope (st 61)) f cdv callerA [] s0 H0 E).nox
/-- a list against the empty one -/
def rNeLN (K : PySem.W.Frag) : R2 := fun x y H Q => ∃ (a b : Addr) (xs : List V), x = .ref a ∧ y = .ref b ∧ SqL K H a xs ∧ SqL K H b [] ∧ Q (.bl (!xs.isEmpty)) H
theorem op_neLN {X : Cx} (hu : X.A.units + 1 < cLine) : OpR X (compareOp .NotEq) (rNeLN X.K) := by
  intro pins s σ H x y v u Q I rx ry h
  obtain ⟨a, b, xs, rfl, rfl, ha, hb, q⟩ := h
  cases (show v = Value.ref a from rx)
  cases (show u = Value.ref b from ry)
  obtain ⟨us, r1, p1, _⟩ := I.list ha
  obtain ⟨ws, r2, p2, _⟩ := I.list hb
  cases r2
  cases r1 with
  | nil => exact SeqAt.RcNeAt.lists (e := fun _ => true) p1.isList p2.isList rfl (by omega) (fun j h1 h2 => absurd h1 (Nat.not_lt_zero j)) X.prog X.w _ _ ⟨.bl false, H, I, rfl, q⟩
  | cons r0 r1 =>
    refine SeqAt.RcNeAt.lists_lengths p1.isList p2.isList ?_ (by omega) X.prog X.w _ _ ⟨.bl true, H, I, rfl, q⟩
    simp
theorem passF {X : Cx} {σ : L2.St} : PassesAt (L2.CX X.prog X.w) X σ (fun _ _ _ => False) := fun _ _ _ _ _ _ ⟨_, _, _, _, _, _, _, _, _, _, _, _, z⟩ => z.elim
/-- the end of a lap -/
def LapEnd (D : Ends) (s p L : Addr) (c : Nat) : Prop := ∀ (rest : List (Option V)) (H : Hp) (c' : Nat), rest.length = 23 → PenAt H p L c' → c' ≤ c → D.nx (some (.ref s) :: some (.ref p) :: rest) H
end K14
/-! law: a lap's design -/
namespace K14
open PySem PySem.Spec PyProof.Rows L2
section
variable {P : Program} {w : World} {K : PySem.W.Frag} {mg : Str → Option Value} {base : Heap} {f : Addr} {cdv : Value} {s0 : Shared} {H0 : Hp} {E : XK}
/-- the design as drawn -/
theorem lap1 (T : Top K mg) (hr : Room 26 (XL P w K mg base f cdv s0 H0 E).A) {D : Ends} {H : Hp} {s p L : Addr} {c : Nat} {x2 x3 x4 x5 x6 x7 x8 x9 x10 x11 x12 x13 x14 x15 x16 x17 x18 x19 x20 x21 x22 x23 x24 : Option V} (hP : PenAt H p L c) (hc : c + 5000 ≤ maxDraws)
    (hn : ∀ H' D0 nm A B c', PSt H H' p L c' → c' ≤ c + 4030 → DsAt K H' D0 nm (A ++ B) → Design A B → (("ok" : Str), 1) ∈ namedL (A ++ B) → NoOdd (A ++ B) → Goes (XL P w K mg base f cdv s0 H0 E) (lapB.drop 2) D [some (.ref s), some (.ref p), x2, some (.ref D0), x4, x5, x6, x7, x8, x9, x10, x11, x12, x13, x14, x15, x16, x17, x18, x19, x20, x21, x22, x23, x24] H') :
    Goes (XL P w K mg base f cdv s0 H0 E) lapB D [some (.ref s), some (.ref p), x2, x3, x4, x5, x6, x7, x8, x9, x10, x11, x12, x13, x14, x15, x16, x17, x18, x19, x20, x21, x22, x23, x24] H := by
  have hu := hu_of hr
  refine ⟨_, (pss_cons (ps_set (i := 3) sc_law.nd rfl (Or.inl rfl) (pe_tup (pa_cons (C8.pe_c (cal_law_drawn_module T) hr (by decide) rfl (pa_cons (pv 1) (pa_cons pe_str (pa_cons (pe_op op_add pe_int (C8.pe_c (cal_law_draw T) hr (by decide) rfl (pa_cons (pv 1) (pa_cons pe_int pa_nil)))) (pa_cons (C8.pe_c (cal_law_draw T) hr (by decide) rfl (pa_cons (pv 1) (pa_cons pe_int pa_nil))) (pa_cons pe_int (pa_cons (pe_lst pa_nil) (pa_cons pe_bl pa_nil)))))))) pa_nil)))
      (pss_cons (ps_set (i := 3) sc_law.nd rfl (Or.inl rfl) (C8.pe_c (cal_law_pick T) hr (by decide) rfl (pa_cons (pv 1) (pa_cons (pe_lst (pa_cons (pv 3) (pa_cons (pv 3) (pa_cons (pe_ix ix_tup (C8.pe_c (cal_law_counter T) hr (by decide) rfl (pa_cons (pv 1) pa_nil)) pe_int (fun _ _ => rfl)) (pa_cons (pe_ix ix_tup (C8.pe_c (cal_law_lock T) hr (by decide) rfl (pa_cons (pv 1) pa_nil)) pe_int (fun _ _ => rfl)) pa_nil))))) pa_nil))))
      pss_later)), ?_⟩
  have hc9 : maxDraws = 1000000 := rfl
  refine ⟨_, rfl, _, rfl, p, L, c, 3, rfl, hP, by omega, by decide, by decide, fun H1 d1 k1 P1 hd1 => ⟨_, _, rfl, rfl, _, rfl, p, L, c + 1, 5, rfl, P1, by omega, by decide, by decide, fun H2 d2 k2 P2 hd2 => ⟨(by show 0 ≤ sizeLine; decide), fun l nl => ?_⟩⟩⟩
  have e1 : (1 : Int) + (d1 : Int) = ((1 + d1 : Nat) : Int) := by omega
  dsimp only
  rw [e1]
  have S2 := ((PSt.refl hP).step k1 P1).step k2 P2
  have S3 := S2.new nl (o := .lst [])
  refine ⟨p, L, c + 1 + 1, "flat", 1 + d1, d2, l, rfl, S3.at_, by omega, upd_same, by omega, by omega, by omega, fun H3 M I A B c3 Q3 hc3 hM hD hok hno => ⟨(by show 1 ≤ sizeLine; decide), fun t nt => ?_⟩⟩
  have S4 := S3.trans Q3
  have S5 := S4.new nt (o := .tup [.ref M])
  have hD0 : DsAt K (upd H3 t (.tup [.ref M])) t "flat" (A ++ B) := ⟨M, I, SqT.of upd_same, hM.kp (Kp.refl.new nt (S := []))⟩
  generalize upd H3 t (.tup [.ref M]) = H4 at S5 hD0
  refine ⟨_, rfl, _, rfl, _, rfl, _, rfl, p, L, c3, rfl, S5.at_, by omega, fun H5 tc Dc y A2 B2 c5 Q5 hc5 ht5 hD5 hd5 hok5 hno5 => ?_⟩
  refine ⟨_, _, _, _, rfl, rfl, ht5, atI_nat (j := 0) rfl, ?_⟩
  refine ⟨_, rfl, p, L, c5, rfl, Q5.at_, by omega, fun H6 tl Dl y6 A6 B6 c6 Q6 hc6 ht6 hD6 hd6 hok6 hno6 => ?_⟩
  refine ⟨_, _, _, _, rfl, rfl, ht6, atI_nat (j := 0) rfl, ?_⟩
  refine ⟨(by show 4 ≤ sizeLine; decide), fun l7 nl7 => ?_⟩
  have S7 := ((S5.trans Q5).trans Q6).new nl7 (o := .lst [.ref t, .ref t, .ref Dc, .ref Dl])
  have k7 := Kp.refl.new nl7 (S := []) (o := .lst [.ref t, .ref t, .ref Dc, .ref Dl])
  have m0 : DsAt K (upd H6 l7 (.lst [.ref t, .ref t, .ref Dc, .ref Dl])) t "flat" (A ++ B) := ((hD0.kp Q5.kp).kp Q6.kp).kp k7
  have m1 : DsAt K (upd H6 l7 (.lst [.ref t, .ref t, .ref Dc, .ref Dl])) Dc "top" (A2 ++ B2) := (hD5.kp Q6.kp).kp k7
  have m2 : DsAt K (upd H6 l7 (.lst [.ref t, .ref t, .ref Dc, .ref Dl])) Dl "top" (A6 ++ B6) := hD6.kp k7
  refine ⟨p, L, c6, l7, _, rfl, S7.at_, by omega, upd_same, (by show 0 < 4; decide), (by show 4 ≤ 1000000; decide), fun H8 y8 k8 P8 hm => ?_⟩
  have S8 := S7.step k8 P8
  have m3 : y8 = .ref t ∨ y8 = .ref Dc ∨ y8 = .ref Dl := by
    simp only [List.mem_cons, List.not_mem_nil, or_false] at hm
    rcases hm with z | z | z | z
    · exact .inl z
    · exact .inl z
    · exact .inr (.inl z)
    · exact .inr (.inr z)
  rcases m3 with rfl | rfl | rfl
  · exact hn _ _ _ _ _ _ S8 (by omega) (m0.kp k8) hD hok hno
  · exact hn _ _ _ _ _ _ S8 (by omega) (m1.kp k8) hd5 hok5 hno5
  · exact hn _ _ _ _ _ _ S8 (by omega) (m2.kp k8) hd6 hok6 hno6
end
end K14
set_option maxHeartbeats 200000
/-! the first register moved to the front -/
namespace K14
open PySem PySem.Spec PyProof.Rows L2
/-- the item is the register named x -/
def isR (x : Str) (it : It0) : Bool := decide (it.kd = "reg") && decide (it.nm = x)
theorem isR_reg {x : Str} {it : It0} (h : isR x it = true) : it.isReg = true ∧ it.nm = x := by
  unfold isR at h
  obtain ⟨a, b⟩ := Bool.and_eq_true_iff.mp h
  exact ⟨(reg_kd it).mpr (of_decide_eq_true a), of_decide_eq_true b⟩
theorem isR_of {x : Str} {it : It0} (h1 : it.kd = "reg") (h2 : it.nm = x) : isR x it = true := by
  unfold isR; rw [decide_eq_true h1, decide_eq_true h2]; rfl
theorem isR_not {x : Str} {it : It0} (h : ¬ (it.kd = "reg" ∧ it.nm = x)) : isR x it = false := by
  unfold isR
  by_cases h1 : it.kd = "reg"
  · rw [decide_eq_false (fun z => h ⟨h1, z⟩), Bool.and_false]
  · rw [decide_eq_false h1, Bool.false_and]
theorem filter_no {α : Type} {p : α → Bool} : ∀ {l : List α}, (∀ a ∈ l, p a = false) → l.filter p = []
  | [], _ => rfl
  | a :: l, h => by
    rw [List.filter_cons_of_neg (by rw [h a List.mem_cons_self]; decide)]
    exact filter_no fun b m => h b (List.mem_cons_of_mem _ m)
theorem filter_yes {α : Type} {p : α → Bool} {l : List α} (h : ∀ a ∈ l, p a = true) : l.filter p = l := List.filter_eq_self.mpr h
/-- in a list of leaves of different names one is the register named x -/
theorem filter_isR : ∀ {A : List It0} {r : It0}, (A.map It0.nm).Nodup → r ∈ A → isR r.nm r = true → A.filter (isR r.nm) = [r]
  | [], r, _, m, _ => nomatch m
  | a :: A, r, hn, m, h => by
    rw [List.map_cons, List.nodup_cons] at hn
    rcases List.mem_cons.mp m with z | z
    · subst z
      rw [List.filter_cons_of_pos h, filter_no fun b mb => ?_]
      exact isR_not fun ⟨_, e⟩ => hn.1 (by rw [← e]; exact List.mem_map_of_mem mb)
    · have ne : ¬ a.nm = r.nm := fun e => hn.1 (by rw [e]; exact List.mem_map_of_mem z)
      rw [List.filter_cons_of_neg (by rw [isR_not fun ⟨_, e⟩ => ne e]; decide)]
      exact filter_isR hn.2 z h
theorem perm_front {A : List It0} {r : It0} (hn : (A.map It0.nm).Nodup) (m : r ∈ A) (h : isR r.nm r = true) : A.Perm (r :: A.filter fun it => !isR r.nm it) := by
  have e := filter_isR hn m h
  have p := List.filter_append_perm (isR r.nm) A
  rw [e] at p
  exact p.symm
theorem rest_front {A B : List It0} {x : Str} (hb : Rest B) : (A ++ B).filter (fun it => !isR x it) = A.filter (fun it => !isR x it) ++ B := by
  rw [List.filter_append]
  congr 1
  refine filter_yes fun it m => ?_
  have z : ¬ (it.kd = "reg" ∧ it.nm = x) := fun ⟨e, _⟩ => by
    have h1 := (hb it m).2
    rw [(reg_kd it).mpr e] at h1
    cases h1
  rw [isR_not z]
  decide
section
variable {K : PySem.W.Frag} {H : Hp}
theorem exAt_tup {e : Ex} {v : V} (h : ExAt K H e v) : ∃ p xs, v = .ref p ∧ SqT K H p xs := by
  cases e with
  | num w n => obtain ⟨p, e, h⟩ := h; exact ⟨p, _, e, h⟩
  | nm s => obtain ⟨p, e, h⟩ := h; exact ⟨p, _, e, h⟩
  | un m a => obtain ⟨p, x1, e, h, _⟩ := h; exact ⟨p, _, e, h⟩
  | bin k a b => obtain ⟨p, x1, x2, e, h, _⟩ := h; exact ⟨p, _, e, h⟩
  | sh l a k => obtain ⟨p, x1, e, h, _⟩ := h; exact ⟨p, _, e, h⟩
  | ite c a b => obtain ⟨p, x0, x1, x2, e, h, _⟩ := h; exact ⟨p, _, e, h⟩
  | join a b => obtain ⟨p, t, x1, x2, e, h, _⟩ := h; exact ⟨p, _, e, h⟩
  | sl a hi lo => obtain ⟨p, x1, e, h, _⟩ := h; exact ⟨p, _, e, h⟩
theorem eqV_ss (a b : Str) : eqV (.str a) (.str b) = decide (a = b) := by
  show (a == b) = _
  by_cases h : a = b
  · rw [h]; simp
  · simp [h]
/-- an item against the register x -/
theorem ne_item {it : It0} {v : V} {x : Str} {w r : Nat} (h : ItAt K H it v) (hu : it.kd = "reg" → it.nm = x → it = .reg x w r) :
    ∃ a xs bs, v = .ref a ∧ SqT K H a xs ∧ EqCs K H xs [.str "reg", .str x, .int (w : Int), .int (r : Int)] bs ∧ (bs.all id && xs.length == [V.str "reg", .str x, .int (w : Int), .int (r : Int)].length) = isR x it := by
  obtain ⟨p, xs, rfl, hp, hr⟩ := h
  have e0 : EqC K H (.str it.kd) (.str "reg") (decide (it.kd = "reg")) := by rw [← eqV_ss]; exact .flat rfl rfl
  have e1 : EqC K H (.str it.nm) (.str x) (decide (it.nm = x)) := by rw [← eqV_ss]; exact .flat rfl rfl
  have fin : ∀ {xs : List V} {bs : List Bool}, EqCs K H xs [.int (w : Int), .int (r : Int)] bs → (isR x it = true → (bs.all id && (xs.length + 1 + 1) == 4) = true) →
      EqCs K H (.str it.kd :: .str it.nm :: xs) [.str "reg", .str x, .int (w : Int), .int (r : Int)] (decide (it.kd = "reg") :: decide (it.nm = x) :: bs) ∧
      (((decide (it.kd = "reg") :: decide (it.nm = x) :: bs).all id) && (V.str it.kd :: .str it.nm :: xs).length == 4) = isR x it := fun {xs bs} h hq => by
    refine ⟨.cons e0 (.cons e1 h), ?_⟩
    show ((decide (it.kd = "reg") && (decide (it.nm = x) && bs.all id)) && (xs.length + 1 + 1) == 4) = (decide (it.kd = "reg") && decide (it.nm = x))
    cases e : isR x it with
    | false =>
      unfold isR at e
      rw [← Bool.and_assoc, e]; rfl
    | true =>
      have hq := hq e
      unfold isR at e
      rw [← Bool.and_assoc, e, Bool.true_and]; exact hq
  cases it with
  | inp y v =>
    obtain rfl : xs = [.int (v : Int)] := hr
    have := fin (xs := [.int (v : Int)]) (.cons (.flat (x := .int (v : Int)) (y := .int (w : Int)) rfl rfl) .nl) (fun z => by have := (isR_reg z).1; cases this)
    exact ⟨p, _, _, rfl, hp, this.1, this.2⟩
  | reg y v q =>
    obtain rfl : xs = [.int (v : Int), .int (q : Int)] := hr
    have := fin (xs := [.int (v : Int), .int (q : Int)]) (.cons (.flat (x := .int (v : Int)) (y := .int (w : Int)) rfl rfl) (.cons (.flat (x := .int (q : Int)) (y := .int (r : Int)) rfl rfl) .nil)) (fun z => by
      have e := hu rfl (isR_reg z).2
      injection e with e1 e2 e3
      subst e1 e2 e3
      show ((((v : Int) == (v : Int)) && (((q : Int) == (q : Int)) && true)) && true) = true
      simp)
    exact ⟨p, _, _, rfl, hp, this.1, this.2⟩
  | sig o y v e =>
    obtain ⟨ve, rfl, he⟩ := hr
    obtain ⟨a, zs, rfl, ha⟩ := exAt_tup he
    have := fin (xs := [.int (v : Int), .ref a]) (.cons (.flat (x := .int (v : Int)) (y := .int (w : Int)) rfl rfl) (.cons (.ti ha) .nil)) (fun z => by have := (isR_reg z).1; cases this)
    exact ⟨p, _, _, rfl, hp, this.1, this.2⟩
  | nxt y e =>
    obtain ⟨ve, rfl, he⟩ := hr
    obtain ⟨a, zs, rfl, ha⟩ := exAt_tup he
    have := fin (xs := [.ref a]) (.cons (.ti ha) .nl) (fun z => by have := (isR_reg z).1; cases this)
    exact ⟨p, _, _, rfl, hp, this.1, this.2⟩
end
end K14
set_option maxHeartbeats 8000000
/-! law: a register ahead of all -/
namespace K14
open PySem PySem.Spec PyProof.Rows L2
section
variable {P : Program} {w : World} {K : PySem.W.Frag} {mg : Str → Option Value} {base : Heap} {f : Addr} {cdv : Value} {s0 : Shared} {H0 : Hp} {E : XK}
theorem lap2 (T : Top K mg) (hr : Room 26 (XL P w K mg base f cdv s0 H0 E).A) {D : Ends} {H : Hp} {s p L D0 : Addr} {c : Nat} {nm : Str} {A B : List It0} {x2 x4 x5 x6 x7 x8 x9 x10 x11 x12 x13 x14 x15 x16 x17 x18 x19 x20 x21 x22 x23 x24 : Option V} (hP : PenAt H p L c) (hc : c + 500 ≤ maxDraws)
    (hD : DsAt K H D0 nm (A ++ B)) (d : Design A B) (hok : (("ok" : Str), 1) ∈ namedL (A ++ B)) (hno : NoOdd (A ++ B))
    (hn : ∀ H' D1 A' c' y4 y5, PSt H H' p L c' → c' ≤ c + 1 → DsAt K H' D1 nm (A' ++ B) → Design A' B → (("ok" : Str), 1) ∈ namedL (A' ++ B) → NoOdd (A' ++ B) → Goes (XL P w K mg base f cdv s0 H0 E) (lapB.drop 4) D [some (.ref s), some (.ref p), x2, some (.ref D1), y4, y5, x6, x7, x8, x9, x10, x11, x12, x13, x14, x15, x16, x17, x18, x19, x20, x21, x22, x23, x24] H') :
    Goes (XL P w K mg base f cdv s0 H0 E) (lapB.drop 2) D [some (.ref s), some (.ref p), x2, some (.ref D0), x4, x5, x6, x7, x8, x9, x10, x11, x12, x13, x14, x15, x16, x17, x18, x19, x20, x21, x22, x23, x24] H := by
  have hu := hu_of hr
  have hu64 := hr.units
  refine ⟨_, (pss_cons (ps_set (i := 4) sc_law.nd rfl (Or.inr rfl) (pe_lc (own := [("_law_item", 22)]) (g := (gName 22))  rfl sc_law.nd (pi_tup (pe_ix ix_tup (pe_ix ix_tup (pv 3) pe_int (fun _ _ => rfl)) pe_int (fun _ _ => rfl))) (blkOk_by (own := [("_law_item", 22)]) (N := nm_law) (sc := C8.fnScope (st 61)) (by decide +kernel)) (fun _ _ _ _ _ => (pg_name (i := 22) sc_law.nd rfl (Or.inl rfl))) (fun _ _ _ _ _ => (pts_one (pt_cmpR op_eq (pe_ix (ix_tupK (K := K) rfl) (pv 22) pe_int (fun _ _ => rfl)) pe_str (nomark _)))) (fun _ _ _ _ _ => (pv 22))))
      (pss_cons (ps_if (PW.pt (pw_and (pt_cmpR (op_neLN hu) (pv 4) (pe_lst pa_nil) (nomark _)) (pw_and1 (pt_cmpR op_eq (C8.pe_c (cal_law_draw T) hr (by decide) rfl (pa_cons (pv 1) (pa_cons pe_int pa_nil))) pe_int (nomark _))))) (pss_cons (ps_setLc (i := 5) (own := [("_law_item", 22)]) (g := (gName 22))  rfl sc_law.nd rfl rfl (sw_true rfl rfl rfl (by decide +kernel)) (pi_tup (pe_ix ix_tup (pe_ix ix_tup (pv 3) pe_int (fun _ _ => rfl)) pe_int (fun _ _ => rfl))) (blkOk_by (own := [("_law_item", 22)]) (N := nm_law) (sc := C8.fnScope (st 61)) (by decide +kernel)) (fun _ _ _ _ _ => (pg_name (i := 22) sc_law.nd rfl (Or.inl rfl))) (fun _ _ _ _ _ => (pts_one (pt_cmpR (op_neTK (K := K) rfl hu64) (pv 22) (pe_ix (ix_listK (K := K) rfl) (pv 4) pe_int (fun _ _ => rfl)) (nomark _)))) (fun _ _ _ _ _ => (pv 22)))
      (pss_one (ps_set (i := 3) sc_law.nd rfl (Or.inl rfl) (pe_tup (pa_cons (pe_op op_catA (pe_slice sl_tupA (pe_ix ix_tup (pv 3) pe_int (fun _ _ => rfl)) po_none (po_some pe_int)) (pe_tup (pa_cons (pe_callTy call_tuple_of (by rfl) T.f_tuple PyProof.Rows.boot_tuple (pa_cons (pe_op op_cat (pe_slice sl_list (pv 4) po_none (po_some pe_int)) (pv 5)) pa_nil)) pa_nil))) pa_nil))))) pss_nil)
      pss_later)), ?_⟩
  obtain ⟨M, I, hDM, hMo, vs, hT, hPr⟩ := hD
  have hlen : vs.length = (A ++ B).length := (Paired.len hPr).symm
  have few := d.few
  have hc9 : maxDraws = 1000000 := rfl
  refine ⟨_, rfl, _, _, _, _, rfl, rfl, hDM, atI_nat (j := 0) rfl, _, _, _, _, rfl, rfl, hMo, atI_nat (j := 2) rfl, _, rfl, ⟨_, hT⟩, fun R nR => ?_⟩
  refine lc_it walk_tup (fun j H' => Kp [] H H' ∧ H' R = some (.lst (selV It0.isReg ((A ++ B).take j) (vs.take j)))) ⟨Kp.refl.new nR, upd_same⟩ (fun j H' _ ⟨kk, _⟩ => kk.sqT hT) ?_ ?_
  · rintro j x H3 H4 hj ⟨kk, eC⟩ ⟨rfl, gv⟩
    obtain ⟨it, gi, hit⟩ := Paired.getR hPr gv
    have em := selV_snoc (K := K) It0.isReg hPr gi gv
    obtain ⟨q, xs, rfl, hp, _⟩ := ItAt.kp kk hit
    have ll : (selV It0.isReg ((A ++ B).take j) (vs.take j)).length ≤ 100 := by
      have h1 := Paired.len (selV_at (K := K) (H := H) It0.isReg (Paired.takeP hPr j))
      have h2 := List.length_filter_le It0.isReg ((A ++ B).take j)
      rw [List.length_take] at h2
      omega
    refine ⟨rfl, ?_⟩
    refine ⟨_, rfl, _, _, _, _, rfl, rfl, hp, atI_nat (j := 0) rfl, rfl, _, rfl, ?_⟩
    by_cases hk : it.kd = "reg"
    · refine ifStrT hk ?_
      refine ⟨_, rfl, _, eC, small _ (by omega), kk.put nR, ?_⟩
      rw [upd_same, em, if_pos ((reg_kd it).mpr hk)]
    · refine ifStrF hk ?_
      exact ⟨kk, by rw [em, if_neg (fun z => hk ((reg_kd it).mp z))]; exact eC⟩
  · rintro H1 ⟨k1, eR⟩
    have hvl : vs.take vs.length = vs := List.take_length
    rw [hlen, List.take_length, ← hlen, hvl] at eR
    have hR := selV_at (K := K) (H := H) It0.isReg hPr
    generalize selV It0.isReg (A ++ B) vs = rv at eR hR
    have S1 : PSt H H1 p L c := (PSt.refl hP).k0 k1
    refine ⟨_, rfl, (by show 0 ≤ sizeLine; decide), fun l nl => ?_⟩
    have k2 := k1.new nl (o := .lst [])
    have S2 := S1.new nl (o := .lst [])
    have eR2 : (upd H1 l (.lst [])) R = some (.lst rv) := by rw [upd_ne (ne_of_none eR nl)]; exact eR
    refine ⟨_, _, rv, rfl, rfl, SqL.of eR2, SqL.of upd_same, ?_⟩
    generalize upd H1 l (.lst []) = H2 at k2 S2 eR2
    generalize hfl : (A ++ B).filter It0.isReg = fl at hR
    cases hR with
    | nil =>
      refine ⟨_, rfl, ?_⟩
      refine ifBF rfl ?_
      exact hn _ _ _ _ _ _ S2 (by omega) ⟨M, I, k2.sqT hDM, MoAt.kp k2 ⟨hMo, vs, hT, hPr⟩⟩ d hok hno
    | @cons r0 v0 rs vr hit0 hrest =>
      refine ⟨_, rfl, ?_⟩
      refine ifBT rfl ?_
      refine ⟨_, rfl, p, L, c, 2, rfl, S2.at_, by omega, by decide, by decide, fun H3 d3 k3 P3 hd3 => ?_⟩
      have S3 := S2.step k3 P3
      refine ⟨rfl, _, rfl, ?_⟩
      by_cases h0 : (d3 : Int) = 0
      · refine ifBT (dT h0) ?_
        have mf : r0 ∈ (A ++ B).filter It0.isReg := by rw [hfl]; exact List.mem_cons_self
        obtain ⟨mAB, hreg⟩ := List.mem_filter.mp mf
        have inA : ∀ it ∈ A ++ B, it.isReg = true → it ∈ A := fun it m h => by
          rcases List.mem_append.mp m with z | z
          · exact z
          · rw [(d.rb it z).2] at h; cases h
        have mA := inA r0 mAB hreg
        have hself : isR r0.nm r0 = true := isR_of ((reg_kd r0).mp hreg) rfl
        obtain ⟨x, wd, rst, e0⟩ : ∃ x wd rst, r0 = .reg x wd rst := by
          cases r0 with
          | reg x wd rst => exact ⟨x, wd, rst, rfl⟩
          | inp x w => cases hreg
          | sig o x w e => cases hreg
          | nxt x e => cases hreg
        have enm : r0.nm = x := by rw [e0]; rfl
        have uniq : ∀ it ∈ A ++ B, it.kd = "reg" → it.nm = x → it = r0 := fun it m h1 h2 => by
          have m1 := inA it m ((reg_kd it).mpr h1)
          have m2 : it ∈ A.filter (isR r0.nm) := List.mem_filter.mpr ⟨m1, isR_of h1 (h2.trans enm.symm)⟩
          rw [filter_isR d.nod mA hself] at m2
          exact List.mem_singleton.mp m2
        have hRp : R ≠ p := (hP.ne nR).1
        have eR3 : H3 R = some (.lst (v0 :: vr)) := k3.at_ _ _ eR2 (not1 hRp)
        have hPr3 : Paired (fun it v => ItAt K H3 it v) (A ++ B) vs := Paired.mapP hPr fun _ _ z => ItAt.kp S3.kp z
        have hit3 : ItAt K H3 r0 v0 := ItAt.kp S3.kp hit0
        have hDM3 := S3.kp.sqT hDM
        have hMo3 := S3.kp.sqT hMo
        have hT3 := S3.kp.sqT hT
        refine ⟨_, rfl, _, _, _, _, rfl, rfl, hDM3, atI_nat (j := 0) rfl, _, _, _, _, rfl, rfl, hMo3, atI_nat (j := 2) rfl, _, rfl, ⟨_, hT3⟩, fun Q nQ => ?_⟩
        refine lc_it walk_tup (fun j H' => Kp [] H3 H' ∧ H' Q = some (.lst (selV (fun it => !isR x it) ((A ++ B).take j) (vs.take j)))) ⟨Kp.refl.new nQ, upd_same⟩ (fun j H' _ ⟨kk, _⟩ => kk.sqT hT3) ?_ ?_
        · rintro j y H5 H6 hj ⟨kk, eC⟩ ⟨rfl, gv⟩
          obtain ⟨it, gi, hit⟩ := Paired.getR hPr3 gv
          have em := selV_snoc (K := K) (fun it => !isR x it) hPr3 gi gv
          have ll : (selV (fun it => !isR x it) ((A ++ B).take j) (vs.take j)).length ≤ 100 := by
            have h1 := Paired.len (selV_at (K := K) (H := H3) (fun it => !isR x it) (Paired.takeP hPr3 j))
            have h2 := List.length_filter_le (fun it => !isR x it) ((A ++ B).take j)
            rw [List.length_take] at h2
            omega
          obtain ⟨q0, xs0, ev0, hq0, hr0⟩ := ItAt.kp kk hit3
          rw [e0] at hq0 hr0
          obtain rfl : xs0 = [.int (wd : Int), .int (rst : Int)] := hr0
          obtain ⟨a, xs, bs, rfl, ha, hcs, hbs⟩ := ne_item (x := x) (w := wd) (r := rst) (ItAt.kp kk hit) (fun h1 h2 => (uniq it (List.mem_of_getElem? gi) h1 h2).trans e0)
          refine ⟨rfl, ?_⟩
          refine ⟨_, rfl, _, rfl, _, _, _, _, rfl, rfl, SqL.of (kk.at_ _ _ eR3 (fun z => nomatch z)), atI_nat (j := 0) rfl, _, _, _, _, bs, rfl, ev0, ha, hq0, hcs, _, rfl, ?_⟩
          cases hx : isR x it with
          | true =>
            refine ifBF (by show (!(bs.all id && xs.length == 4)) = false; rw [show (bs.all id && xs.length == 4) = isR x it from hbs, hx]; rfl) ?_
            exact ⟨kk, by rw [em, if_neg (by rw [hx]; decide)]; exact eC⟩
          | false =>
            refine ifBT (by show (!(bs.all id && xs.length == 4)) = true; rw [show (bs.all id && xs.length == 4) = isR x it from hbs, hx]; rfl) ?_
            refine ⟨_, rfl, _, eC, small _ (by omega), kk.put nQ, ?_⟩
            rw [upd_same, em, if_pos (by rw [hx]; rfl)]
        · rintro H5 ⟨k5, eQ⟩
          rw [hlen, List.take_length, ← hlen, hvl] at eQ
          have hQ := selV_at (K := K) (H := H3) (fun it => !isR x it) hPr3
          have lenQ : (selV (fun it => !isR x it) (A ++ B) vs).length ≤ 100 := by
            have h1 := Paired.len hQ
            have h2 := List.length_filter_le (fun it => !isR x it) (A ++ B)
            omega
          generalize selV (fun it => !isR x it) (A ++ B) vs = qv at eQ hQ lenQ
          have S5 := S3.k0 k5
          have eR5 : H5 R = some (.lst (v0 :: vr)) := k5.at_ _ _ eR3 (fun z => nomatch z)
          refine ⟨_, rfl, _, _, _, _, rfl, rfl, k5.sqT hDM3, atI_nat (j := 0) rfl, _, rfl, _, _, rfl, k5.sqT hMo3, fun z => absurd z.2 (show ¬ (HT.sIx 3 3 (some 2) = 3) by decide), fun _ t1 nt1 => ?_⟩
          have c1 : cutV [V.str "module", .str nm, .ref I] none (some 2) = [V.str "module", .str nm] := rfl
          rw [c1]
          have k6 := k5.new nt1 (o := .tup [.str "module", .str nm])
          have S6 := S5.new nt1 (o := .tup [.str "module", .str nm])
          have q6 : SqT K (upd H5 t1 (.tup [.str "module", .str nm])) t1 [.str "module", .str nm] := SqT.of upd_same
          have eR6 : upd H5 t1 (.tup [.str "module", .str nm]) R = some (.lst (v0 :: vr)) := by rw [upd_ne (ne_of_none eR5 nt1)]; exact eR5
          have eQ6 : upd H5 t1 (.tup [.str "module", .str nm]) Q = some (.lst qv) := by rw [upd_ne (ne_of_none eQ nt1)]; exact eQ
          generalize upd H5 t1 (.tup [.str "module", .str nm]) = H6 at k6 S6 q6 eR6 eQ6
          refine ⟨_, rfl, _, rfl, _, _, rfl, SqL.of eR6, fun t2 nt2 => ?_⟩
          have c2 : cutV (v0 :: vr) none (some 1) = [v0] := by
            show (v0 :: vr).take 1 = [v0]
            rfl
          rw [c2]
          have k7 := k6.new nt2 (o := .lst [v0])
          have S7 := S6.new nt2 (o := .lst [v0])
          have kk7 := Kp.refl.new nt2 (S := []) (o := .lst [v0])
          have q7 : upd H6 t2 (.lst [v0]) t2 = some (.lst [v0]) := upd_same
          have eQ7 := kk7.at_ _ _ eQ6 (fun z => nomatch z)
          have qt7 := kk7.sqT q6
          generalize upd H6 t2 (.lst [v0]) = H7 at k7 S7 q7 eQ7 qt7
          refine ⟨_, rfl, _, _, _, _, rfl, rfl, q7, eQ7, (by have := small 200 (by decide); show 1 + qv.length ≤ sizeLine; omega), fun t3 nt3 => ?_⟩
          have k8 := k7.new nt3 (o := .lst ([v0] ++ qv))
          have S8 := S7.new nt3 (o := .lst ([v0] ++ qv))
          have qt8 := (Kp.refl.new nt3 (S := []) (o := .lst ([v0] ++ qv))).sqT qt7
          refine ⟨_, _, rfl, .inl ⟨SqL.of upd_same, fun t4 nt4 => ?_⟩⟩
          have k9 := k8.new nt4 (o := .tup ([v0] ++ qv))
          have S9 := S8.new nt4 (o := .tup ([v0] ++ qv))
          have qt9 := (Kp.refl.new nt4 (S := []) (o := .tup ([v0] ++ qv))).sqT qt8
          have qi9 : SqT K (upd (upd H7 t3 (.lst ([v0] ++ qv))) t4 (.tup ([v0] ++ qv))) t4 ([v0] ++ qv) := SqT.of upd_same
          generalize upd (upd H7 t3 (.lst ([v0] ++ qv))) t4 (.tup ([v0] ++ qv)) = H9 at k9 S9 qt9 qi9
          refine ⟨(by show 1 ≤ sizeLine; decide), fun t5 nt5 => ?_⟩
          have k10 := k9.new nt5 (o := .tup [.ref t4])
          have S10 := S9.new nt5 (o := .tup [.ref t4])
          have kk10 := Kp.refl.new nt5 (S := []) (o := .tup [.ref t4])
          refine cat_all (kk10.sqT qt9) (SqT.of upd_same) (by show 3 ≤ sizeLine; decide) fun H11 t6 k11 hm11 => ?_
          have k12 := k10.trans k11
          have S12 := S10.k0 k11
          have qi11 := k11.sqT (kk10.sqT qi9)
          refine ⟨(by show 1 ≤ sizeLine; decide), fun t7 nt7 => ?_⟩
          have kk13 := Kp.refl.new nt7 (S := []) (o := .tup [.ref t6])
          have k13 := k12.trans kk13
          have S13 := S12.k0 kk13
          have pm := perm_front d.nod mA hself
          rw [enm] at pm
          have hPn : Paired (fun it v => ItAt K (upd H11 t7 (.tup [.ref t6])) it v) (r0 :: A.filter (fun it => !isR x it) ++ B) ([v0] ++ qv) := by
            have e1 : r0 :: A.filter (fun it => !isR x it) ++ B = r0 :: (A ++ B).filter (fun it => !isR x it) := by rw [rest_front d.rb]; rfl
            rw [e1]
            exact .cons (ItAt.kp k13 hit3) (Paired.mapP hQ fun _ _ z => ItAt.kp k13 z)
          exact hn _ _ _ _ _ _ S13 (by omega) ⟨t6, t4, SqT.of upd_same, kk13.sqT hm11, _, kk13.sqT qi11, hPn⟩ (d.perm pm) (ok_perm hok pm) (hno.perm pm)
      · refine ifBF (dF h0) ?_
        exact hn _ _ _ _ _ _ S3 (by omega) ⟨M, I, S3.kp.sqT hDM, MoAt.kp S3.kp ⟨hMo, vs, hT, hPr⟩⟩ d hok hno

end
end K14
set_option maxHeartbeats 200000
/-! resets fit; a tuple of bits as a text -/
namespace K14
open PySem PySem.Spec PyProof.Rows L2
theorem fits_rst : ∀ {A : List It0}, Leafy A → (∀ x w r, It0.reg x w r ∈ A → r < 2 ^ w) → Fits (resets A) (wR A)
  | [], _, _ => .nil
  | it :: A, h, hr => by
    have hA : Leafy A := fun i m => h i (List.mem_cons_of_mem _ m)
    have ih := fits_rst hA fun x w r m => hr x w r (List.mem_cons_of_mem _ m)
    cases it with
    | inp x w =>
      have e : wR (It0.inp x w :: A) = wR A := by unfold wR; rw [sel_cons, sel_no (c := "reg") (it := .inp x w) (nm_ne (a := "input") (b := "reg") (by decide +kernel))]; rfl
      rw [e]; exact ih
    | reg x w r =>
      have e : wR (It0.reg x w r :: A) = w :: wR A := by unfold wR; rw [sel_cons, sel_yes (c := "reg") (it := .reg x w r) rfl]; rfl
      rw [e]; exact .cons (hr x w r List.mem_cons_self) ih
    | sig o x w e => rcases h _ List.mem_cons_self with z | z <;> cases z
    | nxt x e => rcases h _ List.mem_cons_self with z | z <;> cases z
theorem Design.fitR {A B : List It0} (d : Design A B) : Fits (resets A) (wR A) := fits_rst d.la d.rst
theorem bitT_len {n : Nat} (h : n < 2) : (bitT n).length = 1 := by
  have h3 : n = 0 ∨ n = 1 := by omega
  rcases h3 with z | z <;> rw [z] <;> decide +kernel
theorem piled_bits : ∀ {ns : List Nat}, (∀ n ∈ ns, n < 2) → piled (ns.map bitT) = 3 * ns.length
  | [], _ => rfl
  | n :: ns, h => by
    rw [List.map_cons, piled_cons, piled_bits fun z hz => h z (List.mem_cons_of_mem _ hz), bitT_len (h n List.mem_cons_self), List.length_cons]
    omega
theorem text_bits {ns : List Nat} (h : ∀ n ∈ ns, n < 2) (hl : ns.length ≤ 10000) : (tupleText (ns.map bitT)).length ≤ sizeLine := by
  have e : (tupleText (ns.map bitT)).length ≤ 3 * ns.length + 3 := by
    unfold tupleText
    rw [strLen_append, strLen_append]
    have e1 : ((("(" : String) : Str)).length = 1 := rfl
    have e3 : (((if (ns.map bitT).length == 1 then ",)" else ")" : String) : Str)).length ≤ 2 := by split <;> decide
    rw [e1]
    cases ns with
    | nil =>
      have e4 : (Str.join ", " (([] : List Nat).map bitT)).length = 0 := rfl
      omega
    | cons n r =>
      have := join_length_add ((n :: r).map bitT) (by simp)
      rw [piled_bits h] at this
      omega
  have := small 100000 (by decide)
  omega
theorem rst_small (A : List It0) : ∀ n ∈ rstBits A, n < 2 := by
  intro n h
  unfold rstBits at h
  obtain ⟨c, _, e⟩ := List.mem_map.mp h
  rw [← e]; cases c <;> decide
theorem rst_vals (A : List It0) : (rstBits A).map nV = (bitsOf (resets A) (wR A)).map bval := by
  unfold rstBits
  rw [List.map_map]; rfl
theorem Design.sumR {A B : List It0} (d : Design A B) : (wR A).sum ≤ 1000 := by
  have h := nwid_sum d (sel "reg" A).length
  have e : nwid A (sel "reg" A).length = wR A := by unfold nwid wR; rw [List.take_length]
  rw [e] at h
  omega
end K14
set_option maxHeartbeats 8000000
/-! law: the machine of a wish -/
namespace K14
open PySem PySem.Spec PyProof.Rows L2
section
variable {P : Program} {w : World} {K : PySem.W.Frag} {mg : Str → Option Value} {base : Heap} {f : Addr} {cdv : Value} {s0 : Shared} {H0 : Hp} {E : XK}
/-- what stands before the turns -/
structure LapIn (K : PySem.W.Frag) (H : Hp) (p L D0 : Addr) (c : Nat) (nm : Str) (A B : List It0) (Lr Dn own ts rw : Addr) (wish : Str) (ss : List Nat) : Prop where
  pen : PenAt H p L c
  run : ∃ tr tn gs rs ns wl, RunIn K H D0 nm A B own tr tn gs rs ns wl wish
  lr : H Lr = some (.lst ((wR A).map nV))
  dn : H Dn = some (.dK (namedK (A ++ B)))
  st : SqT K H ts (ss.map nV)
  fit : Fits ss (wR A)
  rw : RowsAt K H rw (rowsOf (wI A))
theorem RowsAt.kpS {S : List Addr} {H H' : Hp} {q : Addr} {rs : List (List Nat)} (x : RowsAt K H q rs) (k : Kp S H H') (h : q ∉ S) : RowsAt K H' q rs := by
  obtain ⟨⟨ts, e, h2⟩⟩ := x
  exact ⟨⟨ts, k.at_ _ _ e h, Paired.mapP h2 fun _ _ z => k.sqT z⟩⟩
theorem RowsAt.neP {H : Hp} {p L q : Addr} {c : Nat} {rs : List (List Nat)} (x : RowsAt K H q rs) (h : PenAt H p L c) : q ≠ p := by
  obtain ⟨⟨ts, e, _⟩⟩ := x
  exact h.neL e
theorem OwnAt.neP {H : Hp} {p L d tr tn : Addr} {c n i w : Nat} {gs : List (Nat × Nat)} {rs ns : List Nat} (x : OwnAt K H d tr tn n gs i rs ns w) (h : PenAt H p L c) : d ≠ p := by
  obtain ⟨⟨tg, ts, e, _⟩, _⟩ := x
  obtain ⟨⟨a, dd, ff, ms, e1, _⟩⟩ := h
  intro z
  rw [z, e1] at e
  injection e with e
  injection e with e
  unfold ownK penK at e
  injection e with e2
  injection e2 with e3
  injection e3 with e4
  exact absurd e4 (by decide +kernel)
theorem namedK_neP {H : Hp} {p L d : Addr} {c : Nat} {its : List It0} (e : H d = some (.dK (namedK its))) (h : PenAt H p L c) : d ≠ p := by
  obtain ⟨⟨a, dd, ff, ms, e1, _⟩⟩ := h
  intro z
  rw [z, e1] at e
  injection e with e
  injection e with e
  unfold namedK penK at e
  cases hl : namedL its with
  | nil => rw [hl] at e; cases e
  | cons x r =>
    rw [hl, List.map_cons] at e
    injection e with e2
    injection e2 with e3 e4
    cases e4
/-- out of a lock -/
theorem Kp.unlock {H H' : Hp} {d : Addr} {u : HO} {od : Obj} (hd : H d = some u) (nt : ∀ xs, u ≠ .tup xs) (nf : ∀ o v, u ≠ .frz o v) (k : Kp [] (upd H d (.frz od u)) H') : Kp [] H (upd H' d u) := by
  refine ⟨fun b o e _ => ?_, fun b xs e => ?_, fun b o v e => ?_, fun {b} e => ?_⟩
  · by_cases z : b = d
    · subst z; rw [upd_same, ← hd, e]
    · rw [upd_ne z]; exact k.at_ b o (by rw [upd_ne z]; exact e) (fun z => nomatch z)
  · have z : b ≠ d := fun z => by subst z; rw [hd] at e; exact nt _ (Option.some.inj e)
    rw [upd_ne z]; exact k.tup b xs (by rw [upd_ne z]; exact e)
  · have z : b ≠ d := fun z => by subst z; rw [hd] at e; exact nf _ _ (Option.some.inj e)
    rw [upd_ne z]; exact k.frz b o v (by rw [upd_ne z]; exact e)
  · have z : b ≠ d := fun z => by subst z; rw [upd_same] at e; cases e
    rw [upd_ne z] at e
    have := k.free e
    rw [upd_ne z] at this
    exact this
theorem lap3 (T : Top K mg) (TX : ExcTop P w K mg base) (hr : Room 26 (XL P w K mg base f cdv s0 H0 E).A) (hg : (XL P w K mg base f cdv s0 H0 E).A.guards = some []) {D : Ends} {H : Hp} {s p L D0 : Addr} {c : Nat} {nm : Str} {A B : List It0} {x2 x4 x5 x6 x7 x8 x9 x10 x11 x12 x13 x14 x15 x16 x17 x18 x19 x20 x21 x22 x23 x24 : Option V} (hP : PenAt H p L c) (hc : c + 500 ≤ maxDraws)
    (hD : DsAt K H D0 nm (A ++ B)) (d : Design A B) (hok : (("ok" : Str), 1) ∈ namedL (A ++ B))
    (hn : ∀ H' Li Lr Dn told own ts rws wish y23, LapIn K H' p L D0 (c + 1) nm A B Lr Dn own ts rws wish (resets A) → Goes (XL P w K mg base f cdv s0 H0 E) (lapB.drop 12) D [some (.ref s), some (.ref p), x2, some (.ref D0), x4, x5, some (.ref Li), some (.ref Lr), some (.ref Dn), some (.str wish), told, some (.ref own), some (.ref ts), some (.ref rws), x14, x15, x16, x17, x18, x19, x20, x21, x22, y23, x24] H') :
    Goes (XL P w K mg base f cdv s0 H0 E) (lapB.drop 4) D [some (.ref s), some (.ref p), x2, some (.ref D0), x4, x5, x6, x7, x8, x9, x10, x11, x12, x13, x14, x15, x16, x17, x18, x19, x20, x21, x22, x23, x24] H := by
  have hu := hu_of hr
  have hu64 := hr.units
  obtain ⟨fdM, FM, gM, kM, bM⟩ := (cal_machine_of (P := P) (w := w) (base := base) T TX).ex
  refine ⟨_, (pss_cons (ps_asg (C8.pe_c (cal_law_parts T) hr (by decide) rfl (pa_cons (pv 3) pa_nil)) (pg_tup rfl (pgs_cons (pg_name (i := 6) sc_law.nd rfl (Or.inl rfl)) (pgs_cons (pg_name (i := 7) sc_law.nd rfl (Or.inl rfl)) (pgs_cons (pg_name (i := 8) sc_law.nd rfl (Or.inr rfl)) pgs_nil)))))
      (pss_cons (ps_set (i := 9) sc_law.nd rfl (Or.inl rfl) (C8.pe_c (cal_law_pick T) hr (by decide) rfl (pa_cons (pv 1) (pa_cons (pe_op op_cat (pe_lst (pa_cons pe_str pa_nil)) (pe_lock (pe_lc (own := [("_law_name", 23)]) (g := (gName 23))  rfl sc_law.nd (pi_keys (pv 8)) (blkOk_by (own := [("_law_name", 23)]) (N := nm_law) (sc := C8.fnScope (st 61)) (by decide +kernel)) (fun _ _ _ _ _ => (pg_name (i := 23) sc_law.nd rfl (Or.inl rfl))) (fun _ _ _ _ _ => (pts_one (pt_cmpR op_eq (pe_dget hu (pv 8) (pv 23) (fun _ _ => rfl)) pe_int (nomark _)))) (fun _ _ _ _ _ => (pv 23))))) pa_nil))))
      (pss_cons (ps_set (i := 10) sc_law.nd rfl (Or.inl rfl) (pe_callS (E := fun _ _ _ _ => False) FM (hr.mono (by decide)) (by rfl) gM kM bM (fun σ => passF) (pa_cons (pv 3) (pa_cons (pv 9) pa_nil))))
      (pss_cons (ps_set (i := 11) sc_law.nd rfl (Or.inl rfl) (C8.pe_c (cal_law_own T) hr (by decide) rfl (pa_cons (pv 10) pa_nil)))
      (pss_cons (ps_if (PW.pt (pw_or (pt_cmpR op_isN (pv 11) pe_non (nomark _)) (pw_or1 (pt_cmpR (op_neT hu64) (pe_tup (pa_cons (pe_dget hu (pv 11) pe_str (fun _ _ => rfl)) (pa_cons (pe_dget hu (pv 11) pe_str (fun _ _ => rfl)) pa_nil))) (pe_tup (pa_cons (pe_callB (cr_sum rfl) (by rfl) T.f_sum PyProof.Rows.boot_sum (pa_cons (pv 6) pa_nil)) (pa_cons (pe_op op_add (pe_callB (cr_sum rfl) (by rfl) T.f_sum PyProof.Rows.boot_sum (pa_cons (pv 6) pa_nil)) (pe_callB (cr_sum rfl) (by rfl) T.f_sum PyProof.Rows.boot_sum (pa_cons (pv 7) pa_nil))) pa_nil))) (nomark _))))) (pss_one (ps_ret pe_bl)) pss_nil)
      (pss_cons (ps_set (i := 12) sc_law.nd rfl (Or.inl rfl) (C8.pe_c (cal_law_reset T) hr (by decide) rfl (pa_cons (pv 3) (pa_cons (pe_ix ix_tup (pe_ix ix_tup (pv 3) pe_int (fun _ _ => rfl)) pe_int (fun _ _ => rfl)) pa_nil))))
      (pss_cons (ps_if (PW.pt (pw_or (pt_cmpR op_ne (pe_callB (call_repr_tup hr hg) (by rfl) T.f_repr PyProof.Rows.boot_repr (pa_cons (pe_dget hu (pv 11) pe_str (fun _ _ => rfl)) pa_nil)) (pe_callB (call_repr_tup hr hg) (by rfl) T.f_repr PyProof.Rows.boot_repr (pa_cons (C8.pe_c (cal_law_bits_of T) hr (by decide) rfl (pa_cons (pv 12) (pa_cons (pv 7) pa_nil))) pa_nil)) (nomark _)) (pw_or1 (pt_cmpR op_ne (pe_callB call_len_seq (by rfl) T.f_len PySem.boot_len (pa_cons (pe_dget hu (pv 11) pe_str (fun _ _ => rfl)) pa_nil)) (pe_callB (cr_sum rfl) (by rfl) T.f_sum PyProof.Rows.boot_sum (pa_cons (pv 7) pa_nil)) (nomark _))))) (pss_one (ps_ret pe_bl)) pss_nil)
      (pss_cons (ps_set (i := 13) sc_law.nd rfl (Or.inl rfl) (C8.pe_c (cal_law_input_rows T) hr (by decide) rfl (pa_cons (pv 3) pa_nil)))
      pss_later)))))))), ?_⟩
  have hc9 : maxDraws = 1000000 := rfl
  have few := d.few
  have lI := wI_len A
  have lR := wR_len A
  have lA : A.length ≤ 40 := by rw [List.length_append] at few; omega
  refine ⟨_, rfl, D0, nm, A ++ B, rfl, hD, by omega, d.names, fun H1 t1 Li Lr Dn k1 hp => ?_⟩
  refine ⟨t1, _, rfl, hp.tup, rfl, _, _, rfl, _, _, rfl, _, _, rfl, rfl, ?_⟩
  have eLi := hp.li
  have eLr := hp.lr
  have eDn := hp.dn
  rw [d.wIe] at eLi
  rw [d.wRe] at eLr
  have S1 := (PSt.refl hP).k0 k1
  have hD1 := hD.kp k1
  -- the wish
  refine ⟨_, rfl, (by show 1 ≤ sizeLine; decide), fun l1 nl1 => ?_⟩
  have S2 := S1.new nl1 (o := .lst [.str "ok"])
  have kk2 := Kp.refl.new nl1 (S := []) (o := .lst [.str "ok"])
  have e1 : upd H1 l1 (.lst [.str "ok"]) l1 = some (.lst [.str "ok"]) := upd_same
  have eDn2 := kk2.at_ _ _ eDn (fun z => nomatch z)
  have eLi2 := kk2.at_ _ _ eLi (fun z => nomatch z)
  have eLr2 := kk2.at_ _ _ eLr (fun z => nomatch z)
  have hD2 := hD1.kp kk2
  generalize upd H1 l1 (.lst [.str "ok"]) = H2 at S2 e1 eDn2 eLi2 eLr2 hD2
  refine ⟨Dn, _, eDn2, trivial, fun od => ?_⟩
  refine ⟨_, rfl, Dn, od, rfl, .inl ⟨namedK (A ++ B), upd_same, fun R nR => ?_⟩⟩
  have vmem : ∀ {s : Str} {u : Nat}, (s, u) ∈ namedL (A ++ B) → valV (namedK (A ++ B)) (Sum.inr s) = some (nV u) := fun h => valV_mem (namedK_nodup d.names) (List.mem_map_of_mem (f := fun x : Str × Nat => ((Sum.inr x.1 : Key), nV x.2)) h)
  have lN := namedL_len (A ++ B)
  refine lc_it walk_keys (fun j H' => Kp [] (upd H2 Dn (.frz od (.dK (namedK (A ++ B))))) H' ∧ H' R = some (.lst ((((namedL (A ++ B)).take j).filter (fun x => x.2 == 1)).map fun x => V.str x.1))) ⟨Kp.refl.new nR, upd_same⟩ (fun j H' _ ⟨kk, _⟩ => kk.frz _ _ _ upd_same) ?_ ?_
  · rintro j x H3 H4 hj ⟨kk, eC⟩ ⟨rfl, ky, v, gv, rfl⟩
    have eF := kk.frz _ _ _ upd_same
    obtain ⟨⟨a, b⟩, ga, e2⟩ : ∃ ab, (namedL (A ++ B))[j]? = some ab ∧ ((Sum.inr ab.1 : Key), nV ab.2) = (ky, v) := by
      unfold namedK at gv
      rw [List.getElem?_map] at gv
      cases e : (namedL (A ++ B))[j]? with
      | none => rw [e] at gv; cases gv
      | some ab => rw [e] at gv; exact ⟨ab, rfl, Option.some.inj gv⟩
    injection e2 with e3 e4
    subst e3 e4
    refine ⟨rfl, _, rfl, _, rfl, _, _, rfl, .inl ⟨_, Sum.inr a, .inr ⟨od, eF⟩, rfl, (vmem (List.mem_of_getElem? ga)).symm⟩, rfl, _, rfl, ?_⟩
    have et : (namedL (A ++ B)).take (j + 1) = (namedL (A ++ B)).take j ++ [(a, b)] := by rw [List.take_add_one, ga]; rfl
    by_cases h1 : (b : Int) = 1
    · refine ifBT (dT h1) ?_
      have h1' : b = 1 := by omega
      refine ⟨_, rfl, _, eC, small _ ?_, kk.put nR, ?_⟩
      · rw [List.length_map]
        have z1 := List.length_filter_le (fun x : Str × Nat => x.2 == 1) ((namedL (A ++ B)).take j)
        rw [List.length_take] at z1
        omega
      · rw [upd_same, et, List.filter_append, List.map_append, h1']; rfl
    · refine ifBF (dF h1) ?_
      refine ⟨kk, ?_⟩
      have h1' : (b == 1) = false := by simpa using (show ¬ b = 1 by omega)
      rw [eC, et, List.filter_append, List.map_append]
      simp [h1']
  · rintro H4 ⟨k4, eR⟩
    have eF4 := k4.frz _ _ _ (upd_same (H := H2) (a := Dn))
    refine ⟨eF4, ?_⟩
    have hlenK : (namedK (A ++ B)).length = (namedL (A ++ B)).length := by unfold namedK; rw [List.length_map]
    rw [hlenK, List.take_length] at eR
    have k5 : Kp [] H2 (upd H4 Dn (.dK (namedK (A ++ B)))) := Kp.unlock eDn2 (fun _ z => by cases z) (fun _ _ z => by cases z) k4
    have neR : R ≠ Dn := fun z => by rw [z, eF4] at eR; cases eR
    have eR5 : upd H4 Dn (.dK (namedK (A ++ B))) R = some (.lst (((namedL (A ++ B)).filter (fun x => x.2 == 1)).map fun x => V.str x.1)) := by rw [upd_ne neR]; exact eR
    have lfl : (((namedL (A ++ B)).filter (fun x => x.2 == 1)).map fun x => V.str x.1).length ≤ 100 := by
      rw [List.length_map]
      have z1 := List.length_filter_le (fun x : Str × Nat => x.2 == 1) (namedL (A ++ B))
      omega
    have S5 := S2.k0 k5
    have e15 := k5.at_ _ _ e1 (fun z => nomatch z)
    have eDn5 := k5.at_ _ _ eDn2 (fun z => nomatch z)
    have eLi5 := k5.at_ _ _ eLi2 (fun z => nomatch z)
    have eLr5 := k5.at_ _ _ eLr2 (fun z => nomatch z)
    have hD5 := hD2.kp k5
    generalize upd H4 Dn (.dK (namedK (A ++ B))) = H5 at k5 eR5 S5 e15 eDn5 eLi5 eLr5 hD5
    have hmemF : ∀ y ∈ [V.str "ok"] ++ ((namedL (A ++ B)).filter (fun x => x.2 == 1)).map (fun x => V.str x.1), ∃ z : Str, y = .str z ∧ (z, 1) ∈ namedL (A ++ B) := fun y hy => by
      rcases List.mem_append.mp hy with z | z
      · exact ⟨"ok", List.mem_singleton.mp z, hok⟩
      · obtain ⟨⟨a, b⟩, hab, e⟩ := List.mem_map.mp z
        obtain ⟨h1, h2⟩ := List.mem_filter.mp hab
        have h3 : b = 1 := by simpa using h2
        subst h3
        exact ⟨a, e.symm, h1⟩
    generalize ((namedL (A ++ B)).filter (fun x => x.2 == 1)).map (fun x => V.str x.1) = wl at eR5 lfl hmemF
    refine ⟨_, _, _, _, rfl, rfl, e15, eR5, (by have := small 200 (by decide); show 1 + wl.length ≤ sizeLine; omega), fun l6 nl6 => ?_⟩
    have S6 := S5.new nl6 (o := .lst ([.str "ok"] ++ wl))
    have kk6 := Kp.refl.new nl6 (S := []) (o := .lst ([.str "ok"] ++ wl))
    refine ⟨p, L, c, l6, _, rfl, S6.at_, by omega, upd_same, (by rw [List.length_append]; show 0 < 1 + wl.length; omega), (by rw [List.length_append]; show 1 + wl.length ≤ 1000000; omega), fun H7 y7 k7 P7 hm => ?_⟩
    obtain ⟨wish, rfl, hw⟩ := hmemF y7 hm
    have S7 := S6.step k7 P7
    have eDn6 := kk6.at_ _ _ eDn5 (fun z => nomatch z)
    have eLi6 := kk6.at_ _ _ eLi5 (fun z => nomatch z)
    have eLr6 := kk6.at_ _ _ eLr5 (fun z => nomatch z)
    have eDn7 := k7.at_ _ _ eDn6 (not1 (namedK_neP eDn6 S6.at_))
    have eLi7 := k7.at_ _ _ eLi6 (not1 (S6.at_.neL eLi6))
    have eLr7 := k7.at_ _ _ eLr6 (not1 (S6.at_.neL eLr6))
    have hD7 := (hD5.kp kk6).kp k7
    -- the machine
    refine ⟨_, rfl, _, rfl, D0, nm, A, B, .str wish, rfl, d, hD7, .inl ⟨wish, rfl, hw, fun H8 x gs ns wl k8 mac mok hnl => ?_⟩⟩
    refine ⟨_, rfl, x, _, gs, _, _, ns, wl, rfl, mac, fun H9 own tr tn k9 ow => ?_⟩
    have S9 := (S7.k0 k8).k0 k9
    have eDn9 := k9.at_ _ _ (k8.at_ _ _ eDn7 (fun z => nomatch z)) (fun z => nomatch z)
    have eLi9 := k9.at_ _ _ (k8.at_ _ _ eLi7 (fun z => nomatch z)) (fun z => nomatch z)
    have eLr9 := k9.at_ _ _ (k8.at_ _ _ eLr7 (fun z => nomatch z)) (fun z => nomatch z)
    have hD9 := (hD7.kp k8).kp k9
    obtain ⟨⟨tg, tgs, eo, htg, hGT, hwr, hwn⟩, hgo, hno, hwo, hsm⟩ := id ow
    have gO : ∀ {H' : Hp}, Kp [] H9 H' → ∀ s : Str, DGet H' own (.str s) (valV (ownK tg tr tn ((wI A).sum + (wR A).sum) (wI A).sum wl) (Sum.inr s)) := fun k s => .inl ⟨_, Sum.inr s, .inl (k.at_ _ _ eo (fun z => nomatch z)), rfl, rfl⟩
    refine ⟨_, rfl, rfl, _, rfl, ifBF (decide_eq_false fun z => by cases z) ?_⟩
    refine ⟨_, rfl, _, _, rfl, gO .refl "inputs", _, rfl, _, _, rfl, gO .refl "leaves", (by show 2 ≤ sizeLine; decide), fun t2 nt2 => ?_⟩
    have kk10 := Kp.refl.new nt2 (S := []) (o := .tup [.int ((wI A).sum : Int), .int (((wI A).sum + (wR A).sum : Nat) : Int)])
    have q10 : SqT K (upd H9 t2 (.tup [.int ((wI A).sum : Int), .int (((wI A).sum + (wR A).sum : Nat) : Int)])) t2 [.int ((wI A).sum : Int), .int (((wI A).sum + (wR A).sum : Nat) : Int)] := SqT.of upd_same
    have S10 := S9.k0 kk10
    generalize upd H9 t2 (.tup [.int ((wI A).sum : Int), .int (((wI A).sum + (wR A).sum : Nat) : Int)]) = H10 at kk10 q10 S10
    have eLi10 := kk10.at_ _ _ eLi9 (fun z => nomatch z)
    have eLr10 := kk10.at_ _ _ eLr9 (fun z => nomatch z)
    have sI : ∀ {H' : Hp}, Kp [] H10 H' → SqL K H' Li (((wI A).map fun x : Nat => (x : Int)).map V.int) := fun k => SqL.of (by rw [k.at_ _ _ eLi10 (fun z => nomatch z), List.map_map]; rfl)
    have sR : ∀ {H' : Hp}, Kp [] H10 H' → SqL K H' Lr (((wR A).map fun x : Nat => (x : Int)).map V.int) := fun k => SqL.of (by rw [k.at_ _ _ eLr10 (fun z => nomatch z), List.map_map]; rfl)
    refine ⟨_, rfl, _, (wI A).map fun x : Nat => (x : Int), rfl, sI .refl, _, rfl, _, (wI A).map fun x : Nat => (x : Int), rfl, sI .refl, _, rfl, _, (wR A).map fun x : Nat => (x : Int), rfl, sR .refl, _, _, rfl, rfl, (by show 2 ≤ sizeLine; decide), fun t3 nt3 => ?_⟩
    rw [sum_cast, sum_cast]
    have kk11 := Kp.refl.new nt3 (S := []) (o := .tup [.int (((wI A).sum : Nat) : Int), .int (((wI A).sum : Nat) + ((wR A).sum : Nat) : Int)])
    refine ⟨t2, t3, _, _, _, rfl, rfl, kk11.sqT q10, SqT.of upd_same, .cons (.flat rfl rfl) (.cons (.flat rfl rfl) .nil), _, rfl, ifBF ?_ ?_⟩
    · show (!((((wI A).sum : Int) == ((wI A).sum : Int)) && (((((wI A).sum + (wR A).sum : Nat) : Int) == (((wI A).sum : Nat) + ((wR A).sum : Nat) : Int)) && true) && (2 == 2))) = false
      have e9 : (((wI A).sum + (wR A).sum : Nat) : Int) = (((wI A).sum : Nat) : Int) + (((wR A).sum : Nat) : Int) := by omega
      rw [e9]
      simp
    have S11 := S10.k0 kk11
    have k11 := kk10.trans kk11
    generalize upd H10 t3 (.tup [.int (((wI A).sum : Nat) : Int), .int (((wI A).sum : Nat) + ((wR A).sum : Nat) : Int)]) = H11 at kk11 k11 S11
    -- the resets
    have hD11 := hD9.kp k11
    obtain ⟨M, I, hDM, hMo, hIt⟩ := id hD11
    refine ⟨_, rfl, _, rfl, _, _, _, _, rfl, rfl, hDM, atI_nat (j := 0) rfl, _, _, _, _, rfl, rfl, hMo, atI_nat (j := 1) rfl, D0, nm, A ++ B, rfl, hD11, by omega, fun H12 ts k12 hts => ?_⟩
    have eres : resets (A ++ B) = resets A := by rw [resets_app, rst_rest d.rb, List.append_nil]
    rw [eres] at hts
    have fR := d.fitR
    have lfR := Paired.len fR
    have sumR := d.sumR
    have lres := resets_len A
    have kz := k11.trans k12
    have S12 := S11.k0 k12
    have eLr12 := kz.at_ _ _ eLr9 (fun z => nomatch z)
    have hrb : (rstBits A).length ≤ 10000 := by
      unfold rstBits
      rw [List.length_map, bitsOf_len lfR]
      omega
    refine ⟨_, rfl, _, _, rfl, gO kz "resets", tr, rstBits A, rfl, (hwr.kp kz), rst_small A, text_bits (rst_small A) hrb, ?_⟩
    have wid : ∀ x ∈ wR A, x ≤ 100 := fun x hx => by
      unfold wR at hx
      obtain ⟨⟨y, v⟩, hy, e⟩ := List.mem_map.mp hx
      obtain ⟨it, hit, e1, e2⟩ := sel_mem hy
      have := (d.pos it (List.mem_append_left _ hit) (leafy_named (d.la it hit))).2
      have e3 : v = x := e
      omega
    refine ⟨_, rfl, _, rfl, ts, Lr, resets A, wR A, rfl, hts, eLr12, lfR, by omega, wid, fun H13 tb k13 htb => ?_⟩
    have kz13 := kz.trans k13
    have S13 := S12.k0 k13
    have eLr13 := k13.at_ _ _ eLr12 (fun z => nomatch z)
    refine ⟨tb, rstBits A, rfl, (by rw [rst_vals]; exact htb), rst_small A, text_bits (rst_small A) hrb, rfl, _, rfl, ifBF (by show (!decide _) = false; rw [decide_eq_true rfl]; rfl) ?_⟩
    refine ⟨_, rfl, _, _, rfl, gO kz13 "nexts", _, _, rfl, .inr (hwn.kp kz13), _, rfl, _, (wR A).map fun x : Nat => (x : Int), rfl, SqL.of (by rw [eLr13, List.map_map]; rfl), rfl, _, rfl, ifBF ?_ ?_⟩
    · rw [sum_cast, List.length_map, hnl]
      show (!decide _) = false
      rw [decide_eq_true rfl]; rfl
    have hD13 := (hD11.kp k12).kp k13
    refine ⟨_, rfl, D0, nm, A ++ B, rfl, hD13, by omega, (by rw [d.wIe]; exact d.sumI), fun H14 rws k14 hrw => ?_⟩
    rw [d.wIe] at hrw
    have kz14 := kz13.trans k14
    refine hn H14 Li Lr Dn _ own ts rws wish _ ⟨(S13.k0 k14).at_, ⟨tr, tn, gs, _, ns, wl, d, hD13.kp k14, ow.kp kz14 (fun z => nomatch z), mok, hw⟩, k14.at_ _ _ eLr13 (fun z => nomatch z), kz14.at_ _ _ eDn9 (fun z => nomatch z), k14.sqT (k13.sqT hts), fR, hrw⟩

end
end K14
/-! law: the turns -/
namespace K14
open PySem PySem.Spec PyProof.Rows L2
section
variable {P : Program} {w : World} {K : PySem.W.Frag} {mg : Str → Option Value} {base : Heap} {f : Addr} {cdv : Value} {s0 : Shared} {H0 : Hp} {E : XK}
theorem LapIn.step {H H' : Hp} {p L D0 Lr Dn own ts rws : Addr} {c c' : Nat} {nm : Str} {A B : List It0} {wish : Str} {ss : List Nat} (x : LapIn K H p L D0 c nm A B Lr Dn own ts rws wish ss) (k : Kp [p] H H') (h : PenAt H' p L c') :
    LapIn K H' p L D0 c' nm A B Lr Dn own ts rws wish ss := by
  obtain ⟨tr, tn, gs, rs, ns, wl, r⟩ := x.run
  have ho : own ∉ [p] := not1 (r.ow.neP x.pen)
  exact ⟨h, ⟨tr, tn, gs, rs, ns, wl, r.kp k ho⟩, k.at_ _ _ x.lr (not1 (x.pen.neL x.lr)), k.at_ _ _ x.dn (not1 (namedK_neP x.dn x.pen)), k.sqT x.st, x.fit, x.rw.kpS k (not1 (x.rw.neP x.pen))⟩
theorem turn1 (T : Top K mg) (hr : Room 26 (XL P w K mg base f cdv s0 H0 E).A) {D : Ends} {H : Hp} {s p L D0 Lr Dn own ts rws : Addr} {c : Nat} {nm : Str} {A B : List It0} {wish : Str} {ss : List Nat} {x2 x4 x5 x6 x10 x14 x15 x16 x17 x18 x19 x20 x21 x22 x23 x24 : Option V} (hI : LapIn K H p L D0 c nm A B Lr Dn own ts rws wish ss) (hc : c + 100 ≤ maxDraws)
    (hn : ∀ H' ts' ss' y15 y16 y24 c', LapIn K H' p L D0 c' nm A B Lr Dn own ts' rws wish ss' → c' ≤ c + 42 → D.nx [some (.ref s), some (.ref p), x2, some (.ref D0), x4, x5, x6, some (.ref Lr), some (.ref Dn), some (.str wish), x10, some (.ref own), some (.ref ts'), some (.ref rws), x14, y15, y16, x17, x18, x19, x20, x21, x22, x23, y24] H') :
    Goes (XL P w K mg base f cdv s0 H0 E) turnB D [some (.ref s), some (.ref p), x2, some (.ref D0), x4, x5, x6, some (.ref Lr), some (.ref Dn), some (.str wish), x10, some (.ref own), some (.ref ts), some (.ref rws), x14, x15, x16, x17, x18, x19, x20, x21, x22, x23, x24] H := by
  have hu := hu_of hr
  have hu64 := hr.units
  refine ⟨_, (pss_cons (ps_asg (C8.pe_c (cal_law_cycle_right T) hr (by decide) rfl (pa_cons (pv 3) (pa_cons (pv 11) (pa_cons (pv 9) (pa_cons (pv 12) (pa_cons (C8.pe_c (cal_law_pick T) hr (by decide) rfl (pa_cons (pv 1) (pa_cons (pv 13) pa_nil))) pa_nil)))))) (pg_tup rfl (pgs_cons (pg_name (i := 15) sc_law.nd rfl (Or.inl rfl)) (pgs_cons (pg_name (i := 12) sc_law.nd rfl (Or.inl rfl)) pgs_nil))))
      (pss_cons (ps_if (pt_not (pt_val (pv 15))) (pss_one (ps_ret pe_bl)) pss_nil)
      (pss_cons (ps_set (i := 16) sc_law.nd rfl (Or.inl rfl) (pe_callTy call_tuple_of (by rfl) T.f_tuple PyProof.Rows.boot_tuple (pa_cons (pe_lc (own := [("_law_width", 24)]) (g := (gName 24)) (tt := tYes)  rfl sc_law.nd (pi_list (pv 7)) (blkOk_by (own := [("_law_width", 24)]) (N := nm_law) (sc := C8.fnScope (st 61)) (by decide +kernel)) (fun _ _ _ _ _ => (pg_name (i := 24) sc_law.nd rfl (Or.inl rfl))) (fun _ _ _ _ _ => pts_nil) (fun _ _ _ _ _ => (C8.pe_c (cal_law_draw T) hr (by decide) rfl (pa_cons (pv 1) (pa_cons (pe_op op_shl pe_int (pv 24)) pa_nil))))) pa_nil)))
      (pss_cons (ps_if (pt_not (pt_val (pe_ix ix_tup (C8.pe_c (cal_law_cycle_right T) hr (by decide) rfl (pa_cons (pv 3) (pa_cons (pv 11) (pa_cons (pv 9) (pa_cons (pv 16) (pa_cons (C8.pe_c (cal_law_pick T) hr (by decide) rfl (pa_cons (pv 1) (pa_cons (pv 13) pa_nil))) pa_nil)))))) pe_int (fun _ _ => rfl)))) (pss_one (ps_ret pe_bl)) pss_nil)
      pss_nil)))), ?_⟩
  have hc9 : maxDraws = 1000000 := rfl
  obtain ⟨tr, tn, gs, rs, ns, wl, R0⟩ := hI.run
  have d := R0.d
  have few := d.few
  have lR := wR_len A
  have lA : A.length ≤ 40 := by rw [List.length_append] at few; omega
  have hIr := hI.rw
  obtain ⟨⟨rts, erw, hrw⟩⟩ := id hIr
  have lrw := Paired.len hrw
  have nrw : (rowsOf (wI A)).length = 2 ^ (wI A).sum := rowsOf_len _
  have prw : 2 ^ (wI A).sum ≤ 2 ^ 9 := Nat.pow_le_pow_right (by decide) d.sumI
  have prw0 : 0 < 2 ^ (wI A).sum := Nat.two_pow_pos _
  have pick : ∀ y ∈ rts.map V.ref, ∃ t r, y = .ref t ∧ SqT K H t (r.map nV) ∧ Fits r (wI A) := fun y hy => by
    obtain ⟨t, ht, e⟩ := List.mem_map.mp hy
    obtain ⟨i, hi⟩ := List.mem_iff_getElem?.mp ht
    obtain ⟨r, gr, hq⟩ := Paired.getL hrw hi
    exact ⟨t, r, e.symm, hq, rowsOf_fits _ r (List.mem_of_getElem? gr)⟩
  refine ⟨_, rfl, _, rfl, _, rfl, _, rfl, _, rfl, _, rfl, p, L, c, rws, _, rfl, hI.pen, by omega, erw, (by rw [List.length_map]; omega), (by rw [List.length_map]; omega), fun H1 y k1 P1 hy => ?_⟩
  obtain ⟨t, r, rfl, ht, hfr⟩ := pick y hy
  have I1 := hI.step k1 P1
  obtain ⟨tr, tn, gs, rs, ns, wl, R1⟩ := I1.run
  refine ⟨D0, nm, A, B, own, tr, tn, gs, rs, ns, wl, wish, ts, t, ss, r, rfl, R1, hfr, I1.fit, I1.st, k1.sqT ht, fun H2 t2 tb k2 ht2 htb => ?_⟩
  refine ⟨t2, _, rfl, ht2, rfl, _, _, rfl, _, _, rfl, rfl, ?_⟩
  refine ⟨_, rfl, true, rfl, ifBF rfl ?_⟩
  have I2 : LapIn K H2 p L D0 (c + 1) nm A B Lr Dn own tb rws wish (outs (cst r ss (A ++ B))) := by
    have z := I1.step k2.nil (I1.pen.kp0 k2)
    exact ⟨z.pen, z.run, z.lr, z.dn, htb, d.fits hfr I1.fit, z.rw⟩
  have eLr := I2.lr
  -- a drawn state
  refine ⟨_, rfl, _, rfl, ⟨_, SqL.of eLr⟩, fun Q nQ => ?_⟩
  have neQ := I2.pen.ne nQ
  refine lc_it walk_list (fun j H' => ∃ (c1 : Nat) (ds : List Nat), Kp [p] H2 H' ∧ PenAt H' p L c1 ∧ c1 ≤ c + 1 + j ∧ H' Q = some (.lst (ds.map nV)) ∧ Fits ds ((wR A).take j)) ⟨c + 1, [], (Kp.refl.new nQ).nil, I2.pen.kp0 (Kp.refl.new nQ), by omega, upd_same, .nil⟩ (fun j H' _ ⟨c1, ds, kk, _⟩ => kk.sqL (SqL.of eLr) (not1 (I2.pen.neL eLr))) ?_ ?_
  · rintro j x H3 H4 hj ⟨c1, ds, kk, P3, hc1, eC, hf⟩ ⟨rfl, gv⟩
    rw [List.length_map] at hj
    obtain ⟨wd, gw, rfl⟩ : ∃ wd, (wR A)[j]? = some wd ∧ nV wd = x := by
      rw [List.getElem?_map] at gv
      cases e : (wR A)[j]? with
      | none => rw [e] at gv; cases gv
      | some wd => rw [e] at gv; exact ⟨wd, rfl, Option.some.inj gv⟩
    have hwd : wd ≤ 16 := by
      have hx := List.mem_of_getElem? gw
      unfold wR at hx
      obtain ⟨⟨y, v⟩, hy, e⟩ := List.mem_map.mp hx
      obtain ⟨it, hit, e1, e2⟩ := sel_mem hy
      have := (d.pos it (List.mem_append_left _ hit) (leafy_named (d.la it hit))).2
      have e3 : v = wd := e
      omega
    have p16 : 2 ^ wd ≤ 2 ^ 16 := Nat.pow_le_pow_right (by decide) hwd
    refine ⟨rfl, _, rfl, _, rfl, _, _, rfl, rfl, cpow1 (by omega), p, L, c1, 2 ^ wd, by dsimp only; rw [shl1]; rfl, P3, by omega, Nat.two_pow_pos _, by omega, fun H5 dr k5 P5 hdr => ?_⟩
    have eC5 := k5.at_ _ _ eC (not1 neQ.1)
    have lds := Paired.len hf
    rw [List.length_take] at lds
    have kk5 := kk.trans k5
    refine ⟨_, eC5, small _ (by rw [List.length_map]; omega), c1 + 1, ds ++ [dr], kk5.put nQ, ?_, by omega, by rw [upd_same, List.map_append]; rfl, ?_⟩
    · obtain ⟨⟨a, dd, ff, ms, e1, e2, e3⟩⟩ := P5
      exact ⟨⟨a, dd, ff, ms, by rw [upd_ne neQ.1.symm]; exact e1, by rw [upd_ne neQ.2.symm]; exact e2, e3⟩⟩
    · rw [List.take_add_one, gw]
      exact Paired.app hf (.cons hdr .nil)
  · rintro H3 ⟨c3, ds, k3, P3, hc3, eQ, hf⟩
    rw [List.length_map, List.take_length] at hf
    rw [List.length_map] at hc3
    have I3 := I2.step k3 P3
    refine ⟨_, _, rfl, .inl ⟨SqL.of eQ, fun t4 nt4 => ?_⟩⟩
    have kk4 := Kp.refl.new nt4 (S := []) (o := .tup (ds.map nV))
    have I4 := I3.step kk4.nil (P3.kp0 kk4)
    have q4 : SqT K (upd H3 t4 (.tup (ds.map nV))) t4 (ds.map nV) := SqT.of upd_same
    generalize upd H3 t4 (.tup (ds.map nV)) = H4 at kk4 I4 q4
    have kA : Kp [p] H H4 := ((k1.trans k2.nil).trans k3).trans kk4.nil
    have erw4 := kA.at_ _ _ erw (not1 (hI.pen.neL erw))
    refine ⟨_, rfl, _, rfl, _, rfl, _, rfl, _, rfl, _, rfl, p, L, c3, rws, _, rfl, I4.pen, by omega, erw4, (by rw [List.length_map]; omega), (by rw [List.length_map]; omega), fun H5 y5 k5 P5 hy5 => ?_⟩
    obtain ⟨t5, r5, rfl, ht5, hfr5⟩ := pick y5 hy5
    have I5 := I4.step k5 P5
    obtain ⟨tr, tn, gs, rs, ns, wl, R5⟩ := I5.run
    refine ⟨D0, nm, A, B, own, tr, tn, gs, rs, ns, wl, wish, t4, t5, ds, r5, rfl, R5, hfr5, hf, k5.sqT q4, (kA.trans k5).sqT ht5, fun H6 t6 tb6 k6 ht6 htb6 => ?_⟩
    refine ⟨_, _, _, _, rfl, rfl, ht6, atI_nat (j := 0) rfl, true, rfl, ifBF rfl ?_⟩
    exact hn _ _ _ _ _ _ _ (I5.step k6.nil (I5.pen.kp0 k6)) (by omega)

theorem lap4 (T : Top K mg) (hr : Room 26 (XL P w K mg base f cdv s0 H0 E).A) {D : Ends} {H : Hp} {s p L D0 Lr Dn own ts rws : Addr} {c : Nat} {nm : Str} {A B : List It0} {wish : Str} {ss : List Nat} {x2 x4 x5 x6 x10 x14 x15 x16 x17 x18 x19 x20 x21 x22 x23 x24 : Option V} (hI : LapIn K H p L D0 c nm A B Lr Dn own ts rws wish ss) (hc : c + 500 ≤ maxDraws)
    (hn : ∀ H' ts' ss' y14 y15 y16 y24 c', LapIn K H' p L D0 c' nm A B Lr Dn own ts' rws wish ss' → c' ≤ c + 336 → Goes (XL P w K mg base f cdv s0 H0 E) (lapB.drop 13) D [some (.ref s), some (.ref p), x2, some (.ref D0), x4, x5, x6, some (.ref Lr), some (.ref Dn), some (.str wish), x10, some (.ref own), some (.ref ts'), some (.ref rws), y14, y15, y16, x17, x18, x19, x20, x21, x22, x23, y24] H') :
    Goes (XL P w K mg base f cdv s0 H0 E) (lapB.drop 12) D [some (.ref s), some (.ref p), x2, some (.ref D0), x4, x5, x6, some (.ref Lr), some (.ref Dn), some (.str wish), x10, some (.ref own), some (.ref ts), some (.ref rws), x14, x15, x16, x17, x18, x19, x20, x21, x22, x23, x24] H := by
  have hu := hu_of hr
  refine ⟨_, (pss_cons (ps_for PassesOwn.never rfl (pi_range1 (by rfl) T.f_range (pa_cons pe_int pa_nil)) (pg_name (i := 14) sc_law.nd rfl (Or.inl rfl)) pss_later) pss_later), ?_⟩
  have hc9 : maxDraws = 1000000 := rfl
  refine ⟨8, rfl, by decide, by decide, for_range (lo := 0) (n := 8) (fun i σ H' => ∃ ts' ss' y14 y15 y16 y24 c', σ = [some (.ref s), some (.ref p), x2, some (.ref D0), x4, x5, x6, some (.ref Lr), some (.ref Dn), some (.str wish), x10, some (.ref own), some (.ref ts'), some (.ref rws), y14, y15, y16, x17, x18, x19, x20, x21, x22, x23, y24] ∧ LapIn K H' p L D0 c' nm A B Lr Dn own ts' rws wish ss' ∧ c' ≤ c + 42 * i) ⟨ts, ss, x14, x15, x16, x24, c, rfl, hI, by omega⟩ ?_ ?_⟩
  · rintro i σ H' hi ⟨ts', ss', y14, y15, y16, y24, c', rfl, hI', hc'⟩
    exact turn1 T hr hI' (by omega) fun H2 ts2 ss2 z15 z16 z24 c2 I2 hc2 => ⟨ts2, ss2, _, z15, z16, z24, c2, rfl, I2, by omega⟩
  · rintro σ H' ⟨ts', ss', y14, y15, y16, y24, c', rfl, hI', hc'⟩
    exact hn H' ts' ss' y14 y15 y16 y24 c' hI' (by omega)

end
end K14
/-! law: the names that are no wishes -/
namespace K14
open PySem PySem.Spec PyProof.Rows L2
/-- names of more than one bit -/
def wideL (its : List It0) : List (Str × Nat) := (namedL its).filter fun x => decide (1 < x.2)
/-- nothing that is a name -/
structure OddOk (K : PySem.W.Frag) (H : Hp) (its : List It0) (v : V) : Prop where
  no : NotStr K H v ∨ ∃ s : Str, v = .str s ∧ s ∉ (namedL its).map (·.1)
  eq : flatV v = true ∨ ∃ a, v = .ref a
theorem OddOk.kp {K : PySem.W.Frag} {H H' : Hp} {its : List It0} {v : V} (k : Kp [] H H') (x : OddOk K H its v) : OddOk K H' its v := by
  refine ⟨?_, x.eq⟩
  rcases x.no with ⟨t, h1, h2⟩ | h
  · exact .inl ⟨t, TyX.kpN k h1, h2⟩
  · exact .inr h
/-- what stands behind the turns -/
structure EndIn (K : PySem.W.Frag) (H : Hp) (p L D0 : Addr) (c : Nat) (nm : Str) (A B : List It0) (Dn Wd : Addr) (odd : V) : Prop where
  pen : PenAt H p L c
  d : Design A B
  ds : DsAt K H D0 nm (A ++ B)
  dn : H Dn = some (.dK (namedK (A ++ B)))
  wd : H Wd = some (.lst ((wideL (A ++ B)).map fun x => V.str x.1))
  odd : OddOk K H (A ++ B) odd
theorem EndIn.kp {K : PySem.W.Frag} {H H' : Hp} {p L D0 Dn Wd : Addr} {c : Nat} {nm : Str} {A B : List It0} {odd : V} (x : EndIn K H p L D0 c nm A B Dn Wd odd) (k : Kp [] H H') : EndIn K H' p L D0 c nm A B Dn Wd odd :=
  ⟨x.pen.kp0 k, x.d, x.ds.kp k, k.at_ _ _ x.dn (fun z => nomatch z), k.at_ _ _ x.wd (fun z => nomatch z), x.odd.kp k⟩
section
variable {P : Program} {w : World} {K : PySem.W.Frag} {mg : Str → Option Value} {base : Heap} {f : Addr} {cdv : Value} {s0 : Shared} {H0 : Hp} {E : XK}
theorem lap5 (T : Top K mg) (hr : Room 26 (XL P w K mg base f cdv s0 H0 E).A) {D : Ends} {H : Hp} {s p L D0 Dn : Addr} {c : Nat} {nm : Str} {A B : List It0} {x2 x4 x5 x6 x7 x9 x10 x11 x12 x13 x14 x15 x16 x17 x18 x19 x20 x21 x22 x23 x24 : Option V} (hP : PenAt H p L c) (hc : c + 100 ≤ maxDraws)
    (hD : DsAt K H D0 nm (A ++ B)) (d : Design A B) (hno : NoOdd (A ++ B)) (eDn : H Dn = some (.dK (namedK (A ++ B))))
    (hn : ∀ H' Wd F odd y23, EndIn K H' p L D0 (c + 1) nm A B Dn Wd odd → H' F = some (.lst []) → F ≠ Wd → F ≠ L → Goes (XL P w K mg base f cdv s0 H0 E) (lapB.drop 15) D [some (.ref s), some (.ref p), x2, some (.ref D0), x4, x5, x6, x7, some (.ref Dn), x9, x10, x11, x12, x13, x14, x15, x16, some (.ref Wd), some (.ref F), some odd, x20, x21, x22, y23, x24] H') :
    Goes (XL P w K mg base f cdv s0 H0 E) (lapB.drop 13) D [some (.ref s), some (.ref p), x2, some (.ref D0), x4, x5, x6, x7, some (.ref Dn), x9, x10, x11, x12, x13, x14, x15, x16, x17, x18, x19, x20, x21, x22, x23, x24] H := by
  have hu := hu_of hr
  refine ⟨_, (pss_cons (ps_lock (ps_setLc (i := 17) (own := [("_law_name", 23)]) (g := (gName 23))  rfl sc_law.nd rfl rfl (sw_true rfl rfl rfl (by decide +kernel)) (pi_keys (pv 8)) (blkOk_by (own := [("_law_name", 23)]) (N := nm_law) (sc := C8.fnScope (st 61)) (by decide +kernel)) (fun _ _ _ _ _ => (pg_name (i := 23) sc_law.nd rfl (Or.inl rfl))) (fun _ _ _ _ _ => (pts_one (pt_cmpR op_gt (pe_dget hu (pv 8) (pv 23) (fun _ _ => rfl)) pe_int (nomark _)))) (fun _ _ _ _ _ => (pv 23))))
      (pss_cons (ps_par (i := 18) (j := 19) (by rfl) sc_law.nd rfl rfl (by decide) rfl rfl (pa_cons (pe_lst pa_nil) (pa_cons (C8.pe_c (cal_law_pick T) hr (by decide) rfl (pa_cons (pv 1) (pa_cons (pe_lst (pa_cons pe_str (pa_cons pe_non (pa_cons pe_int (pa_cons pe_str (pa_cons (pe_tup (pa_cons pe_str pa_nil)) (pa_cons (pe_lst (pa_cons pe_str pa_nil)) (pa_cons pe_dnewK pa_nil)))))))) pa_nil))) pa_nil)) (by rfl))
      pss_later)), ?_⟩
  have hc9 : maxDraws = 1000000 := rfl
  have few := d.few
  have lN := namedL_len (A ++ B)
  have vmem : ∀ {s : Str} {u : Nat}, (s, u) ∈ namedL (A ++ B) → valV (namedK (A ++ B)) (Sum.inr s) = some (nV u) := fun h => valV_mem (namedK_nodup d.names) (List.mem_map_of_mem (f := fun x : Str × Nat => ((Sum.inr x.1 : Key), nV x.2)) h)
  refine ⟨Dn, _, eDn, trivial, fun od => ?_⟩
  refine ⟨_, rfl, Dn, od, rfl, .inl ⟨namedK (A ++ B), upd_same, fun R nR => ?_⟩⟩
  refine lc_it walk_keys (fun j H' => Kp [] (upd H Dn (.frz od (.dK (namedK (A ++ B))))) H' ∧ H' R = some (.lst ((((namedL (A ++ B)).take j).filter (fun x => decide (1 < x.2))).map fun x => V.str x.1))) ⟨Kp.refl.new nR, upd_same⟩ (fun j H' _ ⟨kk, _⟩ => kk.frz _ _ _ upd_same) ?_ ?_
  · rintro j x H3 H4 hj ⟨kk, eC⟩ ⟨rfl, ky, v, gv, rfl⟩
    have eF := kk.frz _ _ _ upd_same
    obtain ⟨⟨a, b⟩, ga, e2⟩ : ∃ ab, (namedL (A ++ B))[j]? = some ab ∧ ((Sum.inr ab.1 : Key), nV ab.2) = (ky, v) := by
      unfold namedK at gv
      rw [List.getElem?_map] at gv
      cases e : (namedL (A ++ B))[j]? with
      | none => rw [e] at gv; cases gv
      | some ab => rw [e] at gv; exact ⟨ab, rfl, Option.some.inj gv⟩
    injection e2 with e3 e4
    subst e3 e4
    refine ⟨rfl, _, rfl, _, rfl, _, _, rfl, .inl ⟨_, Sum.inr a, .inr ⟨od, eF⟩, rfl, (vmem (List.mem_of_getElem? ga)).symm⟩, _, _, rfl, rfl, _, rfl, ?_⟩
    have et : (namedL (A ++ B)).take (j + 1) = (namedL (A ++ B)).take j ++ [(a, b)] := by rw [List.take_add_one, ga]; rfl
    by_cases h1 : (1 : Int) < (b : Int)
    · refine ifBT (decide_eq_true h1) ?_
      have h1' : decide (1 < b) = true := decide_eq_true (by omega)
      refine ⟨_, rfl, _, eC, small _ ?_, kk.put nR, ?_⟩
      · rw [List.length_map]
        have z1 := List.length_filter_le (fun x : Str × Nat => decide (1 < x.2)) ((namedL (A ++ B)).take j)
        rw [List.length_take] at z1
        omega
      · have ef : [(a, b)].filter (fun x : Str × Nat => decide (1 < x.2)) = [(a, b)] := by rw [List.filter_cons, if_pos h1']; rfl
        rw [upd_same, et, List.filter_append, List.map_append, ef]; rfl
    · refine ifBF (decide_eq_false h1) ?_
      refine ⟨kk, ?_⟩
      have h1' : decide (1 < b) = false := decide_eq_false (by omega)
      have ef : [(a, b)].filter (fun x : Str × Nat => decide (1 < x.2)) = [] := by rw [List.filter_cons, if_neg (by rw [h1']; decide)]; rfl
      rw [eC, et, List.filter_append, List.map_append, ef, List.map_nil, List.append_nil]
  · rintro H4 ⟨k4, eR⟩
    have eF4 := k4.frz _ _ _ (upd_same (H := H) (a := Dn))
    refine ⟨eF4, ?_⟩
    have hlenK : (namedK (A ++ B)).length = (namedL (A ++ B)).length := by unfold namedK; rw [List.length_map]
    rw [hlenK, List.take_length] at eR
    have k5 : Kp [] H (upd H4 Dn (.dK (namedK (A ++ B)))) := Kp.unlock eDn (fun _ z => by cases z) (fun _ _ z => by cases z) k4
    have neR : R ≠ Dn := fun z => by rw [z, eF4] at eR; cases eR
    have eR5 : upd H4 Dn (.dK (namedK (A ++ B))) R = some (.lst ((wideL (A ++ B)).map fun x => V.str x.1)) := by rw [upd_ne neR]; exact eR
    have eDn5 := k5.at_ _ _ eDn (fun z => nomatch z)
    have hD5 := hD.kp k5
    have P5 := hP.kp0 k5
    generalize upd H4 Dn (.dK (namedK (A ++ B))) = H5 at k5 eR5 eDn5 hD5 P5
    refine ⟨(by show 0 ≤ sizeLine; decide), fun F nF => ?_⟩
    have k6 := Kp.refl.new nF (S := []) (o := .lst [])
    have neFR : F ≠ R := (ne_of_none eR5 nF).symm
    have neFL : F ≠ L := (P5.ne nF).2
    have eF6 : upd H5 F (.lst []) F = some (.lst []) := upd_same
    have eR6 := k6.at_ _ _ eR5 (fun z => nomatch z)
    have eDn6 := k6.at_ _ _ eDn5 (fun z => nomatch z)
    have hD6 := hD5.kp k6
    have P6 := P5.kp0 k6
    generalize upd H5 F (.lst []) = H6 at k6 eF6 eR6 eDn6 hD6 P6
    refine ⟨_, rfl, (by show 1 ≤ sizeLine; decide), fun t1 nt1 => ⟨(by show 1 ≤ sizeLine; decide), fun l1 nl1 => fun d1 nd1 => ⟨(by show 7 ≤ sizeLine; decide), fun l2 nl2 => ?_⟩⟩⟩
    have S2 : ∀ {z : Nat}, True := fun {_} => trivial
    have kA := Kp.refl.new nt1 (S := []) (o := .tup [.str "ok"])
    have kB := kA.new nl1 (o := .lst [.str "ok"])
    have kC := kB.new nd1 (o := .dK [])
    have kD := kC.new nl2 (o := .lst [.str "nothing", .non, .int 5, .str "", .ref t1, .ref l1, .ref d1])
    have aT : ∀ {G : Hp}, Kp [] (upd H6 t1 (.tup [.str "ok"])) G → G t1 = some (.tup [.str "ok"]) := fun k => k.at_ _ _ upd_same (fun z => nomatch z)
    have aL : ∀ {G : Hp}, Kp [] (upd (upd H6 t1 (.tup [.str "ok"])) l1 (.lst [.str "ok"])) G → G l1 = some (.lst [.str "ok"]) := fun k => k.at_ _ _ upd_same (fun z => nomatch z)
    have aD : ∀ {G : Hp}, Kp [] (upd (upd (upd H6 t1 (.tup [.str "ok"])) l1 (.lst [.str "ok"])) d1 (.dK [])) G → G d1 = some (.dK []) := fun k => k.at_ _ _ upd_same (fun z => nomatch z)
    have r1 := aT (((Kp.refl.new nl1 (o := .lst [.str "ok"])).new nd1 (o := .dK [])).new nl2 (o := .lst [.str "nothing", .non, .int 5, .str "", .ref t1, .ref l1, .ref d1]))
    have r2 := aL ((Kp.refl.new nd1 (o := .dK [])).new nl2 (o := .lst [.str "nothing", .non, .int 5, .str "", .ref t1, .ref l1, .ref d1]))
    have r3 := aD (Kp.refl.new nl2 (o := .lst [.str "nothing", .non, .int 5, .str "", .ref t1, .ref l1, .ref d1]))
    have r4 : upd (upd (upd (upd H6 t1 (.tup [.str "ok"])) l1 (.lst [.str "ok"])) d1 (.dK [])) l2 (.lst [.str "nothing", .non, .int 5, .str "", .ref t1, .ref l1, .ref d1]) l2 = some (.lst [.str "nothing", .non, .int 5, .str "", .ref t1, .ref l1, .ref d1]) := upd_same
    generalize upd (upd (upd (upd H6 t1 (.tup [.str "ok"])) l1 (.lst [.str "ok"])) d1 (.dK [])) l2 (.lst [.str "nothing", .non, .int 5, .str "", .ref t1, .ref l1, .ref d1]) = H7 at kD r1 r2 r3 r4
    have P7 := P6.kp0 kD
    have n7 : ∀ b, H6 b = none → b ≠ p := fun b e => (P6.ne e).1
    refine ⟨p, L, c, l2, _, rfl, P7, by omega, r4, (by show 0 < 7; decide), (by show 7 ≤ 1000000; decide), fun H8 y k8 P8 hy => ?_⟩
    have eF8 := k8.at_ _ _ (kD.at_ _ _ eF6 (fun z => nomatch z)) (not1 (P6.neL eF6))
    have eR8 := k8.at_ _ _ (kD.at_ _ _ eR6 (fun z => nomatch z)) (not1 (P6.neL eR6))
    have eDn8 := k8.at_ _ _ (kD.at_ _ _ eDn6 (fun z => nomatch z)) (not1 (namedK_neP eDn6 P6))
    have hD8 := (hD6.kp kD).kp k8
    have t8 := k8.tup _ _ r1
    have l8 := k8.at_ _ _ r2 (not1 (P7.neL r2))
    have ned : d1 ≠ p := fun z => by
      obtain ⟨⟨a, dd, ff, ms, e1, _⟩⟩ := P7
      rw [z, e1] at r3
      injection r3 with e
      injection e with e
      cases e
    have d8 := k8.at_ _ _ r3 (not1 ned)
    have notn : ∀ x : Str, x = "nothing" ∨ x = "" → x ∉ (namedL (A ++ B)).map (·.1) := fun x h m => by
      obtain ⟨h1, h2⟩ := hno x m
      rcases h with z | z
      · exact h1 z
      · exact h2 z
    have odd : OddOk K H8 (A ++ B) y := by
      simp only [List.mem_cons, List.not_mem_nil, or_false] at hy
      rcases hy with z | z | z | z | z | z | z <;> subst z
      · exact ⟨.inr ⟨_, rfl, notn _ (.inl rfl)⟩, .inl rfl⟩
      · exact ⟨.inl ⟨_, .base .non, by decide +kernel⟩, .inl rfl⟩
      · exact ⟨.inl ⟨_, .base (.int 5), by decide +kernel⟩, .inl rfl⟩
      · exact ⟨.inr ⟨_, rfl, notn _ (.inr rfl)⟩, .inl rfl⟩
      · exact ⟨.inl ⟨_, .base (.tup t8), by decide +kernel⟩, .inr ⟨_, rfl⟩⟩
      · exact ⟨.inl ⟨_, .base (.lst l8), by decide +kernel⟩, .inr ⟨_, rfl⟩⟩
      · exact ⟨.inl ⟨_, .base (.dK d8), by decide +kernel⟩, .inr ⟨_, rfl⟩⟩
    exact ⟨_, _, rfl, hn H8 R F y _ ⟨P8, d, hD8, eDn8, eR8, odd⟩ eF8 neFR neFL⟩

end
end K14
/-! law: what is refused -/
namespace K14
open PySem PySem.Spec PyProof.Rows L2
/-- the two exceptions, as they are caught and read -/
structure ExcMore (K : PySem.W.Frag) : Prop where
  xN : XfC K (He.ga K "NoName")
  xB : XfC K (He.ga K "BadWidth")
  nN : PySem.W.findIn K (.ref (He.ga K "NoName")) "name" = some none
  b1 : PySem.W.findIn K (.ref (He.ga K "BadWidth")) "name" = some none
  b2 : PySem.W.findIn K (.ref (He.ga K "BadWidth")) "wanted" = some none
  b3 : PySem.W.findIn K (.ref (He.ga K "BadWidth")) "told" = some none
  eNN : PySem.W.exmOne K (.ref (He.ga K "NoName")) (.ref (He.ga K "NoName")) = some true
  eBN : PySem.W.exmOne K (.ref (He.ga K "BadWidth")) (.ref (He.ga K "NoName")) = some false
  eBB : PySem.W.exmOne K (.ref (He.ga K "BadWidth")) (.ref (He.ga K "BadWidth")) = some true
/-- an except suite, shown later -/
def LaterS (X : Cx) (ss : List Stmt) : Addr → Value → Option Addr → TS := fun a cls d D σ H => ∀ (oe : Obj) (pn : List (Addr × Obj)), Zc cls d oe → (∃ vs, oe.data = .fields vs) → Goes (X.suite a ((a, oe) :: pn)) ss D σ H
theorem pss_laterS {X : Cx} {ss : List Stmt} {a : Addr} {oe : Obj} {cls : Value} {d : Option Addr} {pn : List (Addr × Obj)} (hz : Zc cls d oe) (hf : ∃ vs, oe.data = .fields vs) : PSs (X.suite a ((a, oe) :: pn)) ss (LaterS X ss a cls d) :=
  ⟨fun pins s σ H D I h => by
    obtain ⟨t, ht, q⟩ := h oe pn hz hf
    exact ht.run pins s σ H D I q⟩
def sufB (i : Nat) : List Stmt := match badB with
  | [.Try _ hs _ _ _] => (match hs[i]? with
    | some (.ExceptHandler _ _ b _) => b
    | _ => [])
  | _ => []
section
variable {P : Program} {w : World} {K : PySem.W.Frag} {mg : Str → Option Value} {base : Heap} {f : Addr} {cdv : Value} {s0 : Shared} {H0 : Hp} {E : XK}
theorem suite1 (EX : ExcMore K) (hr : Room 26 (XL P w K mg base f cdv s0 H0 E).A) {D : Ends} {H : Hp} {s p D0 Dn Wd F a dd : Addr} {y odd v : V} {as : List Addr} {x2 x4 x5 x6 x7 x9 x10 x11 x12 x13 x14 x15 x16 x22 x23 x24 : Option V} {oe : Obj} {pn : List (Addr × Obj)}
    (hz : Zc (.ref (He.ga K "NoName")) (some dd) oe) (hf : ∃ vs, oe.data = .fields vs) (ed : H dd = some (.xd [("name", v)])) (eF : H F = some (.lst (as.map V.ref))) (hl : as.length ≤ 10)
    (hn : ∀ t, H t = none → D.nx [some (.ref s), some (.ref p), x2, some (.ref D0), x4, x5, x6, x7, some (.ref Dn), x9, x10, x11, x12, x13, x14, x15, x16, some (.ref Wd), some (.ref F), some odd, some y, some (.ref a), x22, x23, x24] (upd (upd H t (.tup [.str "name", v])) F (.lst ((as ++ [t]).map V.ref)))) :
    Goes ((XL P w K mg base f cdv s0 H0 E).suite a ((a, oe) :: pn)) (sufB 0) D [some (.ref s), some (.ref p), x2, some (.ref D0), x4, x5, x6, x7, some (.ref Dn), x9, x10, x11, x12, x13, x14, x15, x16, some (.ref Wd), some (.ref F), some odd, some y, some (.ref a), x22, x23, x24] H := by
  have hu := hu_of hr
  refine ⟨_, (pss_one (ps_expr (pe_bm PySem.F.plainAttrs_list PySem.F.slot_list_append PySem.F.type_list_append mt_append (pv 18) (pa_cons (pe_tup (pa_cons pe_str (pa_cons (pe_xf EX.xN EX.nN hz hf (pv 21)) pa_nil))) pa_nil)))), ?_⟩
  refine ⟨_, rfl, .inl ⟨rfl, _, SqL.of eF⟩, _, rfl, rfl, rfl, dd, _, v, rfl, ed, rfl, (by show 2 ≤ sizeLine; decide), fun t nt => ?_⟩
  refine ⟨_, _, _, rfl, rfl, by rw [upd_ne (ne_of_none eF nt)]; exact eF, small _ (by rw [List.length_map]; omega), ?_⟩
  have z := hn t nt
  rw [List.map_append] at z
  exact z
theorem suite2 (EX : ExcMore K) (hr : Room 26 (XL P w K mg base f cdv s0 H0 E).A) {D : Ends} {H : Hp} {s p D0 Dn Wd F a dd : Addr} {y odd v : V} {wd : Nat} {as : List Addr} {x2 x4 x5 x6 x7 x9 x10 x11 x12 x13 x14 x15 x16 x22 x23 x24 : Option V} {oe : Obj} {pn : List (Addr × Obj)}
    (hz : Zc (.ref (He.ga K "BadWidth")) (some dd) oe) (hf : ∃ vs, oe.data = .fields vs) (ed : H dd = some (.xd [("told", .int (wd : Int)), ("wanted", .int 1), ("name", v)])) (eF : H F = some (.lst (as.map V.ref))) (hl : as.length ≤ 10)
    (hn : ∀ t, H t = none → D.nx [some (.ref s), some (.ref p), x2, some (.ref D0), x4, x5, x6, x7, some (.ref Dn), x9, x10, x11, x12, x13, x14, x15, x16, some (.ref Wd), some (.ref F), some odd, some y, some (.ref a), x22, x23, x24] (upd (upd H t (.tup [.str "width", v, .int 1, .int (wd : Int)])) F (.lst ((as ++ [t]).map V.ref)))) :
    Goes ((XL P w K mg base f cdv s0 H0 E).suite a ((a, oe) :: pn)) (sufB 1) D [some (.ref s), some (.ref p), x2, some (.ref D0), x4, x5, x6, x7, some (.ref Dn), x9, x10, x11, x12, x13, x14, x15, x16, some (.ref Wd), some (.ref F), some odd, some y, some (.ref a), x22, x23, x24] H := by
  have hu := hu_of hr
  refine ⟨_, (pss_one (ps_expr (pe_bm PySem.F.plainAttrs_list PySem.F.slot_list_append PySem.F.type_list_append mt_append (pv 18) (pa_cons (pe_tup (pa_cons pe_str (pa_cons (pe_xf EX.xB EX.b1 hz hf (pv 21)) (pa_cons (pe_xf EX.xB EX.b2 hz hf (pv 21)) (pa_cons (pe_xf EX.xB EX.b3 hz hf (pv 21)) pa_nil))))) pa_nil)))), ?_⟩
  refine ⟨_, rfl, .inl ⟨rfl, _, SqL.of eF⟩, _, rfl, rfl, rfl, dd, _, v, rfl, ed, rfl, _, rfl, rfl, rfl, dd, _, .int 1, rfl, ed, rfl, _, rfl, rfl, rfl, dd, _, .int (wd : Int), rfl, ed, rfl, (by show 4 ≤ sizeLine; decide), fun t nt => ?_⟩
  refine ⟨_, _, _, rfl, rfl, by rw [upd_ne (ne_of_none eF nt)]; exact eF, small _ (by rw [List.length_map]; omega), ?_⟩
  have z := hn t nt
  rw [List.map_append] at z
  exact z
end

section
variable {P : Program} {w : World} {K : PySem.W.Frag} {mg : Str → Option Value} {base : Heap} {f : Addr} {cdv : Value} {s0 : Shared} {H0 : Hp} {E : XK}
theorem bad1 (T : Top K mg) (TX : ExcTop P w K mg base) (EX : ExcMore K) (hr : Room 26 (XL P w K mg base f cdv s0 H0 E).A) {D : Ends} {H : Hp} {s p L D0 Dn Wd F : Addr} {c : Nat} {nm : Str} {A B : List It0} {odd y : V} {as : List Addr} {x2 x4 x5 x6 x7 x9 x10 x11 x12 x13 x14 x15 x16 x21 x22 x23 x24 : Option V}
    (hI : EndIn K H p L D0 c nm A B Dn Wd odd) (eF : H F = some (.lst (as.map V.ref))) (hl : as.length ≤ 10)
    (hy : (y = odd ∧ ∀ H' t, Kp [] H H' → H' t = none → D.nx [some (.ref s), some (.ref p), x2, some (.ref D0), x4, x5, x6, x7, some (.ref Dn), x9, x10, x11, x12, x13, x14, x15, x16, some (.ref Wd), some (.ref F), some odd, some y, none, x22, x23, x24] (upd (upd H' t (.tup [.str "name", odd])) F (.lst ((as ++ [t]).map V.ref)))) ∨
      ∃ x wd, (x, wd) ∈ namedL (A ++ B) ∧ y = .str x ∧ 1 < wd ∧ ∀ H' t, Kp [] H H' → H' t = none → D.nx [some (.ref s), some (.ref p), x2, some (.ref D0), x4, x5, x6, x7, some (.ref Dn), x9, x10, x11, x12, x13, x14, x15, x16, some (.ref Wd), some (.ref F), some odd, some y, none, x22, x23, x24] (upd (upd H' t (.tup [.str "width", .str x, .int 1, .int (wd : Int)])) F (.lst ((as ++ [t]).map V.ref)))) :
    Goes (XL P w K mg base f cdv s0 H0 E) badB D [some (.ref s), some (.ref p), x2, some (.ref D0), x4, x5, x6, x7, some (.ref Dn), x9, x10, x11, x12, x13, x14, x15, x16, some (.ref Wd), some (.ref F), some odd, some y, x21, x22, x23, x24] H := by
  have hu := hu_of hr
  obtain ⟨fdM, FM, gM, kM, bM⟩ := (cal_machine_of (P := P) (w := w) (base := base) T TX).ex
  refine ⟨_, (pss_cons (ps_try_as2 (i := 21) (c₁ := .ref (He.ga K "NoName")) (c₂ := .ref (He.ga K "BadWidth")) rfl rfl sc_law.nd rfl rfl ⟨by rfl, by decide, .inl TX.gN⟩ ⟨by rfl, by decide, .inl TX.gB⟩
      (fun W pn xe tk _ => (pss_one (ps_expr (pe_callS (E := WE W) FM (hr.mono (by decide)) (by rfl) gM kM bM (fun σ => passAt tk σ) (pa_cons (pv 3) (pa_cons (pv 20) pa_nil))))))
      (fun a oe cls d pn hz hf => pss_laterS hz hf)
      (fun a oe cls d pn hz hf => pss_laterS hz hf))
      pss_nil), ?_⟩
  have d := hI.d
  rcases hy with ⟨rfl, hN⟩ | ⟨x, wd, hx, rfl, hw, hB⟩
  · refine ⟨_, rfl, _, rfl, D0, nm, A, B, y, rfl, d, hI.ds, .inr (.inl ⟨hI.odd.no, fun H' dd k ed => ?_⟩)⟩
    refine ⟨true, EX.eNN, fun _ a na => ?_, fun q => nomatch q⟩
    intro oe pn hz hf
    exact suite1 EX hr hz hf ed (k.at_ _ _ eF (fun z => nomatch z)) hl fun t nt => hN H' t k nt
  · refine ⟨_, rfl, _, rfl, D0, nm, A, B, .str x, rfl, d, hI.ds, .inr (.inr ⟨x, wd, rfl, hx, by omega, fun H' dd k ed => ?_⟩)⟩
    refine ⟨false, EX.eBN, fun q => (nomatch q), fun _ => ⟨EX.eBB, fun a na => ?_⟩⟩
    intro oe pn hz hf
    exact suite2 EX hr hz hf ed (k.at_ _ _ eF (fun z => nomatch z)) hl fun t nt => hB H' t k nt

end
end K14
/-! law: the refusals, their end -/
namespace K14
open PySem PySem.Spec PyProof.Rows L2
/-- what the refusals tell -/
def fcon (its : List It0) (odd : V) : List (List V) := [V.str "name", odd] :: ((wideL its).take 1).map fun x => [V.str "width", .str x.1, .int 1, .int (x.2 : Int)]
theorem OddOk.put {K : PySem.W.Frag} {H : Hp} {its : List It0} {v : V} {F : Addr} {ys zs : List V} (x : OddOk K H its v) (e : H F = some (.lst ys)) : OddOk K (upd H F (.lst zs)) its v := by
  refine ⟨?_, x.eq⟩
  rcases x.no with ⟨t, h1, h2⟩ | h
  · refine .inl ⟨t, ?_, h2⟩
    have ne : ∀ {b : Addr} {o : HO}, H b = some o → (∀ us, o ≠ .lst us) → b ≠ F := fun {b o} eb no z => by
      rw [z, e] at eb
      exact no _ (Option.some.inj eb).symm
    cases h1 with
    | base h =>
      cases h with
      | non => exact .base .non
      | bl b => exact .base (.bl b)
      | int i => exact .base (.int i)
      | str z => exact .base (.str z)
      | flt z => exact .base (.flt z)
      | lst eb =>
        rename_i a xs
        by_cases z : a = F
        · subst z; exact .base (.lst upd_same)
        · exact .base (.lst (by rw [upd_ne z]; exact eb))
      | frz eb => exact .base (.frz (by rw [upd_ne (ne eb fun _ z => by cases z)]; exact eb))
      | tup eb => exact .base (.tup (by rw [upd_ne (ne eb fun _ z => by cases z)]; exact eb))
      | dK eb => exact .base (.dK (by rw [upd_ne (ne eb fun _ z => by cases z)]; exact eb))
      | dT eb => exact .base (.dT (by rw [upd_ne (ne eb fun _ z => by cases z)]; exact eb))
    | byt b => exact .byt b
    | set eb => exact .set (by rw [upd_ne (ne eb fun _ z => by cases z)]; exact eb)
    | kList eb c => exact .kList eb c
    | kTuple eb c => exact .kTuple eb c
    | kDict eb c => exact .kDict eb c
    | fTuple eb => exact .fTuple (by rw [upd_ne (ne eb fun _ z => by cases z)]; exact eb)
    | fDict eb => exact .fDict (by rw [upd_ne (ne eb fun _ z => by cases z)]; exact eb)
  · exact .inr h
theorem kp_put {H : Hp} {F : Addr} {ys zs : List V} (e : H F = some (.lst ys)) : Kp [F] H (upd H F (.lst zs)) :=
  Kp.putS .refl List.mem_cons_self (fun xs z => by rw [e] at z; cases z) (fun o u z => by rw [e] at z; cases z) ⟨_, e⟩
theorem EndIn.put {K : PySem.W.Frag} {H : Hp} {p L D0 Dn Wd F : Addr} {c : Nat} {nm : Str} {A B : List It0} {odd : V} {ys zs : List V} (x : EndIn K H p L D0 c nm A B Dn Wd odd) (e : H F = some (.lst ys)) (n1 : F ≠ Wd) (n2 : F ≠ L) :
    EndIn K (upd H F (.lst zs)) p L D0 c nm A B Dn Wd odd := by
  have k := kp_put (zs := zs) e
  have nd : Dn ≠ F := fun z => by have := x.dn; rw [z, e] at this; cases this
  exact ⟨x.pen.kp k (not1 (x.pen.neL e).symm) (not1 n2.symm), x.d, x.ds.kp k, k.at_ _ _ x.dn (not1 nd), k.at_ _ _ x.wd (not1 n1.symm), x.odd.put e⟩
theorem eqC_self {K : PySem.W.Frag} {H : Hp} {its : List It0} {v : V} (x : OddOk K H its v) : EqC K H v v true := by
  rcases x.eq with h | ⟨a, rfl⟩
  · have e : eqV v v = true := by
      cases v with
      | non => rfl
      | bl b => show (b == b) = true; simp
      | int i => show (i == i) = true; simp
      | str z => show (z == z) = true; simp
      | _ => cases h
    rw [← e]
    exact .flat h h
  · exact .same a
theorem cut1 (xs : List V) : cutV xs none (some 1) = xs.take 1 := by
  have e1 : HT.sIx xs.length xs.length (some 1) = min 1 xs.length := HT.sIx_nat xs.length xs.length 1
  have e2 : HT.sIx xs.length 0 none = 0 := rfl
  unfold cutV
  rw [e1, e2, List.drop_zero, Nat.sub_zero]
  cases xs with
  | nil => rfl
  | cons a r =>
    have e3 : min 1 (a :: r).length = 1 := by rw [List.length_cons]; omega
    rw [e3]

section
variable {P : Program} {w : World} {K : PySem.W.Frag} {mg : Str → Option Value} {base : Heap} {f : Addr} {cdv : Value} {s0 : Shared} {H0 : Hp} {E : XK}
theorem lap6 (T : Top K mg) (TX : ExcTop P w K mg base) (EX : ExcMore K) (hr : Room 26 (XL P w K mg base f cdv s0 H0 E).A) {D : Ends} {H : Hp} {s p L D0 Dn Wd F : Addr} {c : Nat} {nm : Str} {A B : List It0} {odd : V} {x2 x4 x5 x6 x7 x9 x10 x11 x12 x13 x14 x15 x16 x20 x21 x22 x23 x24 : Option V}
    (hI : EndIn K H p L D0 c nm A B Dn Wd odd) (eF : H F = some (.lst [])) (n1 : F ≠ Wd) (n2 : F ≠ L)
    (hn : ∀ H' as y20 y21, EndIn K H' p L D0 c nm A B Dn Wd odd → H' F = some (.lst (as.map V.ref)) → Paired (fun (a : Addr) xs => SqT K H' a xs) as (fcon (A ++ B) odd) → Goes (XL P w K mg base f cdv s0 H0 E) (lapB.drop 16) D [some (.ref s), some (.ref p), x2, some (.ref D0), x4, x5, x6, x7, some (.ref Dn), x9, x10, x11, x12, x13, x14, x15, x16, some (.ref Wd), some (.ref F), some odd, y20, y21, x22, x23, x24] H') :
    Goes (XL P w K mg base f cdv s0 H0 E) (lapB.drop 15) D [some (.ref s), some (.ref p), x2, some (.ref D0), x4, x5, x6, x7, some (.ref Dn), x9, x10, x11, x12, x13, x14, x15, x16, some (.ref Wd), some (.ref F), some odd, x20, x21, x22, x23, x24] H := by
  have hu := hu_of hr
  refine ⟨_, (pss_cons (ps_for PassesOwn.never rfl (pi_list (pe_op op_cat (pe_lst (pa_cons (pv 19) pa_nil)) (pe_slice sl_list (pv 17) po_none (po_some pe_int)))) (pg_name (i := 20) sc_law.nd rfl (Or.inl rfl)) pss_later) pss_later), ?_⟩
  have few := hI.d.few
  have lN := namedL_len (A ++ B)
  have lW : (wideL (A ++ B)).length ≤ 40 := by
    have z := List.length_filter_le (fun x : Str × Nat => decide (1 < x.2)) (namedL (A ++ B))
    unfold wideL
    omega
  refine ⟨_, rfl, (by show 1 ≤ sizeLine; decide), fun l1 nl1 => ?_⟩
  have k1 := Kp.refl.new nl1 (S := []) (o := .lst [odd])
  have e1 : upd H l1 (.lst [odd]) l1 = some (.lst [odd]) := upd_same
  have I1 := hI.kp k1
  have eF1 := k1.at_ _ _ eF (fun z => nomatch z)
  generalize upd H l1 (.lst [odd]) = H1 at k1 e1 I1 eF1
  refine ⟨_, rfl, _, rfl, _, _, rfl, SqL.of I1.wd, fun l2 nl2 => ?_⟩
  rw [cut1, ← List.map_take]
  generalize hw1 : (wideL (A ++ B)).take 1 = w1
  have lw1 : w1.length ≤ 1 := by rw [← hw1, List.length_take]; omega
  have k2 := Kp.refl.new nl2 (S := []) (o := .lst (w1.map fun x => V.str x.1))
  have e12 := k2.at_ _ _ e1 (fun z => nomatch z)
  have e2 : upd H1 l2 (.lst (w1.map fun x => V.str x.1)) l2 = some (.lst (w1.map fun x => V.str x.1)) := upd_same
  have I2 := I1.kp k2
  have eF2 := k2.at_ _ _ eF1 (fun z => nomatch z)
  generalize upd H1 l2 (.lst (w1.map fun x => V.str x.1)) = H2 at k2 e12 e2 I2 eF2
  refine ⟨_, _, _, _, rfl, rfl, e12, e2, (by have := small 200 (by decide); show 1 + (w1.map fun x => V.str x.1).length ≤ sizeLine; rw [List.length_map]; omega), fun l3 nl3 => ?_⟩
  have k3 := Kp.refl.new nl3 (S := []) (o := .lst ([odd] ++ w1.map fun x => V.str x.1))
  have e3 : upd H2 l3 (.lst ([odd] ++ w1.map fun x => V.str x.1)) l3 = some (.lst ([odd] ++ w1.map fun x => V.str x.1)) := upd_same
  have I3 := I2.kp k3
  have eF3 := k3.at_ _ _ eF2 (fun z => nomatch z)
  have n3 : l3 ≠ F := (ne_of_none eF2 nl3).symm
  generalize upd H2 l3 (.lst ([odd] ++ w1.map fun x => V.str x.1)) = H3 at k3 e3 I3 eF3
  have efc : fcon (A ++ B) odd = [V.str "name", odd] :: w1.map fun x => [V.str "width", .str x.1, .int 1, .int (x.2 : Int)] := by unfold fcon; rw [hw1]
  have lbl : ([odd] ++ w1.map fun x => V.str x.1).length = (fcon (A ++ B) odd).length := by rw [efc]; simp
  refine ⟨_, rfl, ⟨_, SqL.of e3⟩, for_it walk_list (fun i σ H' => ∃ y20 y21 as, σ = [some (.ref s), some (.ref p), x2, some (.ref D0), x4, x5, x6, x7, some (.ref Dn), x9, x10, x11, x12, x13, x14, x15, x16, some (.ref Wd), some (.ref F), some odd, y20, y21, x22, x23, x24] ∧ EndIn K H' p L D0 c nm A B Dn Wd odd ∧ H' F = some (.lst (as.map V.ref)) ∧ Paired (fun (a : Addr) xs => SqT K H' a xs) as ((fcon (A ++ B) odd).take i) ∧ H' l3 = some (.lst ([odd] ++ w1.map fun x => V.str x.1))) ⟨x20, x21, [], rfl, I3, eF3, .nil, e3⟩ (fun i σ H' _ ⟨_, _, _, _, _, _, _, e⟩ => SqL.of e) ?_ ?_⟩
  · rintro i x σ G0 H' hi ⟨y20, y21, as, rfl, I, eA, hp, el⟩ ⟨rfl, gx⟩
    have las := Paired.len hp
    rw [List.length_take] at las
    have hfl : (fcon (A ++ B) odd).length ≤ 2 := by rw [efc]; simp; omega
    -- one more
    have fin : ∀ {xs : List V}, (fcon (A ++ B) odd)[i]? = some xs → ∀ {G : Hp} {t : Addr}, Kp [] H' G → G t = none →
        EndIn K (upd (upd G t (.tup xs)) F (.lst ((as ++ [t]).map V.ref))) p L D0 c nm A B Dn Wd odd ∧ upd (upd G t (.tup xs)) F (.lst ((as ++ [t]).map V.ref)) F = some (.lst ((as ++ [t]).map V.ref)) ∧
        Paired (fun (a : Addr) ys => SqT K (upd (upd G t (.tup xs)) F (.lst ((as ++ [t]).map V.ref))) a ys) (as ++ [t]) ((fcon (A ++ B) odd).take (i + 1)) ∧ upd (upd G t (.tup xs)) F (.lst ((as ++ [t]).map V.ref)) l3 = some (.lst ([odd] ++ w1.map fun x => V.str x.1)) := fun {xs} gf {G t} k nt => by
      have kt := k.new nt (o := .tup xs)
      have eFt := kt.at_ _ _ eA (fun z => nomatch z)
      have kF := kp_put (zs := (as ++ [t]).map V.ref) eFt
      have tF : t ≠ F := fun z => by rw [z, upd_same] at eFt; cases eFt
      refine ⟨(I.kp kt).put eFt n1 n2, upd_same, ?_, ?_⟩
      · rw [List.take_add_one, gf]
        exact Paired.app (Paired.mapP hp fun _ _ z => kF.sqT (kt.sqT z)) (.cons (kF.sqT (SqT.of upd_same)) .nil)
      · rw [upd_ne n3]; exact kt.at_ _ _ el (fun z => nomatch z)
    refine bad1 T TX EX hr (y := x) I eA (by omega) ?_
    cases i with
    | zero =>
      have ex : odd = x := Option.some.inj gx
      subst ex
      exact .inl ⟨rfl, fun G t k nt => ⟨_, _, _, rfl, fin (by rw [efc]; rfl) k nt⟩⟩
    | succ j =>
      rw [List.singleton_append, List.getElem?_cons_succ, List.getElem?_map] at gx
      cases ej : w1[j]? with
      | none => rw [ej] at gx; cases gx
      | some xw =>
        obtain ⟨xn, wd⟩ := xw
        rw [ej] at gx
        have ex : V.str xn = x := Option.some.inj gx
        subst ex
        have mem : (xn, wd) ∈ wideL (A ++ B) := List.mem_of_mem_take (by rw [hw1]; exact List.mem_of_getElem? ej)
        unfold wideL at mem
        obtain ⟨m1, m2⟩ := List.mem_filter.mp mem
        exact .inr ⟨xn, wd, m1, rfl, of_decide_eq_true m2, fun G t k nt => ⟨_, _, _, rfl, fin (by rw [efc, List.getElem?_cons_succ, List.getElem?_map, ej]; rfl) k nt⟩⟩
  · rintro σ H' ⟨y20, y21, as, rfl, I, eA, hp, _⟩
    rw [lbl, List.take_length] at hp
    exact hn H' as y20 y21 I eA hp

theorem lap7 (T : Top K mg) (hr : Room 26 (XL P w K mg base f cdv s0 H0 E).A) {D : Ends} {H : Hp} {s p L D0 Dn Wd F : Addr} {c : Nat} {nm : Str} {A B : List It0} {odd : V} {as : List Addr} {x2 x4 x5 x6 x7 x9 x10 x11 x12 x13 x14 x15 x16 x20 x21 x22 x23 x24 : Option V}
    (hI : EndIn K H p L D0 c nm A B Dn Wd odd) (eF : H F = some (.lst (as.map V.ref))) (hp : Paired (fun (a : Addr) xs => SqT K H a xs) as (fcon (A ++ B) odd))
    (hn : LapEnd D s p L c) :
    Goes (XL P w K mg base f cdv s0 H0 E) (lapB.drop 16) D [some (.ref s), some (.ref p), x2, some (.ref D0), x4, x5, x6, x7, some (.ref Dn), x9, x10, x11, x12, x13, x14, x15, x16, some (.ref Wd), some (.ref F), some odd, x20, x21, x22, x23, x24] H := by
  have hu := hu_of hr
  have hu64 := hr.units
  refine ⟨_, (pss_cons (ps_if (PW.pt (pw_or (pt_cmpR op_ne (pe_callB call_len_seq (by rfl) T.f_len PySem.boot_len (pa_cons (pv 18) pa_nil)) (pe_op op_add pe_int (pe_callB call_len_seq (by rfl) T.f_len PySem.boot_len (pa_cons (pe_slice sl_list (pv 17) po_none (po_some pe_int)) pa_nil))) (nomark _)) (pw_or1 (pt_cmpR (op_neT hu64) (pe_ix ix_list (pv 18) pe_int (fun _ _ => rfl)) (pe_tup (pa_cons pe_str (pa_cons (pv 19) pa_nil))) (nomark _))))) (pss_one (ps_ret pe_bl)) pss_nil)
      (pss_cons (ps_if (PW.pt (pw_and (pt_cmpR (op_neLN hu) (pv 17) (pe_lst pa_nil) (nomark _)) (pw_and1 (pt_cmpR (op_neT hu64) (pe_ix ix_list (pv 18) pe_int (fun _ _ => rfl)) (pe_tup (pa_cons pe_str (pa_cons (pe_ix ix_list (pv 17) pe_int (fun _ _ => rfl)) (pa_cons pe_int (pa_cons (pe_dget hu (pv 8) (pe_ix ix_list (pv 17) pe_int (fun _ _ => rfl)) (fun _ _ => rfl)) pa_nil))))) (nomark _))))) (pss_one (ps_ret pe_bl)) pss_nil)
      pss_nil)), ?_⟩
  have d := hI.d
  have vmem : ∀ {s : Str} {u : Nat}, (s, u) ∈ namedL (A ++ B) → valV (namedK (A ++ B)) (Sum.inr s) = some (nV u) := fun h => valV_mem (namedK_nodup d.names) (List.mem_map_of_mem (f := fun x : Str × Nat => ((Sum.inr x.1 : Key), nV x.2)) h)
  have efc : fcon (A ++ B) odd = [V.str "name", odd] :: ((wideL (A ++ B)).take 1).map fun x => [V.str "width", .str x.1, .int 1, .int (x.2 : Int)] := rfl
  have las := Paired.len hp
  rw [efc, List.length_cons, List.length_map] at las
  rw [efc] at hp
  cases hp with
  | @cons a0 f0 as1 fr h0 hrest =>
  refine ⟨_, rfl, _, _, rfl, .inl (SqL.of eF), _, rfl, _, rfl, _, _, rfl, SqL.of hI.wd, fun q nq => ?_⟩
  rw [cut1, ← List.map_take]
  refine ⟨_, _, rfl, .inl (SqL.of upd_same), _, _, rfl, rfl, rfl, _, rfl, ifBF ?_ ?_⟩
  · show (!decide (V.int _ = V.int _)) = false
    rw [List.length_map, List.length_map, las, decide_eq_true ?_]; rfl
    congr 1
    omega
  have k1 := Kp.refl.new nq (S := []) (o := .lst (((wideL (A ++ B)).take 1).map fun x => V.str x.1))
  have I1 := hI.kp k1
  have eF1 := k1.at_ _ _ eF (fun z => nomatch z)
  have h01 := k1.sqT h0
  have hr1 := Paired.mapP hrest fun _ _ z => k1.sqT z
  generalize upd H q (.lst (((wideL (A ++ B)).take 1).map fun x => V.str x.1)) = H1 at k1 I1 eF1 h01 hr1
  refine ⟨_, rfl, _, _, _, _, rfl, rfl, SqL.of eF1, atI_nat (j := 0) rfl, _, rfl, (by show 2 ≤ sizeLine; decide), fun t2 nt2 => ?_⟩
  have k2 := Kp.refl.new nt2 (S := []) (o := .tup [.str "name", odd])
  refine ⟨_, _, _, _, _, rfl, rfl, k2.sqT h01, SqT.of upd_same, .cons (.flat rfl rfl) (.cons (eqC_self (I1.kp k2).odd) .nil), _, rfl, ifBF ?_ ?_⟩
  · show (!(((("name" : Str) == ("name" : Str)) && (true && true)) && (2 == 2))) = false
    decide +kernel
  have I2 := I1.kp k2
  have eF2 := k2.at_ _ _ eF1 (fun z => nomatch z)
  have hr2 := Paired.mapP hr1 fun _ _ z => k2.sqT z
  generalize upd H1 t2 (.tup [.str "name", odd]) = H2 at k2 I2 eF2 hr2
  refine ⟨_, rfl, (by show 0 ≤ sizeLine; decide), fun l3 nl3 => ?_⟩
  have k3 := Kp.refl.new nl3 (S := []) (o := .lst [])
  have I3 := I2.kp k3
  have eF3 := k3.at_ _ _ eF2 (fun z => nomatch z)
  have hr3 := Paired.mapP hr2 fun _ _ z => k3.sqT z
  refine ⟨_, _, _, rfl, rfl, SqL.of I3.wd, SqL.of upd_same, _, rfl, ?_⟩
  generalize upd H2 l3 (.lst []) = H3 at k3 I3 eF3 hr3
  have eW := I3.wd
  cases hw : wideL (A ++ B) with
  | nil =>
    refine ifBF rfl ?_
    exact hn _ H3 c rfl I3.pen (Nat.le_refl _)
  | cons xw r =>
    obtain ⟨xn, wd⟩ := xw
    rw [hw] at hr3 eW
    have mem : (xn, wd) ∈ namedL (A ++ B) := (List.mem_filter.mp (show (xn, wd) ∈ (namedL (A ++ B)).filter fun x => decide (1 < x.2) from by
      have z : (xn, wd) ∈ wideL (A ++ B) := by rw [hw]; exact List.mem_cons_self
      exact z)).1
    refine ifBT rfl ?_
    cases hr3 with
    | @cons a1 f1 as2 fr2 h1 _ =>
    refine ⟨_, rfl, _, _, _, _, rfl, rfl, SqL.of eF3, atI_nat (j := 1) rfl, ?_⟩
    refine ⟨_, rfl, _, _, _, _, rfl, rfl, SqL.of eW, atI_nat (j := 0) rfl, ?_⟩
    refine ⟨_, rfl, _, rfl, _, _, _, _, rfl, rfl, SqL.of eW, atI_nat (j := 0) rfl, _, _, rfl, .inl ⟨_, Sum.inr xn, .inl I3.dn, rfl, (vmem mem).symm⟩, (by show 4 ≤ sizeLine; decide), fun t4 nt4 => ?_⟩
    have k4 := Kp.refl.new nt4 (S := []) (o := .tup [.str "width", .str xn, .int 1, nV wd])
    refine ⟨_, _, _, _, _, rfl, rfl, k4.sqT h1, SqT.of upd_same, .cons (.flat rfl rfl) (.cons (.flat rfl rfl) (.cons (.flat rfl rfl) (.cons (.flat (x := .int (wd : Int)) (y := nV wd) rfl rfl) .nil))), _, rfl, ifBF ?_ ?_⟩
    · show (!(((("width" : Str) == ("width" : Str)) && ((xn == xn) && (((1 : Int) == 1) && (((wd : Int) == (wd : Int)) && true)))) && (4 == 4))) = false
      simp
    · exact hn _ _ c rfl (I3.kp k4).pen (Nat.le_refl _)

end
end K14
/-! law: laps, the whole -/
namespace K14
open PySem PySem.Spec PyProof.Rows L2
section
variable {P : Program} {w : World} {K : PySem.W.Frag} {mg : Str → Option Value} {base : Heap} {f : Addr} {cdv : Value} {s0 : Shared} {H0 : Hp} {E : XK}
theorem lap_all (T : Top K mg) (TX : ExcTop P w K mg base) (EX : ExcMore K) (hr : Room 26 (XL P w K mg base f cdv s0 H0 E).A) (hg : (XL P w K mg base f cdv s0 H0 E).A.guards = some []) {D : Ends} {H : Hp} {s p L : Addr} {c : Nat} {x2 x3 x4 x5 x6 x7 x8 x9 x10 x11 x12 x13 x14 x15 x16 x17 x18 x19 x20 x21 x22 x23 x24 : Option V}
    (hP : PenAt H p L c) (hc : c + 5000 ≤ maxDraws) (hn : LapEnd D s p L (c + 5000)) : Goes (XL P w K mg base f cdv s0 H0 E) lapB D [some (.ref s), some (.ref p), x2, x3, x4, x5, x6, x7, x8, x9, x10, x11, x12, x13, x14, x15, x16, x17, x18, x19, x20, x21, x22, x23, x24] H := by
  have hc9 : maxDraws = 1000000 := rfl
  refine lap1 T hr hP hc fun H1 D0 nm A B c1 S1 hc1 hD1 d1 hok1 hno1 => ?_
  refine lap2 T hr S1.at_ (by omega) hD1 d1 hok1 hno1 fun H2 D2 A2 c2 y4 y5 S2 hc2 hD2 d2 hok2 hno2 => ?_
  refine lap3 T TX hr hg S2.at_ (by omega) hD2 d2 hok2 fun H3 Li Lr Dn told own ts rws wish y23 I3 => ?_
  refine lap4 T hr I3 (by omega) fun H4 ts4 ss4 y14 y15 y16 y24 c4 I4 hc4 => ?_
  obtain ⟨tr, tn, gs, rs, ns, wl, R4⟩ := I4.run
  refine lap5 T hr I4.pen (by omega) R4.ds d2 hno2 I4.dn fun H5 Wd F odd y23 I5 eF n1 n2 => ?_
  refine lap6 T TX EX hr I5 eF n1 n2 fun H6 as y20 y21 I6 eF6 hp6 => ?_
  refine lap7 T hr I6 eF6 hp6 fun rest H7 c7 hl P7 hc7 => hn rest H7 c7 hl P7 (by omega)
def spLaw (K : PySem.W.Frag) : Sp := fun vs H Q _ => ∃ (a : Addr) (ns : List Int), vs = [.ref a] ∧ SqL K H a (ns.map V.int) ∧ ∀ H', Q (.bl true) H'
theorem law_body (T : Top K mg) (TX : ExcTop P w K mg base) (EX : ExcMore K) (hr : Room 26 (XL P w K mg base f cdv s0 H0 E).A) (hg : (XL P w K mg base f cdv s0 H0 E).A.guards = some []) {D : Ends} {H : Hp} {s : Addr} {ns : List Int}
    (hs : SqL K H s (ns.map V.int)) (hq : ∀ H', D.rt (.bl true) H') : Goes (XL P w K mg base f cdv s0 H0 E) lawB D (start nm_law [.ref s]) H := by
  have hu := hu_of hr
  have hc9 : maxDraws = 1000000 := rfl
  refine ⟨_, (pss_cons (ps_set (i := 1) sc_law.nd rfl (Or.inr rfl) (C8.pe_c (cal_law_pen T) hr (by decide) rfl (pa_cons (pv 0) pa_nil)))
      (pss_cons (ps_for PassesOwn.never rfl (pi_range1 (by rfl) T.f_range (pa_cons pe_int pa_nil)) (pg_name (i := 2) sc_law.nd rfl (Or.inl rfl)) pss_later)
      (pss_one (ps_ret pe_bl)))), ?_⟩
  refine ⟨_, rfl, s, ns, rfl, hs, fun H1 p L k1 P1 => ?_⟩
  refine ⟨3, rfl, by decide, by decide, for_range (lo := 0) (n := 3) (fun i σ H' => ∃ (rest : List (Option V)) (c' : Nat), σ = some (.ref s) :: some (.ref p) :: rest ∧ rest.length = 23 ∧ PenAt H' p L c' ∧ c' ≤ 5000 * i) ⟨_, 0, rfl, by decide, P1, by omega⟩ ?_ ?_⟩
  · rintro i σ H' hi ⟨rest, c', rfl, hl, P', hc'⟩
    obtain ⟨x2, x3, x4, x5, x6, x7, x8, x9, x10, x11, x12, x13, x14, x15, x16, x17, x18, x19, x20, x21, x22, x23, x24, rfl⟩ : ∃ x2 x3 x4 x5 x6 x7 x8 x9 x10 x11 x12 x13 x14 x15 x16 x17 x18 x19 x20 x21 x22 x23 x24, rest = [x2, x3, x4, x5, x6, x7, x8, x9, x10, x11, x12, x13, x14, x15, x16, x17, x18, x19, x20, x21, x22, x23, x24] := by
      match rest, hl with
      | [x2, x3, x4, x5, x6, x7, x8, x9, x10, x11, x12, x13, x14, x15, x16, x17, x18, x19, x20, x21, x22, x23, x24], _ => exact ⟨_, _, _, _, _, _, _, _, _, _, _, _, _, _, _, _, _, _, _, _, _, _, _, rfl⟩
    refine lap_all T TX EX hr hg P' (by omega) fun rest H2 c2 hl2 P2 hc2 => ⟨rest, c2, rfl, hl2, P2, by omega⟩
  · rintro σ H' ⟨rest, c', rfl, hl, P', hc'⟩
    exact hq H'
end
end K14
/-! the head's facts -/
namespace K14
open PySem PySem.Spec PyProof.Rows L2 K14E
theorem ba {a b : Bool} (h : (a && b) = true) : a = true ∧ b = true := Bool.and_eq_true_iff.mp h
/-- an own exception class over ValueError -/
def clsB (K : PySem.W.Frag) (C : Addr) : Bool := match K.lookup C with
  | some ⟨.type t, _, .cls cd, sl⟩ => decide (t = "type") && (match cd.mro, sl.toList with
    | .ref C' :: bm, [_, _, _, _, some (.builtin n), _] => decide (C' = C) && (decide (n = "ValueError.__new__") && (!cd.hasDel && (cd.hasDict && PySem.HandSPX.refsVE bm)))
    | _, _ => false)
  | _ => false
theorem clsB_ok {K : PySem.W.Frag} {C : Addr} (h : clsB K C = true) : ∃ nm q N bs bm sn sub ab col dd k0 k1 k2 k3 k5, K.lookup C = some (excClassObj nm q C N bs bm true sn sub ab col dd k0 k1 k2 k3 k5 "ValueError.__new__") ∧ PySem.HandSPX.refsVE bm = true := by
  unfold clsB at h
  split at h
  · rename_i t dd cd sl ho
    obtain ⟨h0, h⟩ := ba h
    split at h
    · rename_i C' bm k0 k1 k2 k3 n k5 hm hs
      obtain ⟨h1, h⟩ := ba h
      obtain ⟨h2, h⟩ := ba h
      obtain ⟨h3, h⟩ := ba h
      obtain ⟨h4, h5⟩ := ba h
      have e0 := of_decide_eq_true h0
      have e1 := of_decide_eq_true h1
      have e2 := of_decide_eq_true h2
      subst e0 e1 e2
      obtain ⟨nm, bs, mro, ns, qn, hd, sn, sub, ab, col, del⟩ := cd
      dsimp only at hm h3 h4
      subst hm
      subst h4
      have h3' : del = false := by simpa using h3
      subst h3'
      have hsl : sl = #[k0, k1, k2, k3, some (.builtin "ValueError.__new__"), k5] := by
        obtain ⟨l⟩ := sl
        simp only at hs
        rw [hs]
      subst hsl
      exact ⟨nm, qn, ns, bs, bm, sn, sub, ab, col, dd, k0, k1, k2, k3, k5, ho, h5⟩
    · cases h
  · cases h
/-- a function with one captured cell, that of its class -/
def celB (K : PySem.W.Frag) (fl : Str) (f C : Addr) (qual : Str) : Bool := match K.lookup f with
  | some ⟨_, _, .func fd, _⟩ => (match fd.closure, fd.code, fd.defaults with
    | [(n, cc)], .ref cda, .none => decide (n = "__class__") && (PySem.W.codeIn K (.ref cda) qual && ((match K.lookup cc with
      | some ⟨_, _, .cell (some (.ref D)), _⟩ => decide (D = C)
      | _ => false) && (match K.lookup cda with
      | some ⟨_, _, .fields vs, _⟩ => (match vs[2]? with
        | some (Value.str file _) => fl == file
        | _ => false)
      | _ => false)))
    | _, _, _ => false)
  | _ => false
abbrev FnC : Type := Option (Str × Str × Arguments × FuncBody × Scope × Addr × Addr)
def fnC (K : PySem.W.Frag) (f : Addr) : FnC := match K.lookup f with
  | some ⟨_, _, .func fd, _⟩ => some (fd.name, fd.qualname, fd.params, fd.body, fd.scope, fd.globals, fd.builtins)
  | _ => none
def valC (qual : Str) (s : Stmt) : FnC := some ("__init__", qual, C8.fnArgs s, .stmts (C8.fnBody s), C8.fnScope s, mainGlobals, builtinsNs)
theorem celB_ok {K : PySem.W.Frag} {P : Program} {f C : Addr} {qual : Str} {s : Stmt} (h : celB K P.main.file f C qual = true) (e : fnC K f = valC qual s) :
    ∃ cc cda, (∃ cl cld csl, K.lookup cc = some ⟨cl, cld, .cell (some (.ref C)), csl⟩) ∧ (∃ ccl cdd vs ccs file tf, K.lookup cda = some ⟨ccl, cdd, .fields vs, ccs⟩ ∧ vs[2]? = some (.str file tf) ∧ ((P.main.file : Str) == file) = true) ∧
      ∃ oc od osl kV doc pm an ct, K.lookup f = some ⟨oc, od, .func (PySem.W.ksFn "__init__" qual (C8.fnArgs s) (C8.fnBody s) (C8.fnScope s) .none kV doc pm an (.ref cda) ct cc), osl⟩ ∧ PySem.W.codeIn K (.ref cda) qual = true := by
  unfold celB at h
  unfold fnC valC at e
  split at h
  · rename_i oc od fd osl ho
    rw [ho] at e
    split at h
    · rename_i n cc cda hcl hcd hdf
      obtain ⟨h1, h⟩ := ba h
      obtain ⟨h2, h⟩ := ba h
      obtain ⟨h3, h4⟩ := ba h
      have e1 := of_decide_eq_true h1
      subst e1
      obtain ⟨n1, n2, n3, n4, n5, n6, n7, n8, n9, n10, n11, n12, n13, n14, n15⟩ := fd
      dsimp only at hcl hcd hdf
      subst hcl hcd hdf
      have e2 : (some (n1, n2, n3, n4, n5, n6, n15) : FnC) = (some (("__init__" : Str), qual, C8.fnArgs s, FuncBody.stmts (C8.fnBody s), C8.fnScope s, mainGlobals, builtinsNs) : FnC) := e
      simp only [Option.some.injEq, Prod.mk.injEq] at e2
      obtain ⟨g1, g2, g3, g4, g5, g6, g7⟩ := e2
      subst g1 g2 g3 g4 g5 g6 g7
      refine ⟨cc, cda, ?_, ?_, oc, od, osl, n9, n10, n11, n12, n14, ho, h2⟩
      · split at h3
        · rename_i cl cld D csl hc
          have e3 := of_decide_eq_true h3
          subst e3
          exact ⟨_, _, _, hc⟩
        · cases h3
      · split at h4
        · rename_i ccl cdd vs ccs hv
          split at h4
          · rename_i file tf hf
            exact ⟨_, _, _, _, _, _, hv, hf, h4⟩
          · cases h4
        · cases h4
    · cases h
  · cases h
/-- all of such a class -/
def supB (K : PySem.W.Frag) (fl : Str) (C : Addr) (qual : Str) : Bool :=
  clsB K C && (He.eqO (PySem.W.findIn K (.ref C) "__setattr__") (some (some (.builtin "object.__setattr__"))) && (He.eqO (PySem.W.findIn K (.ref C) "__init__") (some (some (.ref (He.ma K C "__init__")))) &&
  (decide (PySem.W.typeIn K (.ref (He.ma K C "__init__")) = some (.type "function")) && (PySem.W.keepIn K (.ref C) && (decide (PySem.W.subIn K (.ref C) (.type "BaseException") = some true) &&
  (decide (PySem.W.typeIn K (.ref C) = some (.type "type")) && (decide (PySem.W.subIn K (.ref C) (.type "ValueError") = some true) && (decide (PySem.W.mroIn K C (.ref C) = some true) &&
  (He.eqO (PySem.W.nsIn K cStatics "thirdparty.any") (some none) && (He.eqO (PySem.W.ks_superIn K C C "__init__") (some (some (.builtin "ValueError.__init__"))) && celB K fl (He.ma K C "__init__") C qual))))))))))
theorem supB_ok {P : Program} {K : PySem.W.Frag} {mg : Str → Option Value} {C : Addr} {qual : Str} {s : Stmt} (h : supB K P.main.file C qual = true) (e : fnC K (He.ma K C "__init__") = valC qual s) (hs : mg "super" = none) (ht : (P.main.scope.names.lookup ("super" : Str)).isSome = false) :
    ∃ cc cda, SupTxt P K mg C (He.ma K C "__init__") cc cda qual s := by
  unfold supB at h
  obtain ⟨h1, h⟩ := ba h
  obtain ⟨h2, h⟩ := ba h
  obtain ⟨h3, h⟩ := ba h
  obtain ⟨h4, h⟩ := ba h
  obtain ⟨h5, h⟩ := ba h
  obtain ⟨h6, h⟩ := ba h
  obtain ⟨h7, h⟩ := ba h
  obtain ⟨h8, h⟩ := ba h
  obtain ⟨h9, h⟩ := ba h
  obtain ⟨h10, h⟩ := ba h
  obtain ⟨h11, h12⟩ := ba h
  obtain ⟨cc, cda, hc, hd, hf⟩ := celB_ok h12 e
  exact ⟨cc, cda, ⟨clsB_ok h1, He.eqO_ok h2, He.eqO_ok h3, of_decide_eq_true h4, h5, of_decide_eq_true h6, of_decide_eq_true h7, of_decide_eq_true h8, of_decide_eq_true h9, He.eqO_ok h10, He.eqO_ok h11, hs, hc, hd, ht, hf⟩⟩
def insB (K : PySem.W.Frag) (C : Addr) : Bool :=
  He.eqO (PySem.W.findIn K (.ref C) "__class__") (some (some (.builtin "object.__class__"))) && (He.eqO (PySem.W.specialIn K (.builtin "object.__class__") "__get__") (some (some (.builtin "getset_descriptor.__get__"))) &&
  (decide (PySem.W.takesIn K (.builtin "object.__class__") = some true) && (decide (PySem.W.mroIn K C (.type "object") = some true) && decide (PySem.W.kitOne K (.ref C) (.ref C) = some true))))
theorem insB_ok {K : PySem.W.Frag} {C : Addr} (c : Cls K C) (h : insB K C = true) : C8.InsC K C := by
  unfold insB at h
  obtain ⟨h1, h⟩ := ba h
  obtain ⟨h2, h⟩ := ba h
  obtain ⟨h3, h⟩ := ba h
  obtain ⟨h4, h5⟩ := ba h
  exact ⟨c, He.eqO_ok h1, He.eqO_ok h2, of_decide_eq_true h3, of_decide_eq_true h4, of_decide_eq_true h5⟩
section
variable {K : PySem.W.Frag} {h : Heap} {mg : Str → Option Value}
def dfD (x : Str) (s : Stmt) : He.DefD := ⟨(x, none), x, x, C8.fnArgs s, C8.fnBody s, C8.fnScope s, [], []⟩
def mtD (C m qual : Str) (s : Stmt) : He.DefD := ⟨(C, some m), m, qual, C8.fnArgs s, C8.fnBody s, C8.fnScope s, [], []⟩
theorem fun_of {x qual : Str} {s : Stmt} {f : Addr} {fd : FuncData} (F : FunD K x qual (C8.fnArgs s) (C8.fnBody s) (C8.fnScope s) [] [] f fd) : C8.Fun K x qual s f fd := by
  obtain ⟨oc, od, dV, kV, doc, pm, an, cdv, ct, osl, e, lk, hcd, _, _⟩ := F.ex
  exact ⟨oc, od, dV, kV, doc, pm, an, cdv, ct, osl, e, lk, hcd⟩
abbrev BindOk (x qual : Str) (s : Stmt) (ps : List Str) : Prop := ∀ (kV doc pm : Value) (an : Option Addr) (cdv ct : Value) (us : List Value), us.length = ps.length → bindArgs (PySem.W.fnOf x qual (C8.fnArgs s) (C8.fnBody s) (C8.fnScope s) .none kV doc pm an cdv ct) ⟨us, []⟩ = pure (ps.zip us)
theorem hasDef {x : Str} {s : Stmt} {ps : List Str} (X : K.In h) (G : h.Ns mainGlobals mg) (g : (He.Fa.glo x).ok K = true) (d : ∃ fd, FunD K x x (C8.fnArgs s) (C8.fnBody s) (C8.fnScope s) [] [] (He.ga K x) fd) (b : BindOk x x s ps) : HasDef K mg x s ps := by
  obtain ⟨fd, F⟩ := d
  exact ⟨fd, ⟨fun_of F, He.glo_ok X G g, F.kp⟩, F.bindsN b⟩
theorem hasMeth {C m qual : Str} {s : Stmt} {ps : List Str} (g : (He.Fa.meth C m).ok K = true) (d : ∃ fd, FunD K m qual (C8.fnArgs s) (C8.fnBody s) (C8.fnScope s) [] [] (He.ma K (He.ga K C) m) fd) (b : BindOk m qual s ps) : HasMeth K C m qual s ps := by
  obtain ⟨fd, F⟩ := d
  exact ⟨⟨fd, fun_of F, F.bindsN b⟩, He.meth_ok g⟩
theorem hasMk {C qual : Str} {s : Stmt} {ps : List Str} (g : (He.Fa.mkr C).ok K = true) (d : ∃ fd, FunD K "__init__" qual (C8.fnArgs s) (C8.fnBody s) (C8.fnScope s) [] [] (He.ma K (He.ga K C) "__init__") fd) (b : BindOk "__init__" qual s ps) : HasMk K C qual s ps := by
  obtain ⟨fd, F⟩ := d
  exact ⟨⟨fd, fun_of F, F.bindsN b⟩, He.mkr_ok g⟩
end
def fa0 : List He.Fa := [.free "len", .free "abs", .free "max", .free "min", .free "sum", .free "all", .free "isinstance", .free "repr", .free "int", .free "str", .free "tuple", .free "list", .free "dict", .free "bool", .free "range", .free "zip", .free "enumerate", .free "super", .glo "is_count", .glo "is_literal", .glo "are_gates", .glo "opposite", .glo "is_bit", .glo "are_bits", .glo "or_of", .glo "xor_of", .glo "choice_of", .glo "number_word", .glo "number_bits", .glo "full_sum"]
def fa1 : List He.Fa := [.glo "summed", .glo "negated", .glo "difference", .glo "product", .glo "is_below", .glo "is_equal", .glo "chosen", .glo "bitwise", .glo "pair_word", .glo "moved_word", .glo "joined_word", .glo "expression_word", .glo "word_table", .glo "machine_of", .glo "_law_pen", .glo "_law_draw", .glo "_law_pick", .glo "_law_values", .glo "_law_bit", .glo "_law_tick", .glo "_law_longer", .glo "_law_word", .glo "_law_bitwise", .glo "_law_drawn_expression", .glo "_law_reset", .glo "_law_module", .glo "_law_cycle", .glo "_law_input_rows", .glo "_law_drawn_module", .glo "_law_counter"]
def fa2 : List He.Fa := [.glo "_law_lock", .glo "_law_bits_of", .glo "_law_parts", .glo "_law_own", .glo "_law_wish_word", .glo "_law_cycle_right", .glo "law", .glo "Graph", .cls "Graph", .mkr "Graph", .glo "Builder", .cls "Builder", .mkr "Builder", .glo "Machine", .cls "Machine", .mkr "Machine", .meth "Builder" "graph", .meth "Builder" "and_of", .noat "Builder" "leaves", .noat "Builder" "gates", .noat "Builder" "places", .noat "Graph" "leaves", .noat "Graph" "gates", .noat "Machine" "graph", .noat "Machine" "inputs", .noat "Machine" "resets", .noat "Machine" "nexts", .noat "Machine" "wish", .noat "NoName" "name", .noat "BadWidth" "name"]
def fa3 : List He.Fa := [.noat "BadWidth" "wanted", .noat "BadWidth" "told", .glo "NoName", .glo "BadWidth", .exm "NoName" "NoName" true, .exm "BadWidth" "NoName" false, .exm "BadWidth" "BadWidth" true]
def faL : List He.Fa := fa0 ++ fa1 ++ fa2 ++ fa3
def fn0 : List He.DefD := [dfD "is_count" (st 7), dfD "is_literal" (st 8), dfD "are_gates" (st 9), dfD "opposite" (st 11), dfD "is_bit" (st 12), dfD "are_bits" (st 13), dfD "or_of" (st 15), dfD "xor_of" (st 16), dfD "choice_of" (st 17), dfD "number_word" (st 21), dfD "number_bits" (st 22), dfD "full_sum" (st 23), dfD "summed" (st 24), dfD "negated" (st 25), dfD "difference" (st 26), dfD "product" (st 27), dfD "is_below" (st 28), dfD "is_equal" (st 29), dfD "chosen" (st 30), dfD "bitwise" (st 31)]
def fn1 : List He.DefD := [dfD "pair_word" (st 32), dfD "moved_word" (st 33), dfD "joined_word" (st 34), dfD "expression_word" (st 35), dfD "word_table" (st 36), dfD "machine_of" (st 37), dfD "_law_pen" (st 39), dfD "_law_draw" (st 40), dfD "_law_pick" (st 41), dfD "_law_values" (st 42), dfD "_law_bit" (st 43), dfD "_law_tick" (st 44), dfD "_law_longer" (st 45), dfD "_law_word" (st 46), dfD "_law_bitwise" (st 47), dfD "_law_drawn_expression" (st 48), dfD "_law_reset" (st 49), dfD "_law_module" (st 50), dfD "_law_cycle" (st 51), dfD "_law_input_rows" (st 52)]
def fn2 : List He.DefD := [dfD "_law_drawn_module" (st 53), dfD "_law_counter" (st 54), dfD "_law_lock" (st 55), dfD "_law_bits_of" (st 56), dfD "_law_parts" (st 57), dfD "_law_own" (st 58), dfD "_law_wish_word" (st 59), dfD "_law_cycle_right" (st 60), dfD "law" (st 61), mtD "Graph" "__init__" "Graph.__init__" (ms 10 0), mtD "Builder" "__init__" "Builder.__init__" (ms 14 0), mtD "Machine" "__init__" "Machine.__init__" (ms 19 0), mtD "Builder" "graph" "Builder.graph" (ms 14 1), mtD "Builder" "and_of" "Builder.and_of" (ms 14 2)]
def fnL : List He.DefD := fn0 ++ fn1 ++ fn2
/-- the other facts -/
def exB (fl : Str) (K : PySem.W.Frag) : Bool := insB K (He.ga K "Graph") && (insB K (He.ga K "Builder") && (insB K (He.ga K "Machine") && (supB K fl (He.ga K "NoName") "NoName.__init__" && (supB K fl (He.ga K "BadWidth") "BadWidth.__init__" && (xfB K (He.ga K "NoName") && xfB K (He.ga K "BadWidth"))))))
structure SaysL (fl : Str) (K : PySem.W.Frag) : Prop where
  d : He.SaysD faL fnL K
  ex : exB fl K = true
  cN : fnC K (He.ma K (He.ga K "NoName") "__init__") = valC "NoName.__init__" sN
  cB : fnC K (He.ma K (He.ga K "BadWidth") "__init__") = valC "BadWidth.__init__" sB
section
variable {P : Program} {w : World} {K : PySem.W.Frag} {h : Heap} {mg : Str → Option Value} {base : Heap} {fl : Str}
theorem top_of (X : K.In h) (G : h.Ns mainGlobals mg) (c : SaysL fl K) : Top K mg := by
  have e := c.ex
  unfold exB at e
  obtain ⟨e1, e⟩ := ba e
  obtain ⟨e2, e⟩ := ba e
  obtain ⟨e3, e⟩ := ba e
  exact {
    f_len := He.free_ok X G (c.d.fact 0 (f := .free "len") rfl)
    f_abs := He.free_ok X G (c.d.fact 1 (f := .free "abs") rfl)
    f_max := He.free_ok X G (c.d.fact 2 (f := .free "max") rfl)
    f_min := He.free_ok X G (c.d.fact 3 (f := .free "min") rfl)
    f_sum := He.free_ok X G (c.d.fact 4 (f := .free "sum") rfl)
    f_all := He.free_ok X G (c.d.fact 5 (f := .free "all") rfl)
    f_isinstance := He.free_ok X G (c.d.fact 6 (f := .free "isinstance") rfl)
    f_repr := He.free_ok X G (c.d.fact 7 (f := .free "repr") rfl)
    f_int := He.free_ok X G (c.d.fact 8 (f := .free "int") rfl)
    f_str := He.free_ok X G (c.d.fact 9 (f := .free "str") rfl)
    f_tuple := He.free_ok X G (c.d.fact 10 (f := .free "tuple") rfl)
    f_list := He.free_ok X G (c.d.fact 11 (f := .free "list") rfl)
    f_dict := He.free_ok X G (c.d.fact 12 (f := .free "dict") rfl)
    f_bool := He.free_ok X G (c.d.fact 13 (f := .free "bool") rfl)
    f_range := He.free_ok X G (c.d.fact 14 (f := .free "range") rfl)
    f_zip := He.free_ok X G (c.d.fact 15 (f := .free "zip") rfl)
    f_enumerate := He.free_ok X G (c.d.fact 16 (f := .free "enumerate") rfl)
    d_is_count := hasDef X G (c.d.fact 18 (f := .glo "is_count") rfl) (c.d.def_ 0 (d := dfD "is_count" (st 7)) rfl) (fun _ _ _ _ _ _ us hl => match us, hl with | [_], _ => rfl)
    d_is_literal := hasDef X G (c.d.fact 19 (f := .glo "is_literal") rfl) (c.d.def_ 1 (d := dfD "is_literal" (st 8)) rfl) (fun _ _ _ _ _ _ us hl => match us, hl with | [_, _], _ => rfl)
    d_are_gates := hasDef X G (c.d.fact 20 (f := .glo "are_gates") rfl) (c.d.def_ 2 (d := dfD "are_gates" (st 9)) rfl) (fun _ _ _ _ _ _ us hl => match us, hl with | [_, _], _ => rfl)
    d_opposite := hasDef X G (c.d.fact 21 (f := .glo "opposite") rfl) (c.d.def_ 3 (d := dfD "opposite" (st 11)) rfl) (fun _ _ _ _ _ _ us hl => match us, hl with | [_], _ => rfl)
    d_is_bit := hasDef X G (c.d.fact 22 (f := .glo "is_bit") rfl) (c.d.def_ 4 (d := dfD "is_bit" (st 12)) rfl) (fun _ _ _ _ _ _ us hl => match us, hl with | [_], _ => rfl)
    d_are_bits := hasDef X G (c.d.fact 23 (f := .glo "are_bits") rfl) (c.d.def_ 5 (d := dfD "are_bits" (st 13)) rfl) (fun _ _ _ _ _ _ us hl => match us, hl with | [_, _], _ => rfl)
    d_or_of := hasDef X G (c.d.fact 24 (f := .glo "or_of") rfl) (c.d.def_ 6 (d := dfD "or_of" (st 15)) rfl) (fun _ _ _ _ _ _ us hl => match us, hl with | [_, _, _], _ => rfl)
    d_xor_of := hasDef X G (c.d.fact 25 (f := .glo "xor_of") rfl) (c.d.def_ 7 (d := dfD "xor_of" (st 16)) rfl) (fun _ _ _ _ _ _ us hl => match us, hl with | [_, _, _], _ => rfl)
    d_choice_of := hasDef X G (c.d.fact 26 (f := .glo "choice_of") rfl) (c.d.def_ 8 (d := dfD "choice_of" (st 17)) rfl) (fun _ _ _ _ _ _ us hl => match us, hl with | [_, _, _, _], _ => rfl)
    d_number_word := hasDef X G (c.d.fact 27 (f := .glo "number_word") rfl) (c.d.def_ 9 (d := dfD "number_word" (st 21)) rfl) (fun _ _ _ _ _ _ us hl => match us, hl with | [_, _], _ => rfl)
    d_number_bits := hasDef X G (c.d.fact 28 (f := .glo "number_bits") rfl) (c.d.def_ 10 (d := dfD "number_bits" (st 22)) rfl) (fun _ _ _ _ _ _ us hl => match us, hl with | [_, _], _ => rfl)
    d_full_sum := hasDef X G (c.d.fact 29 (f := .glo "full_sum") rfl) (c.d.def_ 11 (d := dfD "full_sum" (st 23)) rfl) (fun _ _ _ _ _ _ us hl => match us, hl with | [_, _, _, _], _ => rfl)
    d_summed := hasDef X G (c.d.fact 30 (f := .glo "summed") rfl) (c.d.def_ 12 (d := dfD "summed" (st 24)) rfl) (fun _ _ _ _ _ _ us hl => match us, hl with | [_, _, _, _], _ => rfl)
    d_negated := hasDef X G (c.d.fact 31 (f := .glo "negated") rfl) (c.d.def_ 13 (d := dfD "negated" (st 25)) rfl) (fun _ _ _ _ _ _ us hl => match us, hl with | [_], _ => rfl)
    d_difference := hasDef X G (c.d.fact 32 (f := .glo "difference") rfl) (c.d.def_ 14 (d := dfD "difference" (st 26)) rfl) (fun _ _ _ _ _ _ us hl => match us, hl with | [_, _, _], _ => rfl)
    d_product := hasDef X G (c.d.fact 33 (f := .glo "product") rfl) (c.d.def_ 15 (d := dfD "product" (st 27)) rfl) (fun _ _ _ _ _ _ us hl => match us, hl with | [_, _, _], _ => rfl)
    d_is_below := hasDef X G (c.d.fact 34 (f := .glo "is_below") rfl) (c.d.def_ 16 (d := dfD "is_below" (st 28)) rfl) (fun _ _ _ _ _ _ us hl => match us, hl with | [_, _, _], _ => rfl)
    d_is_equal := hasDef X G (c.d.fact 35 (f := .glo "is_equal") rfl) (c.d.def_ 17 (d := dfD "is_equal" (st 29)) rfl) (fun _ _ _ _ _ _ us hl => match us, hl with | [_, _, _], _ => rfl)
    d_chosen := hasDef X G (c.d.fact 36 (f := .glo "chosen") rfl) (c.d.def_ 18 (d := dfD "chosen" (st 30)) rfl) (fun _ _ _ _ _ _ us hl => match us, hl with | [_, _, _, _], _ => rfl)
    d_bitwise := hasDef X G (c.d.fact 37 (f := .glo "bitwise") rfl) (c.d.def_ 19 (d := dfD "bitwise" (st 31)) rfl) (fun _ _ _ _ _ _ us hl => match us, hl with | [_, _, _, _], _ => rfl)
    d_pair_word := hasDef X G (c.d.fact 38 (f := .glo "pair_word") rfl) (c.d.def_ 20 (d := dfD "pair_word" (st 32)) rfl) (fun _ _ _ _ _ _ us hl => match us, hl with | [_, _, _, _], _ => rfl)
    d_moved_word := hasDef X G (c.d.fact 39 (f := .glo "moved_word") rfl) (c.d.def_ 21 (d := dfD "moved_word" (st 33)) rfl) (fun _ _ _ _ _ _ us hl => match us, hl with | [_, _, _], _ => rfl)
    d_joined_word := hasDef X G (c.d.fact 40 (f := .glo "joined_word") rfl) (c.d.def_ 22 (d := dfD "joined_word" (st 34)) rfl) (fun _ _ _ _ _ _ us hl => match us, hl with | [_], _ => rfl)
    d_expression_word := hasDef X G (c.d.fact 41 (f := .glo "expression_word") rfl) (c.d.def_ 23 (d := dfD "expression_word" (st 35)) rfl) (fun _ _ _ _ _ _ us hl => match us, hl with | [_, _, _], _ => rfl)
    d_word_table := hasDef X G (c.d.fact 42 (f := .glo "word_table") rfl) (c.d.def_ 24 (d := dfD "word_table" (st 36)) rfl) (fun _ _ _ _ _ _ us hl => match us, hl with | [_, _], _ => rfl)
    d_machine_of := hasDef X G (c.d.fact 43 (f := .glo "machine_of") rfl) (c.d.def_ 25 (d := dfD "machine_of" (st 37)) rfl) (fun _ _ _ _ _ _ us hl => match us, hl with | [_, _], _ => rfl)
    d__law_pen := hasDef X G (c.d.fact 44 (f := .glo "_law_pen") rfl) (c.d.def_ 26 (d := dfD "_law_pen" (st 39)) rfl) (fun _ _ _ _ _ _ us hl => match us, hl with | [_], _ => rfl)
    d__law_draw := hasDef X G (c.d.fact 45 (f := .glo "_law_draw") rfl) (c.d.def_ 27 (d := dfD "_law_draw" (st 40)) rfl) (fun _ _ _ _ _ _ us hl => match us, hl with | [_, _], _ => rfl)
    d__law_pick := hasDef X G (c.d.fact 46 (f := .glo "_law_pick") rfl) (c.d.def_ 28 (d := dfD "_law_pick" (st 41)) rfl) (fun _ _ _ _ _ _ us hl => match us, hl with | [_, _], _ => rfl)
    d__law_values := hasDef X G (c.d.fact 47 (f := .glo "_law_values") rfl) (c.d.def_ 29 (d := dfD "_law_values" (st 42)) rfl) (fun _ _ _ _ _ _ us hl => match us, hl with | [_, _, _], _ => rfl)
    d__law_bit := hasDef X G (c.d.fact 48 (f := .glo "_law_bit") rfl) (c.d.def_ 30 (d := dfD "_law_bit" (st 43)) rfl) (fun _ _ _ _ _ _ us hl => match us, hl with | [_, _], _ => rfl)
    d__law_tick := hasDef X G (c.d.fact 49 (f := .glo "_law_tick") rfl) (c.d.def_ 31 (d := dfD "_law_tick" (st 44)) rfl) (fun _ _ _ _ _ _ us hl => match us, hl with | [_, _, _], _ => rfl)
    d__law_longer := hasDef X G (c.d.fact 50 (f := .glo "_law_longer") rfl) (c.d.def_ 32 (d := dfD "_law_longer" (st 45)) rfl) (fun _ _ _ _ _ _ us hl => match us, hl with | [_, _], _ => rfl)
    d__law_word := hasDef X G (c.d.fact 51 (f := .glo "_law_word") rfl) (c.d.def_ 33 (d := dfD "_law_word" (st 46)) rfl) (fun _ _ _ _ _ _ us hl => match us, hl with | [_, _], _ => rfl)
    d__law_bitwise := hasDef X G (c.d.fact 52 (f := .glo "_law_bitwise") rfl) (c.d.def_ 34 (d := dfD "_law_bitwise" (st 47)) rfl) (fun _ _ _ _ _ _ us hl => match us, hl with | [_, _, _, _], _ => rfl)
    d__law_drawn_expression := hasDef X G (c.d.fact 53 (f := .glo "_law_drawn_expression") rfl) (c.d.def_ 35 (d := dfD "_law_drawn_expression" (st 48)) rfl) (fun _ _ _ _ _ _ us hl => match us, hl with | [_, _, _, _], _ => rfl)
    d__law_reset := hasDef X G (c.d.fact 54 (f := .glo "_law_reset") rfl) (c.d.def_ 36 (d := dfD "_law_reset" (st 49)) rfl) (fun _ _ _ _ _ _ us hl => match us, hl with | [_, _], _ => rfl)
    d__law_module := hasDef X G (c.d.fact 55 (f := .glo "_law_module") rfl) (c.d.def_ 37 (d := dfD "_law_module" (st 50)) rfl) (fun _ _ _ _ _ _ us hl => match us, hl with | [_, _], _ => rfl)
    d__law_cycle := hasDef X G (c.d.fact 56 (f := .glo "_law_cycle") rfl) (c.d.def_ 38 (d := dfD "_law_cycle" (st 51)) rfl) (fun _ _ _ _ _ _ us hl => match us, hl with | [_, _, _, _], _ => rfl)
    d__law_input_rows := hasDef X G (c.d.fact 57 (f := .glo "_law_input_rows") rfl) (c.d.def_ 39 (d := dfD "_law_input_rows" (st 52)) rfl) (fun _ _ _ _ _ _ us hl => match us, hl with | [_], _ => rfl)
    d__law_drawn_module := hasDef X G (c.d.fact 58 (f := .glo "_law_drawn_module") rfl) (c.d.def_ 40 (d := dfD "_law_drawn_module" (st 53)) rfl) (fun _ _ _ _ _ _ us hl => match us, hl with | [_, _, _, _, _, _, _], _ => rfl)
    d__law_counter := hasDef X G (c.d.fact 59 (f := .glo "_law_counter") rfl) (c.d.def_ 41 (d := dfD "_law_counter" (st 54)) rfl) (fun _ _ _ _ _ _ us hl => match us, hl with | [_], _ => rfl)
    d__law_lock := hasDef X G (c.d.fact 60 (f := .glo "_law_lock") rfl) (c.d.def_ 42 (d := dfD "_law_lock" (st 55)) rfl) (fun _ _ _ _ _ _ us hl => match us, hl with | [_], _ => rfl)
    d__law_bits_of := hasDef X G (c.d.fact 61 (f := .glo "_law_bits_of") rfl) (c.d.def_ 43 (d := dfD "_law_bits_of" (st 56)) rfl) (fun _ _ _ _ _ _ us hl => match us, hl with | [_, _], _ => rfl)
    d__law_parts := hasDef X G (c.d.fact 62 (f := .glo "_law_parts") rfl) (c.d.def_ 44 (d := dfD "_law_parts" (st 57)) rfl) (fun _ _ _ _ _ _ us hl => match us, hl with | [_], _ => rfl)
    d__law_own := hasDef X G (c.d.fact 63 (f := .glo "_law_own") rfl) (c.d.def_ 45 (d := dfD "_law_own" (st 58)) rfl) (fun _ _ _ _ _ _ us hl => match us, hl with | [_], _ => rfl)
    d__law_wish_word := hasDef X G (c.d.fact 64 (f := .glo "_law_wish_word") rfl) (c.d.def_ 46 (d := dfD "_law_wish_word" (st 59)) rfl) (fun _ _ _ _ _ _ us hl => match us, hl with | [_, _, _, _, _], _ => rfl)
    d__law_cycle_right := hasDef X G (c.d.fact 65 (f := .glo "_law_cycle_right") rfl) (c.d.def_ 47 (d := dfD "_law_cycle_right" (st 60)) rfl) (fun _ _ _ _ _ _ us hl => match us, hl with | [_, _, _, _, _], _ => rfl)
    g_Graph := He.glo_ok X G (c.d.fact 67 (f := .glo "Graph") rfl)
    c_Graph := He.cls_ok (c.d.fact 68 (f := .cls "Graph") rfl)
    i_Graph := insB_ok (He.cls_ok (c.d.fact 68 (f := .cls "Graph") rfl)) e1
    k_Graph := hasMk (c.d.fact 69 (f := .mkr "Graph") rfl) (c.d.def_ 49 (d := mtD "Graph" "__init__" "Graph.__init__" (ms 10 0)) rfl) (fun _ _ _ _ _ _ us hl => match us, hl with | [_, _, _], _ => rfl)
    g_Builder := He.glo_ok X G (c.d.fact 70 (f := .glo "Builder") rfl)
    c_Builder := He.cls_ok (c.d.fact 71 (f := .cls "Builder") rfl)
    i_Builder := insB_ok (He.cls_ok (c.d.fact 71 (f := .cls "Builder") rfl)) e2
    k_Builder := hasMk (c.d.fact 72 (f := .mkr "Builder") rfl) (c.d.def_ 50 (d := mtD "Builder" "__init__" "Builder.__init__" (ms 14 0)) rfl) (fun _ _ _ _ _ _ us hl => match us, hl with | [_, _], _ => rfl)
    g_Machine := He.glo_ok X G (c.d.fact 73 (f := .glo "Machine") rfl)
    c_Machine := He.cls_ok (c.d.fact 74 (f := .cls "Machine") rfl)
    i_Machine := insB_ok (He.cls_ok (c.d.fact 74 (f := .cls "Machine") rfl)) e3
    k_Machine := hasMk (c.d.fact 75 (f := .mkr "Machine") rfl) (c.d.def_ 51 (d := mtD "Machine" "__init__" "Machine.__init__" (ms 19 0)) rfl) (fun _ _ _ _ _ _ us hl => match us, hl with | [_, _, _, _, _, _], _ => rfl)
    m_graph := hasMeth (c.d.fact 76 (f := .meth "Builder" "graph") rfl) (c.d.def_ 52 (d := mtD "Builder" "graph" "Builder.graph" (ms 14 1)) rfl) (fun _ _ _ _ _ _ us hl => match us, hl with | [_], _ => rfl)
    m_and_of := hasMeth (c.d.fact 77 (f := .meth "Builder" "and_of") rfl) (c.d.def_ 53 (d := mtD "Builder" "and_of" "Builder.and_of" (ms 14 2)) rfl) (fun _ _ _ _ _ _ us hl => match us, hl with | [_, _, _], _ => rfl)
    n_Builder_leaves := He.noat_ok (c.d.fact 78 (f := .noat "Builder" "leaves") rfl)
    n_Builder_gates := He.noat_ok (c.d.fact 79 (f := .noat "Builder" "gates") rfl)
    n_Builder_places := He.noat_ok (c.d.fact 80 (f := .noat "Builder" "places") rfl)
    n_Graph_leaves := He.noat_ok (c.d.fact 81 (f := .noat "Graph" "leaves") rfl)
    n_Graph_gates := He.noat_ok (c.d.fact 82 (f := .noat "Graph" "gates") rfl)
    n_Machine_graph := He.noat_ok (c.d.fact 83 (f := .noat "Machine" "graph") rfl)
    n_Machine_inputs := He.noat_ok (c.d.fact 84 (f := .noat "Machine" "inputs") rfl)
    n_Machine_resets := He.noat_ok (c.d.fact 85 (f := .noat "Machine" "resets") rfl)
    n_Machine_nexts := He.noat_ok (c.d.fact 86 (f := .noat "Machine" "nexts") rfl)
    n_Machine_wish := He.noat_ok (c.d.fact 87 (f := .noat "Machine" "wish") rfl) }
theorem exc_of (X : K.In h) (G : h.Ns mainGlobals mg) (c : SaysL P.main.file K) (ht : (P.main.scope.names.lookup ("super" : Str)).isSome = false) : ExcTop P w K mg base := by
  have e := c.ex
  unfold exB at e
  obtain ⟨_, e⟩ := ba e
  obtain ⟨_, e⟩ := ba e
  obtain ⟨_, e⟩ := ba e
  obtain ⟨e4, e⟩ := ba e
  obtain ⟨e5, e⟩ := ba e
  have hs := He.free_ok X G (c.d.fact 17 (f := .free "super") rfl)
  obtain ⟨ccN, cdN, TN⟩ := supB_ok (P := P) e4 c.cN hs ht
  obtain ⟨ccB, cdB, TB⟩ := supB_ok (P := P) e5 c.cB hs ht
  exact exc_top rfl rfl (He.glo_ok X G (c.d.fact 92 (f := .glo "NoName") rfl)) (He.glo_ok X G (c.d.fact 93 (f := .glo "BadWidth") rfl)) TN TB (He.noat_ok (c.d.fact 88 (f := .noat "NoName" "name") rfl)) (He.noat_ok (c.d.fact 89 (f := .noat "BadWidth" "name") rfl)) (He.noat_ok (c.d.fact 90 (f := .noat "BadWidth" "wanted") rfl)) (He.noat_ok (c.d.fact 91 (f := .noat "BadWidth" "told") rfl))
theorem more_of (c : SaysL fl K) : ExcMore K := by
  have e := c.ex
  unfold exB at e
  obtain ⟨_, e⟩ := ba e
  obtain ⟨_, e⟩ := ba e
  obtain ⟨_, e⟩ := ba e
  obtain ⟨_, e⟩ := ba e
  obtain ⟨_, e⟩ := ba e
  obtain ⟨e6, e7⟩ := ba e
  exact ⟨xfB_ok e6, xfB_ok e7, He.noat_ok (c.d.fact 88 (f := .noat "NoName" "name") rfl), He.noat_ok (c.d.fact 89 (f := .noat "BadWidth" "name") rfl), He.noat_ok (c.d.fact 90 (f := .noat "BadWidth" "wanted") rfl), He.noat_ok (c.d.fact 91 (f := .noat "BadWidth" "told") rfl), He.exm_ok (c.d.fact 94 (f := .exm "NoName" "NoName" true) rfl), He.exm_ok (c.d.fact 95 (f := .exm "BadWidth" "NoName" false) rfl), He.exm_ok (c.d.fact 96 (f := .exm "BadWidth" "BadWidth" true) rfl)⟩
theorem law_of (c : SaysL fl K) : ∃ fd, FunD K "law" "law" (C8.fnArgs (st 61)) (C8.fnBody (st 61)) (C8.fnScope (st 61)) [] [] (He.ga K "law") fd := (c.d.def_ 48 (d := dfD "law" (st 61)) rfl)
theorem law_glo (X : K.In h) (G : h.Ns mainGlobals mg) (c : SaysL fl K) : mg "law" = some (.ref (He.ga K "law")) := He.glo_ok X G (c.d.fact 66 (f := .glo "law") rfl)
end
end K14
set_option maxHeartbeats 0
/-! the head's run, with facts -/
namespace K14H
open PySem PySem.W PySem.Calls PyProof.Rows
abbrev R : OpenRow := OpenLaw.row PySem.Challenge.rw_everycycle_k14_whole_machines_play_runs
abbrev qv : Program := view R.prog [61]
def n0 : List PySem.Str := [("CycleError" : PySem.Str), ("BadNumber" : PySem.Str), ("BadRow" : PySem.Str), ("BadWidth" : PySem.Str), ("NoName" : PySem.Str), ("is_count" : PySem.Str), ("is_literal" : PySem.Str), ("are_gates" : PySem.Str), ("Graph" : PySem.Str), ("opposite" : PySem.Str), ("is_bit" : PySem.Str), ("are_bits" : PySem.Str)]
def n1 : List PySem.Str := [("Builder" : PySem.Str), ("or_of" : PySem.Str), ("xor_of" : PySem.Str), ("choice_of" : PySem.Str), ("Machine" : PySem.Str), ("number_word" : PySem.Str), ("number_bits" : PySem.Str), ("full_sum" : PySem.Str), ("summed" : PySem.Str), ("negated" : PySem.Str), ("difference" : PySem.Str), ("product" : PySem.Str)]
def n2 : List PySem.Str := [("is_below" : PySem.Str), ("is_equal" : PySem.Str), ("chosen" : PySem.Str), ("bitwise" : PySem.Str), ("pair_word" : PySem.Str), ("moved_word" : PySem.Str), ("joined_word" : PySem.Str), ("expression_word" : PySem.Str), ("word_table" : PySem.Str), ("machine_of" : PySem.Str), ("_law_pen" : PySem.Str), ("_law_draw" : PySem.Str)]
def n3 : List PySem.Str := [("_law_pick" : PySem.Str), ("_law_values" : PySem.Str), ("_law_bit" : PySem.Str), ("_law_tick" : PySem.Str), ("_law_longer" : PySem.Str), ("_law_word" : PySem.Str), ("_law_bitwise" : PySem.Str), ("_law_drawn_expression" : PySem.Str), ("_law_reset" : PySem.Str), ("_law_module" : PySem.Str), ("_law_cycle" : PySem.Str), ("_law_input_rows" : PySem.Str)]
def n4 : List PySem.Str := [("_law_drawn_module" : PySem.Str), ("_law_counter" : PySem.Str), ("_law_lock" : PySem.Str), ("_law_bits_of" : PySem.Str), ("_law_parts" : PySem.Str), ("_law_own" : PySem.Str), ("_law_wish_word" : PySem.Str), ("_law_cycle_right" : PySem.Str)]
def names : List PySem.Str := n0 ++ n1 ++ n2 ++ n3 ++ n4
def asL (g : Addr → Option Obj) : Nat → List Addr
  | 0 => [mainGlobals, cStatics]
  | n + 1 => He.growD g (asL g n)
abbrev AlL : Type := He.AlD × (Bool × (K14.FnC × K14.FnC))
def fl : PySem.Str := R.prog.main.file
def obK (K : Frag) : AlL := (He.obsD K14.faL K14.fnL K, (K14.exB fl K, (K14.fnC K (He.ma K (He.ga K "NoName") "__init__"), K14.fnC K (He.ma K (He.ga K "BadWidth") "__init__"))))
def valL : AlL := (He.valD K14.fnL, (true, (K14.valC "NoName.__init__" K14E.sN, K14.valC "BadWidth.__init__" K14E.sB)))
def frL (g : Addr → Option Obj) : Frag := He.frG g (asL g 5)
theorem says_of {K : Frag} (e : obK K = valL) : K14.SaysL fl K :=
  ⟨congrArg (fun z : AlL => z.1) e, congrArg (fun z : AlL => z.2.1) e, congrArg (fun z : AlL => z.2.2.1) e, congrArg (fun z : AlL => z.2.2.2) e⟩
def hookL : Hook where
  α := AlL
  obs := fun s => obK (frL s.heap.get?)
  val := fun _ => valL
  says := fun _ h => ∃ K : Frag, K.In h ∧ K14.SaysL fl K
  of := fun _ _ e => ⟨_, He.frG_in, says_of e⟩
  keeps := fun _ _ _ ⟨K, hK, c⟩ k => ⟨K, Frag.In.keeps hK k, c⟩
def ob (s : SharedT) : AlL := obK (frL (HandSHeadRun.getT s))
theorem ob_eq (s : SharedT) : ob s = hookL.obs s.abs := by
  have e : HandSHeadRun.getT s = s.abs.heap.get? := funext (HandSHeadRun.getT_eq s)
  show obK (frL (HandSHeadRun.getT s)) = obK (frL s.abs.heap.get?)
  rw [e]
theorem run (w : World) : HandSHeadRun.RunEq R qv hookL ob 6000 names w := by
  intro os
  kernel_rfl
end K14H
set_option maxHeartbeats 8000000
/-! the law's end -/
namespace K14
open PySem PySem.Spec PyProof.Rows L2
theorem law_run {P : Program} {w : World} {K : PySem.W.Frag} {mg : Str → Option Value} {base : Heap} {f : Addr} {fd : FuncData} (F : C8.Fun K "law" "law" (st 61) f fd) (T : Top K mg) (TX : ExcTop P w K mg base) (EX : ExcMore K) :
    RunA P w K mg base C8.CX0 f fd "_law_script" (spLaw K) := by
  obtain ⟨oc, od, dV, kV, doc, pm, an, cdv, ct, osl, rfl, lk, hcd⟩ := F.ex
  refine runA_of (k := 26) (N := nm_law) lk hcd sc_law ⟨rfl, by decide, by decide⟩ fun s H a Q E hr hg hs => ?_
  obtain ⟨a', ns, e, hS, hq⟩ := hs
  cases e
  obtain ⟨t, ht, q⟩ := law_body (f := f) (cdv := cdv) (s0 := s) (H0 := H) (E := E) T TX EX hr hg (D := { nx := fun _ H' => Q .non H', rt := Q }) hS hq
  exact ⟨t, PSs.nox ht, q⟩
end K14
open PySem PySem.W PySem.Calls PyProof.Rows
set_option maxHeartbeats 0 in
theorem PySem.Challenge.cw_everycycle_k14_whole_machines_play_runs_holds : PySem.Challenge.rw_everycycle_k14_whole_machines_play_runs.Holds := by
  w_on; o_law
  refine HandSHeadRun.head_any (r := OpenLaw.row PySem.Challenge.rw_everycycle_k14_whole_machines_play_runs) (q := K14H.qv) (H := K14H.hookL) (ob := K14H.ob) (M := 6000) (loose := K14H.names) (d := HandSHeadRun.topDef (OpenLaw.row PySem.Challenge.rw_everycycle_k14_whole_machines_play_runs).prog 61) (kwd := []) K14H.ob_eq
    (by kernel_rfl) (fun s => by kernel_rfl) K14H.run (by kernel_rfl) (by kernel_rfl) (by kernel_rfl) (by rfl) (by first | assumption | decide +kernel) (by decide +kernel) ⟨rfl, rfl, rfl, rfl, rfl, by decide +kernel⟩ ?hw ?hc
  case hw => w_witness2
  case hc =>
    refine K14.walk_ofA (l := PySem.Challenge.rw_everycycle_k14_whole_machines_play_runs) (n := 63) (x := "_law_script") (CX := C8.CX0) rfl (by decide) (by kernel_rfl) ?F (fun _ _ _ _ z => z)
    intro w mg fa h Y G hmg0
    obtain ⟨K, KX, c⟩ := Y
    have hmg : mg ("law" : PySem.Str) = some (.ref fa) := by
      have e : (HandSHeadRun.topDef (OpenLaw.row PySem.Challenge.rw_everycycle_k14_whole_machines_play_runs).prog 61).name = ("law" : PySem.Str) := by kernel_rfl
      rw [← e]
      exact hmg0
    have ef := hmg.symm.trans (K14.law_glo KX G c)
    cases ef
    obtain ⟨fd, F⟩ := K14.law_of c
    refine ⟨K, fd, K14.spLaw K, KX, fun s u => ?_, fun H a ns hl _ hS => ⟨a, ns, rfl, hS, fun _ => rfl⟩, fun base hK hG => ?_⟩
    · exact L2.FunD.bindsA (ps := ["_law_script"]) F (fun _ _ _ _ _ _ us hl => match us, hl with | [_], _ => rfl) s [u] rfl
    · exact K14.law_run (P := (PySem.Challenge.rw_everycycle_k14_whole_machines_play_runs).prog) (w := w) (base := base) (K14.fun_of F) (K14.top_of KX G c) (K14.exc_of (P := (PySem.Challenge.rw_everycycle_k14_whole_machines_play_runs).prog) KX G c (by decide +kernel)) (K14.more_of c)
