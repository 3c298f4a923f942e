import PyProof.Rows.All
import Wide.All
import OpenK.AllK
import Wide.FinOn
import HandS.ForMost
import HandS.Defaults
import HandS.Head0
import HandS.Head1
import HandS.Head2
import HandS.HeadEnd
import HandS.HeadHook1
import HandS.HeadHook2
import HandS.HeadHook3
import HandS.Property
import PySem.Challenge.RW_skipstops_k81_whole_calls_in_either_sequ
import HandS.IsInst
import HandS.Star
import HandS.Zip
import HandS.Deep
import HandS.Walk
import HandS.Wide
import HandS.WideBits
import HandS.MethStar
import HandS.Style
import HandS.SortInts
import HandS.TupAny
import HandS.More
import KE.LtData
import KE.KUnpack
import HandS.Conv
import KE.IntBitsLaws
set_option Elab.async false
set_option linter.all false
set_option maxRecDepth 100000
set_option maxHeartbeats 0
/-! HeadA: a hook of our own: the module's names and what they reach, without the built-in part; facts by names. -/
namespace AL
open PySem PySem.Spec PyProof.Rows L2
open HandSHeadRun (frNat frNat_eq)
def frL {α : Type} : List Addr → (List Addr → α) → α
  | [], k => k []
  | a :: r, k => frNat a fun a => frL r fun r => k (a :: r)
theorem frL_eq {α : Type} : ∀ (l : List Addr) (k : List Addr → α), frL l k = k l
  | [], k => rfl
  | a :: r, k => by
    show frNat a (fun a => frL r fun r => k (a :: r)) = _
    rw [frNat_eq, frL_eq r]
def addA (seen : List Addr) : List Addr → List Addr → List Addr
  | [], acc => acc
  | a :: r, acc => match seen.any (Nat.beq a) || acc.any (Nat.beq a) with
    | true => addA seen r acc
    | false => addA seen r (a :: acc)
def refsA (g : Addr → Option Obj) (front : List Addr) : List Addr := front.flatMap fun a => match g a with
  | some o => He.refsD o
  | none => []
def asA (g : Addr → Option Obj) : Nat → List Addr → List Addr → List Addr
  | 0, seen, front => seen ++ front
  | n + 1, seen, front => frL (seen ++ front) fun s => frL (addA s (refsA g front) []) fun f => asA g n s f
/-- the objects that the module's names stand for (those that begin with two underscores left out) -/
def startA (g : Addr → Option Obj) : List Addr := match g mainGlobals with
  | some ⟨_, _, .dict es _, _⟩ => es.toList.flatMap fun e => match e.key with
    | .str x _ => (match x.cps.getD 0 0 == 95 && x.cps.getD 1 0 == 95 with
      | true => []
      | false => He.refV e.val)
    | _ => []
  | _ => []
def frK {α : Type} : PySem.W.Frag → (PySem.W.Frag → α) → α
  | [], k => k []
  | (a, ⟨c, d, dt, sl⟩) :: r, k => frNat a fun a => frK r fun r => k ((a, ⟨c, d, dt, sl⟩) :: r)
theorem frK_eq {α : Type} : ∀ (l : PySem.W.Frag) (k : PySem.W.Frag → α), frK l k = k l
  | [], k => rfl
  | (a, ⟨c, d, dt, sl⟩) :: r, k => by
    show frNat a (fun a => frK r fun r => k ((a, ⟨c, d, dt, sl⟩) :: r)) = _
    rw [frNat_eq, frK_eq r]
def fragA (g : Addr → Option Obj) (n : Nat) : PySem.W.Frag := He.frG g (frL (startA g) fun f => asA g n [mainGlobals] f)
theorem ba {a b : Bool} (h : (a && b) = true) : a = true ∧ b = true := by cases a <;> cases b <;> first | exact ⟨rfl, rfl⟩ | cases h
/-! ### properties: their getters -/
def prA (K : PySem.W.Frag) (C m : Str) : Addr := match PySem.W.findIn K (.ref (He.ga K C)) m with
  | some (some (.ref p)) => p
  | _ => 0
def geA (K : PySem.W.Frag) (C m : Str) : Addr := match PySem.W.recIn K (prA K C m) "property" with
  | some (.ref g :: _) => g
  | _ => 0
def propB (K : PySem.W.Frag) (C m : Str) : Bool := He.eqO (PySem.W.findIn K (.ref (He.ga K C)) m) (some (some (.ref (prA K C m)))) && (He.eqO (PySem.W.specialIn K (.ref (prA K C m)) "__get__") (some (some (.builtin "property.__get__"))) &&
  (decide (PySem.W.takesIn K (.ref (prA K C m)) = some true) && match PySem.W.recIn K (prA K C m) "property" with
    | some (.ref _ :: _) => true
    | _ => false))
theorem propB_ok {K : PySem.W.Frag} {C m : Str} (h : propB K C m = true) : PropOf K (He.ga K C) m (prA K C m) (geA K C m) := by
  obtain ⟨h1, h⟩ := ba h
  obtain ⟨h2, h⟩ := ba h
  obtain ⟨h3, h4⟩ := ba h
  refine ⟨He.eqO_ok h1, He.eqO_ok h2, of_decide_eq_true h3, ?_⟩
  unfold geA
  generalize e : PySem.W.recIn K (prA K C m) "property" = r at h4 ⊢
  match r, h4 with
  | some (.ref g :: rest), _ => exact ⟨rest, rfl⟩
abbrev PrD : Type := Str × Str × He.DefD
def fnWA (K : PySem.W.Frag) (f : Addr) : He.FnW := match K.lookup f with
  | some ⟨_, _, .func fd, _⟩ => some (fd.name, fd.qualname, fd.params, fd.body, fd.scope, fd.globals, fd.closure, fd.builtins)
  | _ => none
def okA (K : PySem.W.Frag) (d : He.DefD) (f : Addr) : Bool := PySem.W.keepIn K (.ref f) && (match K.lookup f with
  | some ⟨_, _, .func fd, _⟩ => PySem.W.codeIn K fd.code d.qual && (He.dflB K fd.defaults (d.dvs K) && He.kwdB K fd.kwdefaults (d.kws K))
  | _ => false)
theorem funA {K : PySem.W.Frag} {d : He.DefD} {f : Addr} (e : fnWA K f = d.val) (c : okA K d f = true) : ∃ fd, FunD K d.name d.qual d.params d.body d.scope (d.dvs K) (d.kws K) f fd := by
  obtain ⟨kp, c2⟩ := ba c
  unfold fnWA at e
  cases q : K.lookup f with
  | none =>
    rw [q] at c2
    cases c2
  | some o =>
    obtain ⟨oc, od, dt, osl⟩ := o
    rw [q] at c2 e
    cases dt with
    | func fd =>
      obtain ⟨n1, n2, n3, n4, n5, n6, n7, n8, n9, n10, n11, n12, n13, n14, n15⟩ := fd
      have e2 : (some (n1, n2, n3, n4, n5, n6, n7, n15) : He.FnW) = some (d.name, d.qual, d.params, .stmts d.body, d.scope, mainGlobals, [], builtinsNs) := e
      simp only [Option.some.injEq, Prod.mk.injEq] at e2
      obtain ⟨h1, h2, h3, h4, h5, h6, h7, h8⟩ := e2
      subst h1 h2 h3 h4 h5 h6 h7 h8
      have c3 : (PySem.W.codeIn K n13 d.qual && (He.dflB K n8 (d.dvs K) && He.kwdB K n9 (d.kws K))) = true := c2
      obtain ⟨k1, k2⟩ := ba c3
      obtain ⟨k3, k4⟩ := ba k2
      exact ⟨_, ⟨oc, od, n8, n9, n10, n11, n12, n13, n14, osl, rfl, q, k1, He.dflB_ok k3, He.kwdB_ok k4⟩, kp⟩
    | _ => cases c2
/-! ### the hook: facts, defs, properties, tables with text keys -/
abbrev AlA : Type := He.AlT × Bool × List He.FnW
def obA (fa : List He.Fa) (fn : List He.DefD) (pr : List PrD) (ts : List He.Tab) (ex : PySem.W.Frag → Bool) (K : PySem.W.Frag) : AlA :=
  (He.obsT fa fn ts K, (pr.all fun p => propB K p.1 p.2.1 && okA K p.2.2 (geA K p.1 p.2.1)) && ex K, pr.map fun p => fnWA K (geA K p.1 p.2.1))
def vaA (fn : List He.DefD) (pr : List PrD) (ts : List He.Tab) (w : World) : AlA := (He.valT fn ts w, true, pr.map fun p => p.2.2.val)
def SaysA (fa : List He.Fa) (fn : List He.DefD) (pr : List PrD) (ts : List He.Tab) (ex : PySem.W.Frag → Bool) (w : World) (K : PySem.W.Frag) : Prop := obA fa fn pr ts ex K = vaA fn pr ts w
def obsA (n : Nat) (fa : List He.Fa) (fn : List He.DefD) (pr : List PrD) (ts : List He.Tab) (ex : PySem.W.Frag → Bool) (g : Addr → Option Obj) : AlA := frK (fragA g n) fun K => obA fa fn pr ts ex K
def hookA (n : Nat) (fa : List He.Fa) (fn : List He.DefD) (pr : List PrD) (ts : List He.Tab) (ex : PySem.W.Frag → Bool) : PySem.W.Hook where
  α := AlA
  obs := fun s => obsA n fa fn pr ts ex s.heap.get?
  val := fun w => vaA fn pr ts w
  says := fun w h => ∃ K : PySem.W.Frag, K.In h ∧ SaysA fa fn pr ts ex w K
  of := fun _ s e => by
    unfold obsA at e
    rw [frK_eq] at e
    exact ⟨_, He.frG_in, e⟩
  keeps := fun _ _ _ ⟨K, hK, c⟩ k => ⟨K, PySem.W.Frag.In.keeps hK k, c⟩
theorem obsA_eq {n : Nat} {fa : List He.Fa} {fn : List He.DefD} {pr : List PrD} {ts : List He.Tab} {ex : PySem.W.Frag → Bool} {g : Addr → Option Obj} {s : Shared} (h : ∀ a, g a = s.heap.get? a) : obsA n fa fn pr ts ex g = (hookA n fa fn pr ts ex).obs s := by
  have e : g = s.heap.get? := funext h
  rw [e] <;> rfl
section
variable {fa : List He.Fa} {fn : List He.DefD} {pr : List PrD} {ts : List He.Tab} {ex : PySem.W.Frag → Bool} {w : World} {K : PySem.W.Frag}
theorem SaysA.t (c : SaysA fa fn pr ts ex w K) : He.SaysT fa fn ts w K := congrArg (fun z : AlA => z.1) c
theorem SaysA.d (c : SaysA fa fn pr ts ex w K) : He.SaysD fa fn K := c.t.d
theorem SaysA.ex_ (c : SaysA fa fn pr ts ex w K) : ex K = true := (ba (congrArg (fun z : AlA => z.2.1) c)).2
theorem SaysA.prop_ (c : SaysA fa fn pr ts ex w K) (i : Nat) {p : PrD} (h : pr[i]? = some p := by rfl) : PropOf K (He.ga K p.1) p.2.1 (prA K p.1 p.2.1) (geA K p.1 p.2.1) ∧ ∃ fd, FunD K p.2.2.name p.2.2.qual p.2.2.params p.2.2.body p.2.2.scope (p.2.2.dvs K) (p.2.2.kws K) (geA K p.1 p.2.1) fd := by
  have c1 := (ba (congrArg (fun z : AlA => z.2.1) c)).1
  obtain ⟨c2, c3⟩ := ba (List.all_eq_true.mp c1 p (List.mem_of_getElem? h))
  have e : (pr.map fun p => fnWA K (geA K p.1 p.2.1)) = pr.map fun p => p.2.2.val := congrArg (fun z : AlA => z.2.2) c
  have e2 : (pr.map fun p => fnWA K (geA K p.1 p.2.1))[i]? = (pr.map fun p => p.2.2.val)[i]? := by rw [e]
  rw [List.getElem?_map, List.getElem?_map, h] at e2
  exact ⟨propB_ok c2, funA (Option.some.inj e2) c3⟩
end
end AL

/-! D81: the defs of law_k81_whole_calls_in_either_sequence, by their places; facts asked of the head -/
namespace D81
open PySem PySem.Spec PyProof.Rows L2
abbrev PRG : Program := PySem.Challenge.pw_skipstops_k81_whole_calls_in_either_sequ
def top (i : Nat) : Stmt := PySem.Challenge.pw_skipstops_k81_whole_calls_in_either_sequ.main.body.getD i (.Pass ⟨0, 0, 0, 0⟩)
def d_is_between : He.DefD := ⟨("is_between", none), "is_between", "is_between", defArgs (top 16), defBody (top 16), defScope (top 16), [], []⟩
def d_is_row : He.DefD := ⟨("is_row", none), "is_row", "is_row", defArgs (top 17), defBody (top 17), defScope (top 17), [], []⟩
def d_is_table : He.DefD := ⟨("is_table", none), "is_table", "is_table", defArgs (top 18), defBody (top 18), defScope (top 18), [], []⟩
def d_are_places : He.DefD := ⟨("are_places", none), "are_places", "are_places", defArgs (top 19), defBody (top 19), defScope (top 19), [], []⟩
def d_is_ring_of : He.DefD := ⟨("is_ring_of", none), "is_ring_of", "is_ring_of", defArgs (top 20), defBody (top 20), defScope (top 20), [], []⟩
def d_require_table : He.DefD := ⟨("require_table", none), "require_table", "require_table", defArgs (top 21), defBody (top 21), defScope (top 21), [], []⟩
def d_require_ring : He.DefD := ⟨("require_ring", none), "require_ring", "require_ring", defArgs (top 22), defBody (top 22), defScope (top 22), [], []⟩
def d_require_both : He.DefD := ⟨("require_both", none), "require_both", "require_both", defArgs (top 23), defBody (top 23), defScope (top 23), [], []⟩
def d_require_stops : He.DefD := ⟨("require_stops", none), "require_stops", "require_stops", defArgs (top 24), defBody (top 24), defScope (top 24), [], []⟩
def d_require_place : He.DefD := ⟨("require_place", none), "require_place", "require_place", defArgs (top 25), defBody (top 25), defScope (top 25), [], []⟩
def d_require_pair : He.DefD := ⟨("require_pair", none), "require_pair", "require_pair", defArgs (top 26), defBody (top 26), defScope (top 26), [], []⟩
def d_plain_trip : He.DefD := ⟨("plain_trip", none), "plain_trip", "plain_trip", defArgs (top 27), defBody (top 27), defScope (top 27), [], []⟩
def d_length_of : He.DefD := ⟨("length_of", none), "length_of", "length_of", defArgs (top 28), defBody (top 28), defScope (top 28), [], []⟩
def d_round_trip : He.DefD := ⟨("round_trip", none), "round_trip", "round_trip", defArgs (top 29), defBody (top 29), defScope (top 29), [], []⟩
def d_around_length : He.DefD := ⟨("around_length", none), "around_length", "around_length", defArgs (top 30), defBody (top 30), defScope (top 30), [], []⟩
def d_runs_of : He.DefD := ⟨("runs_of", none), "runs_of", "runs_of", defArgs (top 32), defBody (top 32), defScope (top 32), [], []⟩
def d_run_amount : He.DefD := ⟨("run_amount", none), "run_amount", "run_amount", defArgs (top 33), defBody (top 33), defScope (top 33), [], []⟩
def d_skips : He.DefD := ⟨("skips", none), "skips", "skips", defArgs (top 34), defBody (top 34), defScope (top 34), [], []⟩
def d_is_skip : He.DefD := ⟨("is_skip", none), "is_skip", "is_skip", defArgs (top 35), defBody (top 35), defScope (top 35), [], []⟩
def d_grown_table : He.DefD := ⟨("grown_table", none), "grown_table", "grown_table", defArgs (top 37), defBody (top 37), defScope (top 37), [], []⟩
def d_without : He.DefD := ⟨("without", none), "without", "without", defArgs (top 38), defBody (top 38), defScope (top 38), [], []⟩
def d_table_of_rest : He.DefD := ⟨("table_of_rest", none), "table_of_rest", "table_of_rest", defArgs (top 39), defBody (top 39), defScope (top 39), [], []⟩
def d_require_row : He.DefD := ⟨("require_row", none), "require_row", "require_row", defArgs (top 40), defBody (top 40), defScope (top 40), [], []⟩
def d_require_room : He.DefD := ⟨("require_room", none), "require_room", "require_room", defArgs (top 41), defBody (top 41), defScope (top 41), [], []⟩
def d_grown : He.DefD := ⟨("grown", none), "grown", "grown", defArgs (top 42), defBody (top 42), defScope (top 42), [], []⟩
def d_shrunk : He.DefD := ⟨("shrunk", none), "shrunk", "shrunk", defArgs (top 43), defBody (top 43), defScope (top 43), [], []⟩
def d_ring_without : He.DefD := ⟨("ring_without", none), "ring_without", "ring_without", defArgs (top 44), defBody (top 44), defScope (top 44), [], []⟩
def d_behind_change : He.DefD := ⟨("behind_change", none), "behind_change", "behind_change", defArgs (top 47), defBody (top 47), defScope (top 47), [], []⟩
def d_behind_add : He.DefD := ⟨("behind_add", none), "behind_add", "behind_add", defArgs (top 48), defBody (top 48), defScope (top 48), [], []⟩
def d_behind_drop : He.DefD := ⟨("behind_drop", none), "behind_drop", "behind_drop", defArgs (top 49), defBody (top 49), defScope (top 49), [], []⟩
def d_behind_turn : He.DefD := ⟨("behind_turn", none), "behind_turn", "behind_turn", defArgs (top 50), defBody (top 50), defScope (top 50), [], []⟩
def d_behind : He.DefD := ⟨("behind", none), "behind", "behind", defArgs (top 51), defBody (top 51), defScope (top 51), [], []⟩
def d_law_well : He.DefD := ⟨("_law_well", none), "_law_well", "_law_well", defArgs (top 54), defBody (top 54), defScope (top 54), [], []⟩
def d_law_draw : He.DefD := ⟨("_law_draw", none), "_law_draw", "_law_draw", defArgs (top 55), defBody (top 55), defScope (top 55), [], []⟩
def d_law_mixed : He.DefD := ⟨("_law_mixed", none), "_law_mixed", "_law_mixed", defArgs (top 56), defBody (top 56), defScope (top 56), [], []⟩
def d_law_any : He.DefD := ⟨("_law_any", none), "_law_any", "_law_any", defArgs (top 57), defBody (top 57), defScope (top 57), [], []⟩
def d_law_call : He.DefD := ⟨("_law_call", none), "_law_call", "_law_call", defArgs (top 58), defBody (top 58), defScope (top 58), [], []⟩
def d_law_changes : He.DefD := ⟨("_law_changes", none), "_law_changes", "_law_changes", defArgs (top 59), defBody (top 59), defScope (top 59), [], []⟩
def d_law_by_functions : He.DefD := ⟨("_law_by_functions", none), "_law_by_functions", "_law_by_functions", defArgs (top 60), defBody (top 60), defScope (top 60), [], []⟩
def d_law_led_right : He.DefD := ⟨("_law_led_right", none), "_law_led_right", "_law_led_right", defArgs (top 61), defBody (top 61), defScope (top 61), [], []⟩
def d_law_back_right : He.DefD := ⟨("_law_back_right", none), "_law_back_right", "_law_back_right", defArgs (top 62), defBody (top 62), defScope (top 62), [], []⟩
def d_law_right : He.DefD := ⟨("_law_right", none), "_law_right", "_law_right", defArgs (top 63), defBody (top 63), defScope (top 63), [], []⟩
def d_law : He.DefD := ⟨("law", none), "law", "law", defArgs (top 64), defBody (top 64), defScope (top 64), [], []⟩
def d_LiveRing_init : He.DefD := ⟨("LiveRing", some "__init__"), "__init__", "LiveRing.__init__", defArgs (inClass (top 52) 0), defBody (inClass (top 52) 0), defScope (inClass (top 52) 0), [], []⟩
def d_LiveRing_check_after : He.DefD := ⟨("LiveRing", some "check_after"), "check_after", "LiveRing.check_after", defArgs (inClass (top 52) 1), defBody (inClass (top 52) 1), defScope (inClass (top 52) 1), [], []⟩
def d_LiveRing_made : He.DefD := ⟨("LiveRing", some "made"), "made", "LiveRing.made", defArgs (inClass (top 52) 2), defBody (inClass (top 52) 2), defScope (inClass (top 52) 2), [], []⟩
def d_LiveRing_change : He.DefD := ⟨("LiveRing", some "change"), "change", "LiveRing.change", defArgs (inClass (top 52) 3), defBody (inClass (top 52) 3), defScope (inClass (top 52) 3), [], []⟩
def d_LiveRing_add : He.DefD := ⟨("LiveRing", some "add"), "add", "LiveRing.add", defArgs (inClass (top 52) 4), defBody (inClass (top 52) 4), defScope (inClass (top 52) 4), [], []⟩
def d_LiveRing_drop : He.DefD := ⟨("LiveRing", some "drop"), "drop", "LiveRing.drop", defArgs (inClass (top 52) 5), defBody (inClass (top 52) 5), defScope (inClass (top 52) 5), [], []⟩
def d_LiveRing_turn : He.DefD := ⟨("LiveRing", some "turn"), "turn", "LiveRing.turn", defArgs (inClass (top 52) 6), defBody (inClass (top 52) 6), defScope (inClass (top 52) 6), [], []⟩
def d_LiveRing_undo : He.DefD := ⟨("LiveRing", some "undo"), "undo", "LiveRing.undo", defArgs (inClass (top 52) 7), defBody (inClass (top 52) 7), defScope (inClass (top 52) 7), [], []⟩
def d_LiveRing_tried : He.DefD := ⟨("LiveRing", some "tried"), "tried", "LiveRing.tried", defArgs (inClass (top 52) 8), defBody (inClass (top 52) 8), defScope (inClass (top 52) 8), [], []⟩
def d_LiveRing_table : He.DefD := ⟨("LiveRing", some "table"), "table", "LiveRing.table", defArgs (inClass (top 52) 9), defBody (inClass (top 52) 9), defScope (inClass (top 52) 9), [], []⟩
def d_LiveRing_ring : He.DefD := ⟨("LiveRing", some "ring"), "ring", "LiveRing.ring", defArgs (inClass (top 52) 10), defBody (inClass (top 52) 10), defScope (inClass (top 52) 10), [], []⟩
def d_LiveRing_is_skip : He.DefD := ⟨("LiveRing", some "is_skip"), "is_skip", "LiveRing.is_skip", defArgs (inClass (top 52) 11), defBody (inClass (top 52) 11), defScope (inClass (top 52) 11), [], []⟩
def d_LiveRing_length : He.DefD := ⟨("LiveRing", some "length"), "length", "LiveRing.length", defArgs (inClass (top 52) 12), defBody (inClass (top 52) 12), defScope (inClass (top 52) 12), [], []⟩
def d_LiveRing_log : He.DefD := ⟨("LiveRing", some "log"), "log", "LiveRing.log", defArgs (inClass (top 52) 13), defBody (inClass (top 52) 13), defScope (inClass (top 52) 13), [], []⟩
def d_LiveRing_len : He.DefD := ⟨("LiveRing", some "__len__"), "__len__", "LiveRing.__len__", defArgs (inClass (top 52) 14), defBody (inClass (top 52) 14), defScope (inClass (top 52) 14), [], []⟩
def d_LiveRing_bounds : He.DefD := ⟨("LiveRing", some "bounds"), "bounds", "LiveRing.bounds", defArgs (inClass (top 52) 15), defBody (inClass (top 52) 15), defScope (inClass (top 52) 15), [], []⟩
def d_LiveRing_described : He.DefD := ⟨("LiveRing", some "described"), "described", "LiveRing.described", defArgs (inClass (top 52) 16), defBody (inClass (top 52) 16), defScope (inClass (top 52) 16), [], []⟩
def d_LiveRing_again : He.DefD := ⟨("LiveRing", some "again"), "again", "LiveRing.again", defArgs (inClass (top 52) 17), defBody (inClass (top 52) 17), defScope (inClass (top 52) 17), [], []⟩
def d_LiveRing_twin : He.DefD := ⟨("LiveRing", some "twin"), "twin", "LiveRing.twin", defArgs (inClass (top 52) 18), defBody (inClass (top 52) 18), defScope (inClass (top 52) 18), [], []⟩
def d_LiveRing_eq : He.DefD := ⟨("LiveRing", some "__eq__"), "__eq__", "LiveRing.__eq__", defArgs (inClass (top 52) 19), defBody (inClass (top 52) 19), defScope (inClass (top 52) 19), [], []⟩
def fn : List He.DefD := [d_is_between, d_is_row, d_is_table, d_are_places, d_is_ring_of, d_require_table, d_require_ring, d_require_both, d_require_stops, d_require_place, d_require_pair, d_plain_trip, d_length_of, d_round_trip, d_around_length, d_runs_of, d_run_amount, d_skips, d_is_skip, d_grown_table, d_without, d_table_of_rest, d_require_row, d_require_room, d_grown, d_shrunk, d_ring_without, d_behind_change, d_behind_add, d_behind_drop, d_behind_turn, d_behind, d_law_well, d_law_draw, d_law_mixed, d_law_any, d_law_call, d_law_changes, d_law_by_functions, d_law_led_right, d_law_back_right, d_law_right, d_law, d_LiveRing_init, d_LiveRing_check_after, d_LiveRing_made, d_LiveRing_change, d_LiveRing_add, d_LiveRing_drop, d_LiveRing_turn, d_LiveRing_undo, d_LiveRing_tried, d_LiveRing_len, d_LiveRing_bounds, d_LiveRing_described, d_LiveRing_again, d_LiveRing_twin, d_LiveRing_eq]
def pr : List AL.PrD := [("LiveRing", "table", d_LiveRing_table), ("LiveRing", "ring", d_LiveRing_ring), ("LiveRing", "is_skip", d_LiveRing_is_skip), ("LiveRing", "length", d_LiveRing_length), ("LiveRing", "log", d_LiveRing_log)]
def fa : List He.Fa := [.glo "is_between", .glo "is_row", .glo "is_table", .glo "are_places", .glo "is_ring_of", .glo "require_table", .glo "require_ring", .glo "require_both", .glo "require_stops", .glo "require_place", .glo "require_pair", .glo "plain_trip", .glo "length_of", .glo "round_trip", .glo "around_length", .glo "runs_of", .glo "run_amount", .glo "skips", .glo "is_skip", .glo "grown_table", .glo "without", .glo "table_of_rest", .glo "require_row", .glo "require_room", .glo "grown", .glo "shrunk", .glo "ring_without", .glo "behind_change", .glo "behind_add", .glo "behind_drop", .glo "behind_turn", .glo "behind", .glo "_law_well", .glo "_law_draw", .glo "_law_mixed", .glo "_law_any", .glo "_law_call", .glo "_law_changes", .glo "_law_by_functions", .glo "_law_led_right", .glo "_law_back_right", .glo "_law_right", .glo "law", .free "len", .free "range", .free "isinstance", .free "all", .free "enumerate", .free "min", .free "sum", .free "list", .free "int", .free "set", .free "zip", .free "abs", .free "str", .free "super", .free "tuple", .free "bool", .int "MOST_PLACES" 30, .int "MOST_DISTANCE" 1000000000000000000000000000000, .glo "SIZES", .glo "LiveRing", .cls "LiveRing", .mkr "LiveRing", .noat "LiveRing" "own_table", .noat "LiveRing" "own_ring", .noat "LiveRing" "own_steps", .noat "LiveRing" "own_kind", .meth "LiveRing" "check_after", .meth "LiveRing" "made", .meth "LiveRing" "change", .meth "LiveRing" "add", .meth "LiveRing" "drop", .meth "LiveRing" "turn", .meth "LiveRing" "undo", .meth "LiveRing" "tried", .meth "LiveRing" "__len__", .meth "LiveRing" "bounds", .meth "LiveRing" "described", .meth "LiveRing" "again", .meth "LiveRing" "twin", .meth "LiveRing" "__eq__"]
def ts : List He.Tab := [(fun K => He.ga K "SIZES", ["change", "add", "drop", "turn"])]
def ex (K : PySem.W.Frag) : Bool := decide (PySem.W.kitOne K (.ref (He.ga K "LiveRing")) (.ref (He.ga K "LiveRing")) = some true) && (He.eqO (PySem.W.findIn K (.ref (He.ga K "LiveRing")) "__class__") (some (some (.builtin "object.__class__"))) && (decide (PySem.W.mroIn K (He.ga K "LiveRing") (.type "object") = some true) && (He.eqO (PySem.W.specialIn K (.builtin "object.__class__") "__get__") (some (some (.builtin "getset_descriptor.__get__"))) && (decide (PySem.W.takesIn K (.builtin "object.__class__") = some true) && (He.valsB K (He.ga K "SIZES") [("change", .int 4), ("add", .int 3), ("drop", .int 2), ("turn", .int 2)] && (true))))))
structure Wo (w : World) (K : PySem.W.Frag) (mg : Str → Option Value) : Prop where
  ex_ : ∃ h : Heap, K.In h ∧ h.Ns mainGlobals mg ∧ AL.SaysA fa fn pr ts ex w K
section
variable {w : World} {K : PySem.W.Frag} {mg : Str → Option Value} (T : Wo w K mg)
include T
theorem Wo.m_is_between : mg "is_between" = some (.ref (He.ga K "is_between")) := by obtain ⟨_, X, G, c⟩ := T.ex_; exact He.glo_ok X G (c.d.fact 0 (f := .glo "is_between") rfl)
theorem Wo.m_is_row : mg "is_row" = some (.ref (He.ga K "is_row")) := by obtain ⟨_, X, G, c⟩ := T.ex_; exact He.glo_ok X G (c.d.fact 1 (f := .glo "is_row") rfl)
theorem Wo.m_is_table : mg "is_table" = some (.ref (He.ga K "is_table")) := by obtain ⟨_, X, G, c⟩ := T.ex_; exact He.glo_ok X G (c.d.fact 2 (f := .glo "is_table") rfl)
theorem Wo.m_are_places : mg "are_places" = some (.ref (He.ga K "are_places")) := by obtain ⟨_, X, G, c⟩ := T.ex_; exact He.glo_ok X G (c.d.fact 3 (f := .glo "are_places") rfl)
theorem Wo.m_is_ring_of : mg "is_ring_of" = some (.ref (He.ga K "is_ring_of")) := by obtain ⟨_, X, G, c⟩ := T.ex_; exact He.glo_ok X G (c.d.fact 4 (f := .glo "is_ring_of") rfl)
theorem Wo.m_require_table : mg "require_table" = some (.ref (He.ga K "require_table")) := by obtain ⟨_, X, G, c⟩ := T.ex_; exact He.glo_ok X G (c.d.fact 5 (f := .glo "require_table") rfl)
theorem Wo.m_require_ring : mg "require_ring" = some (.ref (He.ga K "require_ring")) := by obtain ⟨_, X, G, c⟩ := T.ex_; exact He.glo_ok X G (c.d.fact 6 (f := .glo "require_ring") rfl)
theorem Wo.m_require_both : mg "require_both" = some (.ref (He.ga K "require_both")) := by obtain ⟨_, X, G, c⟩ := T.ex_; exact He.glo_ok X G (c.d.fact 7 (f := .glo "require_both") rfl)
theorem Wo.m_require_stops : mg "require_stops" = some (.ref (He.ga K "require_stops")) := by obtain ⟨_, X, G, c⟩ := T.ex_; exact He.glo_ok X G (c.d.fact 8 (f := .glo "require_stops") rfl)
theorem Wo.m_require_place : mg "require_place" = some (.ref (He.ga K "require_place")) := by obtain ⟨_, X, G, c⟩ := T.ex_; exact He.glo_ok X G (c.d.fact 9 (f := .glo "require_place") rfl)
theorem Wo.m_require_pair : mg "require_pair" = some (.ref (He.ga K "require_pair")) := by obtain ⟨_, X, G, c⟩ := T.ex_; exact He.glo_ok X G (c.d.fact 10 (f := .glo "require_pair") rfl)
theorem Wo.m_plain_trip : mg "plain_trip" = some (.ref (He.ga K "plain_trip")) := by obtain ⟨_, X, G, c⟩ := T.ex_; exact He.glo_ok X G (c.d.fact 11 (f := .glo "plain_trip") rfl)
theorem Wo.m_length_of : mg "length_of" = some (.ref (He.ga K "length_of")) := by obtain ⟨_, X, G, c⟩ := T.ex_; exact He.glo_ok X G (c.d.fact 12 (f := .glo "length_of") rfl)
theorem Wo.m_round_trip : mg "round_trip" = some (.ref (He.ga K "round_trip")) := by obtain ⟨_, X, G, c⟩ := T.ex_; exact He.glo_ok X G (c.d.fact 13 (f := .glo "round_trip") rfl)
theorem Wo.m_around_length : mg "around_length" = some (.ref (He.ga K "around_length")) := by obtain ⟨_, X, G, c⟩ := T.ex_; exact He.glo_ok X G (c.d.fact 14 (f := .glo "around_length") rfl)
theorem Wo.m_runs_of : mg "runs_of" = some (.ref (He.ga K "runs_of")) := by obtain ⟨_, X, G, c⟩ := T.ex_; exact He.glo_ok X G (c.d.fact 15 (f := .glo "runs_of") rfl)
theorem Wo.m_run_amount : mg "run_amount" = some (.ref (He.ga K "run_amount")) := by obtain ⟨_, X, G, c⟩ := T.ex_; exact He.glo_ok X G (c.d.fact 16 (f := .glo "run_amount") rfl)
theorem Wo.m_skips : mg "skips" = some (.ref (He.ga K "skips")) := by obtain ⟨_, X, G, c⟩ := T.ex_; exact He.glo_ok X G (c.d.fact 17 (f := .glo "skips") rfl)
theorem Wo.m_is_skip : mg "is_skip" = some (.ref (He.ga K "is_skip")) := by obtain ⟨_, X, G, c⟩ := T.ex_; exact He.glo_ok X G (c.d.fact 18 (f := .glo "is_skip") rfl)
theorem Wo.m_grown_table : mg "grown_table" = some (.ref (He.ga K "grown_table")) := by obtain ⟨_, X, G, c⟩ := T.ex_; exact He.glo_ok X G (c.d.fact 19 (f := .glo "grown_table") rfl)
theorem Wo.m_without : mg "without" = some (.ref (He.ga K "without")) := by obtain ⟨_, X, G, c⟩ := T.ex_; exact He.glo_ok X G (c.d.fact 20 (f := .glo "without") rfl)
theorem Wo.m_table_of_rest : mg "table_of_rest" = some (.ref (He.ga K "table_of_rest")) := by obtain ⟨_, X, G, c⟩ := T.ex_; exact He.glo_ok X G (c.d.fact 21 (f := .glo "table_of_rest") rfl)
theorem Wo.m_require_row : mg "require_row" = some (.ref (He.ga K "require_row")) := by obtain ⟨_, X, G, c⟩ := T.ex_; exact He.glo_ok X G (c.d.fact 22 (f := .glo "require_row") rfl)
theorem Wo.m_require_room : mg "require_room" = some (.ref (He.ga K "require_room")) := by obtain ⟨_, X, G, c⟩ := T.ex_; exact He.glo_ok X G (c.d.fact 23 (f := .glo "require_room") rfl)
theorem Wo.m_grown : mg "grown" = some (.ref (He.ga K "grown")) := by obtain ⟨_, X, G, c⟩ := T.ex_; exact He.glo_ok X G (c.d.fact 24 (f := .glo "grown") rfl)
theorem Wo.m_shrunk : mg "shrunk" = some (.ref (He.ga K "shrunk")) := by obtain ⟨_, X, G, c⟩ := T.ex_; exact He.glo_ok X G (c.d.fact 25 (f := .glo "shrunk") rfl)
theorem Wo.m_ring_without : mg "ring_without" = some (.ref (He.ga K "ring_without")) := by obtain ⟨_, X, G, c⟩ := T.ex_; exact He.glo_ok X G (c.d.fact 26 (f := .glo "ring_without") rfl)
theorem Wo.m_behind_change : mg "behind_change" = some (.ref (He.ga K "behind_change")) := by obtain ⟨_, X, G, c⟩ := T.ex_; exact He.glo_ok X G (c.d.fact 27 (f := .glo "behind_change") rfl)
theorem Wo.m_behind_add : mg "behind_add" = some (.ref (He.ga K "behind_add")) := by obtain ⟨_, X, G, c⟩ := T.ex_; exact He.glo_ok X G (c.d.fact 28 (f := .glo "behind_add") rfl)
theorem Wo.m_behind_drop : mg "behind_drop" = some (.ref (He.ga K "behind_drop")) := by obtain ⟨_, X, G, c⟩ := T.ex_; exact He.glo_ok X G (c.d.fact 29 (f := .glo "behind_drop") rfl)
theorem Wo.m_behind_turn : mg "behind_turn" = some (.ref (He.ga K "behind_turn")) := by obtain ⟨_, X, G, c⟩ := T.ex_; exact He.glo_ok X G (c.d.fact 30 (f := .glo "behind_turn") rfl)
theorem Wo.m_behind : mg "behind" = some (.ref (He.ga K "behind")) := by obtain ⟨_, X, G, c⟩ := T.ex_; exact He.glo_ok X G (c.d.fact 31 (f := .glo "behind") rfl)
theorem Wo.m_law_well : mg "_law_well" = some (.ref (He.ga K "_law_well")) := by obtain ⟨_, X, G, c⟩ := T.ex_; exact He.glo_ok X G (c.d.fact 32 (f := .glo "_law_well") rfl)
theorem Wo.m_law_draw : mg "_law_draw" = some (.ref (He.ga K "_law_draw")) := by obtain ⟨_, X, G, c⟩ := T.ex_; exact He.glo_ok X G (c.d.fact 33 (f := .glo "_law_draw") rfl)
theorem Wo.m_law_mixed : mg "_law_mixed" = some (.ref (He.ga K "_law_mixed")) := by obtain ⟨_, X, G, c⟩ := T.ex_; exact He.glo_ok X G (c.d.fact 34 (f := .glo "_law_mixed") rfl)
theorem Wo.m_law_any : mg "_law_any" = some (.ref (He.ga K "_law_any")) := by obtain ⟨_, X, G, c⟩ := T.ex_; exact He.glo_ok X G (c.d.fact 35 (f := .glo "_law_any") rfl)
theorem Wo.m_law_call : mg "_law_call" = some (.ref (He.ga K "_law_call")) := by obtain ⟨_, X, G, c⟩ := T.ex_; exact He.glo_ok X G (c.d.fact 36 (f := .glo "_law_call") rfl)
theorem Wo.m_law_changes : mg "_law_changes" = some (.ref (He.ga K "_law_changes")) := by obtain ⟨_, X, G, c⟩ := T.ex_; exact He.glo_ok X G (c.d.fact 37 (f := .glo "_law_changes") rfl)
theorem Wo.m_law_by_functions : mg "_law_by_functions" = some (.ref (He.ga K "_law_by_functions")) := by obtain ⟨_, X, G, c⟩ := T.ex_; exact He.glo_ok X G (c.d.fact 38 (f := .glo "_law_by_functions") rfl)
theorem Wo.m_law_led_right : mg "_law_led_right" = some (.ref (He.ga K "_law_led_right")) := by obtain ⟨_, X, G, c⟩ := T.ex_; exact He.glo_ok X G (c.d.fact 39 (f := .glo "_law_led_right") rfl)
theorem Wo.m_law_back_right : mg "_law_back_right" = some (.ref (He.ga K "_law_back_right")) := by obtain ⟨_, X, G, c⟩ := T.ex_; exact He.glo_ok X G (c.d.fact 40 (f := .glo "_law_back_right") rfl)
theorem Wo.m_law_right : mg "_law_right" = some (.ref (He.ga K "_law_right")) := by obtain ⟨_, X, G, c⟩ := T.ex_; exact He.glo_ok X G (c.d.fact 41 (f := .glo "_law_right") rfl)
theorem Wo.m_law : mg "law" = some (.ref (He.ga K "law")) := by obtain ⟨_, X, G, c⟩ := T.ex_; exact He.glo_ok X G (c.d.fact 42 (f := .glo "law") rfl)
theorem Wo.b_len : mg "len" = none := by obtain ⟨_, X, G, c⟩ := T.ex_; exact He.free_ok X G (c.d.fact 43 (f := .free "len") rfl)
theorem Wo.b_range : mg "range" = none := by obtain ⟨_, X, G, c⟩ := T.ex_; exact He.free_ok X G (c.d.fact 44 (f := .free "range") rfl)
theorem Wo.b_isinstance : mg "isinstance" = none := by obtain ⟨_, X, G, c⟩ := T.ex_; exact He.free_ok X G (c.d.fact 45 (f := .free "isinstance") rfl)
theorem Wo.b_all : mg "all" = none := by obtain ⟨_, X, G, c⟩ := T.ex_; exact He.free_ok X G (c.d.fact 46 (f := .free "all") rfl)
theorem Wo.b_enumerate : mg "enumerate" = none := by obtain ⟨_, X, G, c⟩ := T.ex_; exact He.free_ok X G (c.d.fact 47 (f := .free "enumerate") rfl)
theorem Wo.b_min : mg "min" = none := by obtain ⟨_, X, G, c⟩ := T.ex_; exact He.free_ok X G (c.d.fact 48 (f := .free "min") rfl)
theorem Wo.b_sum : mg "sum" = none := by obtain ⟨_, X, G, c⟩ := T.ex_; exact He.free_ok X G (c.d.fact 49 (f := .free "sum") rfl)
theorem Wo.b_list : mg "list" = none := by obtain ⟨_, X, G, c⟩ := T.ex_; exact He.free_ok X G (c.d.fact 50 (f := .free "list") rfl)
theorem Wo.b_int : mg "int" = none := by obtain ⟨_, X, G, c⟩ := T.ex_; exact He.free_ok X G (c.d.fact 51 (f := .free "int") rfl)
theorem Wo.b_set : mg "set" = none := by obtain ⟨_, X, G, c⟩ := T.ex_; exact He.free_ok X G (c.d.fact 52 (f := .free "set") rfl)
theorem Wo.b_zip : mg "zip" = none := by obtain ⟨_, X, G, c⟩ := T.ex_; exact He.free_ok X G (c.d.fact 53 (f := .free "zip") rfl)
theorem Wo.b_abs : mg "abs" = none := by obtain ⟨_, X, G, c⟩ := T.ex_; exact He.free_ok X G (c.d.fact 54 (f := .free "abs") rfl)
theorem Wo.b_str : mg "str" = none := by obtain ⟨_, X, G, c⟩ := T.ex_; exact He.free_ok X G (c.d.fact 55 (f := .free "str") rfl)
theorem Wo.b_super : mg "super" = none := by obtain ⟨_, X, G, c⟩ := T.ex_; exact He.free_ok X G (c.d.fact 56 (f := .free "super") rfl)
theorem Wo.b_tuple : mg "tuple" = none := by obtain ⟨_, X, G, c⟩ := T.ex_; exact He.free_ok X G (c.d.fact 57 (f := .free "tuple") rfl)
theorem Wo.b_bool : mg "bool" = none := by obtain ⟨_, X, G, c⟩ := T.ex_; exact He.free_ok X G (c.d.fact 58 (f := .free "bool") rfl)
theorem Wo.i_MOST_PLACES : ∃ t, mg "MOST_PLACES" = some (.int 30 t) := by obtain ⟨_, X, G, c⟩ := T.ex_; exact He.int_ok X G (c.d.fact 59 (f := .int "MOST_PLACES" 30) rfl)
theorem Wo.i_MOST_DISTANCE : ∃ t, mg "MOST_DISTANCE" = some (.int 1000000000000000000000000000000 t) := by obtain ⟨_, X, G, c⟩ := T.ex_; exact He.int_ok X G (c.d.fact 60 (f := .int "MOST_DISTANCE" 1000000000000000000000000000000) rfl)
theorem Wo.m_SIZES : mg "SIZES" = some (.ref (He.ga K "SIZES")) := by obtain ⟨_, X, G, c⟩ := T.ex_; exact He.glo_ok X G (c.d.fact 61 (f := .glo "SIZES") rfl)
theorem Wo.m_LiveRing : mg "LiveRing" = some (.ref (He.ga K "LiveRing")) := by obtain ⟨_, X, G, c⟩ := T.ex_; exact He.glo_ok X G (c.d.fact 62 (f := .glo "LiveRing") rfl)
theorem Wo.c_LiveRing : Cls K (He.ga K "LiveRing") := by obtain ⟨_, X, G, c⟩ := T.ex_; exact He.cls_ok (c.d.fact 63 (f := .cls "LiveRing") rfl)
theorem Wo.k_LiveRing : Mk K (He.ga K "LiveRing") (He.ma K (He.ga K "LiveRing") "__init__") := by obtain ⟨_, X, G, c⟩ := T.ex_; exact He.mkr_ok (c.d.fact 64 (f := .mkr "LiveRing") rfl)
theorem Wo.n_LiveRing_own_table : NoAttr K (He.ga K "LiveRing") "own_table" := by obtain ⟨_, X, G, c⟩ := T.ex_; exact He.noat_ok (c.d.fact 65 (f := .noat "LiveRing" "own_table") rfl)
theorem Wo.n_LiveRing_own_ring : NoAttr K (He.ga K "LiveRing") "own_ring" := by obtain ⟨_, X, G, c⟩ := T.ex_; exact He.noat_ok (c.d.fact 66 (f := .noat "LiveRing" "own_ring") rfl)
theorem Wo.n_LiveRing_own_steps : NoAttr K (He.ga K "LiveRing") "own_steps" := by obtain ⟨_, X, G, c⟩ := T.ex_; exact He.noat_ok (c.d.fact 67 (f := .noat "LiveRing" "own_steps") rfl)
theorem Wo.n_LiveRing_own_kind : NoAttr K (He.ga K "LiveRing") "own_kind" := by obtain ⟨_, X, G, c⟩ := T.ex_; exact He.noat_ok (c.d.fact 68 (f := .noat "LiveRing" "own_kind") rfl)
theorem Wo.h_LiveRing_check_after : Meth K (He.ga K "LiveRing") "check_after" (He.ma K (He.ga K "LiveRing") "check_after") := by obtain ⟨_, X, G, c⟩ := T.ex_; exact He.meth_ok (c.d.fact 69 (f := .meth "LiveRing" "check_after") rfl)
theorem Wo.h_LiveRing_made : Meth K (He.ga K "LiveRing") "made" (He.ma K (He.ga K "LiveRing") "made") := by obtain ⟨_, X, G, c⟩ := T.ex_; exact He.meth_ok (c.d.fact 70 (f := .meth "LiveRing" "made") rfl)
theorem Wo.h_LiveRing_change : Meth K (He.ga K "LiveRing") "change" (He.ma K (He.ga K "LiveRing") "change") := by obtain ⟨_, X, G, c⟩ := T.ex_; exact He.meth_ok (c.d.fact 71 (f := .meth "LiveRing" "change") rfl)
theorem Wo.h_LiveRing_add : Meth K (He.ga K "LiveRing") "add" (He.ma K (He.ga K "LiveRing") "add") := by obtain ⟨_, X, G, c⟩ := T.ex_; exact He.meth_ok (c.d.fact 72 (f := .meth "LiveRing" "add") rfl)
theorem Wo.h_LiveRing_drop : Meth K (He.ga K "LiveRing") "drop" (He.ma K (He.ga K "LiveRing") "drop") := by obtain ⟨_, X, G, c⟩ := T.ex_; exact He.meth_ok (c.d.fact 73 (f := .meth "LiveRing" "drop") rfl)
theorem Wo.h_LiveRing_turn : Meth K (He.ga K "LiveRing") "turn" (He.ma K (He.ga K "LiveRing") "turn") := by obtain ⟨_, X, G, c⟩ := T.ex_; exact He.meth_ok (c.d.fact 74 (f := .meth "LiveRing" "turn") rfl)
theorem Wo.h_LiveRing_undo : Meth K (He.ga K "LiveRing") "undo" (He.ma K (He.ga K "LiveRing") "undo") := by obtain ⟨_, X, G, c⟩ := T.ex_; exact He.meth_ok (c.d.fact 75 (f := .meth "LiveRing" "undo") rfl)
theorem Wo.h_LiveRing_tried : Meth K (He.ga K "LiveRing") "tried" (He.ma K (He.ga K "LiveRing") "tried") := by obtain ⟨_, X, G, c⟩ := T.ex_; exact He.meth_ok (c.d.fact 76 (f := .meth "LiveRing" "tried") rfl)
theorem Wo.h_LiveRing_len : Meth K (He.ga K "LiveRing") "__len__" (He.ma K (He.ga K "LiveRing") "__len__") := by obtain ⟨_, X, G, c⟩ := T.ex_; exact He.meth_ok (c.d.fact 77 (f := .meth "LiveRing" "__len__") rfl)
theorem Wo.h_LiveRing_bounds : Meth K (He.ga K "LiveRing") "bounds" (He.ma K (He.ga K "LiveRing") "bounds") := by obtain ⟨_, X, G, c⟩ := T.ex_; exact He.meth_ok (c.d.fact 78 (f := .meth "LiveRing" "bounds") rfl)
theorem Wo.h_LiveRing_described : Meth K (He.ga K "LiveRing") "described" (He.ma K (He.ga K "LiveRing") "described") := by obtain ⟨_, X, G, c⟩ := T.ex_; exact He.meth_ok (c.d.fact 79 (f := .meth "LiveRing" "described") rfl)
theorem Wo.h_LiveRing_again : Meth K (He.ga K "LiveRing") "again" (He.ma K (He.ga K "LiveRing") "again") := by obtain ⟨_, X, G, c⟩ := T.ex_; exact He.meth_ok (c.d.fact 80 (f := .meth "LiveRing" "again") rfl)
theorem Wo.h_LiveRing_twin : Meth K (He.ga K "LiveRing") "twin" (He.ma K (He.ga K "LiveRing") "twin") := by obtain ⟨_, X, G, c⟩ := T.ex_; exact He.meth_ok (c.d.fact 81 (f := .meth "LiveRing" "twin") rfl)
theorem Wo.h_LiveRing_eq : Meth K (He.ga K "LiveRing") "__eq__" (He.ma K (He.ga K "LiveRing") "__eq__") := by obtain ⟨_, X, G, c⟩ := T.ex_; exact He.meth_ok (c.d.fact 82 (f := .meth "LiveRing" "__eq__") rfl)
theorem Wo.q_LiveRing : PySem.W.kitOne K (.ref (He.ga K "LiveRing")) (.ref (He.ga K "LiveRing")) = some true := by obtain ⟨_, X, G, c⟩ := T.ex_; have h := c.ex_; exact of_decide_eq_true (AL.ba (show ((decide (PySem.W.kitOne K (.ref (He.ga K "LiveRing")) (.ref (He.ga K "LiveRing")) = some true)) && _) = true from h)).1
theorem Wo.oc_LiveRing : PySem.W.findIn K (.ref (He.ga K "LiveRing")) "__class__" = some (some (.builtin "object.__class__")) := by obtain ⟨_, X, G, c⟩ := T.ex_; have h := c.ex_; exact He.eqO_ok (AL.ba (show ((He.eqO (PySem.W.findIn K (.ref (He.ga K "LiveRing")) "__class__") (some (some (.builtin "object.__class__")))) && _) = true from (AL.ba h).2)).1
theorem Wo.om_LiveRing : PySem.W.mroIn K (He.ga K "LiveRing") (.type "object") = some true := by obtain ⟨_, X, G, c⟩ := T.ex_; have h := c.ex_; exact of_decide_eq_true (AL.ba (show ((decide (PySem.W.mroIn K (He.ga K "LiveRing") (.type "object") = some true)) && _) = true from (AL.ba (AL.ba h).2).2)).1
theorem Wo.o_get : PySem.W.specialIn K (.builtin "object.__class__") "__get__" = some (some (.builtin "getset_descriptor.__get__")) := by obtain ⟨_, X, G, c⟩ := T.ex_; have h := c.ex_; exact He.eqO_ok (AL.ba (show ((He.eqO (PySem.W.specialIn K (.builtin "object.__class__") "__get__") (some (some (.builtin "getset_descriptor.__get__")))) && _) = true from (AL.ba (AL.ba (AL.ba h).2).2).2)).1
theorem Wo.o_tak : PySem.W.takesIn K (.builtin "object.__class__") = some true := by obtain ⟨_, X, G, c⟩ := T.ex_; have h := c.ex_; exact of_decide_eq_true (AL.ba (show ((decide (PySem.W.takesIn K (.builtin "object.__class__") = some true)) && _) = true from (AL.ba (AL.ba (AL.ba (AL.ba h).2).2).2).2)).1
theorem Wo.v_SIZES : He.valsB K (He.ga K "SIZES") [("change", .int 4), ("add", .int 3), ("drop", .int 2), ("turn", .int 2)] = true := by obtain ⟨_, X, G, c⟩ := T.ex_; have h := c.ex_; exact id (AL.ba (show ((He.valsB K (He.ga K "SIZES") [("change", .int 4), ("add", .int 3), ("drop", .int 2), ("turn", .int 2)]) && _) = true from (AL.ba (AL.ba (AL.ba (AL.ba (AL.ba h).2).2).2).2).2)).1
theorem Wo.t_SIZES : ∃ es n, KDict K w (He.ga K "SIZES") es n := by obtain ⟨_, X, G, c⟩ := T.ex_; exact c.t.tab 0 (t := (fun K => He.ga K "SIZES", _)) rfl
theorem Wo.fd_is_between : ∃ fd, FunD K d_is_between.name d_is_between.qual d_is_between.params d_is_between.body d_is_between.scope [] [] (He.ga K "is_between") fd := by obtain ⟨_, X, G, c⟩ := T.ex_; exact c.d.def_ 0 (d := d_is_between) rfl
theorem Wo.fd_is_row : ∃ fd, FunD K d_is_row.name d_is_row.qual d_is_row.params d_is_row.body d_is_row.scope [] [] (He.ga K "is_row") fd := by obtain ⟨_, X, G, c⟩ := T.ex_; exact c.d.def_ 1 (d := d_is_row) rfl
theorem Wo.fd_is_table : ∃ fd, FunD K d_is_table.name d_is_table.qual d_is_table.params d_is_table.body d_is_table.scope [] [] (He.ga K "is_table") fd := by obtain ⟨_, X, G, c⟩ := T.ex_; exact c.d.def_ 2 (d := d_is_table) rfl
theorem Wo.fd_are_places : ∃ fd, FunD K d_are_places.name d_are_places.qual d_are_places.params d_are_places.body d_are_places.scope [] [] (He.ga K "are_places") fd := by obtain ⟨_, X, G, c⟩ := T.ex_; exact c.d.def_ 3 (d := d_are_places) rfl
theorem Wo.fd_is_ring_of : ∃ fd, FunD K d_is_ring_of.name d_is_ring_of.qual d_is_ring_of.params d_is_ring_of.body d_is_ring_of.scope [] [] (He.ga K "is_ring_of") fd := by obtain ⟨_, X, G, c⟩ := T.ex_; exact c.d.def_ 4 (d := d_is_ring_of) rfl
theorem Wo.fd_require_table : ∃ fd, FunD K d_require_table.name d_require_table.qual d_require_table.params d_require_table.body d_require_table.scope [] [] (He.ga K "require_table") fd := by obtain ⟨_, X, G, c⟩ := T.ex_; exact c.d.def_ 5 (d := d_require_table) rfl
theorem Wo.fd_require_ring : ∃ fd, FunD K d_require_ring.name d_require_ring.qual d_require_ring.params d_require_ring.body d_require_ring.scope [] [] (He.ga K "require_ring") fd := by obtain ⟨_, X, G, c⟩ := T.ex_; exact c.d.def_ 6 (d := d_require_ring) rfl
theorem Wo.fd_require_both : ∃ fd, FunD K d_require_both.name d_require_both.qual d_require_both.params d_require_both.body d_require_both.scope [] [] (He.ga K "require_both") fd := by obtain ⟨_, X, G, c⟩ := T.ex_; exact c.d.def_ 7 (d := d_require_both) rfl
theorem Wo.fd_require_stops : ∃ fd, FunD K d_require_stops.name d_require_stops.qual d_require_stops.params d_require_stops.body d_require_stops.scope [] [] (He.ga K "require_stops") fd := by obtain ⟨_, X, G, c⟩ := T.ex_; exact c.d.def_ 8 (d := d_require_stops) rfl
theorem Wo.fd_require_place : ∃ fd, FunD K d_require_place.name d_require_place.qual d_require_place.params d_require_place.body d_require_place.scope [] [] (He.ga K "require_place") fd := by obtain ⟨_, X, G, c⟩ := T.ex_; exact c.d.def_ 9 (d := d_require_place) rfl
theorem Wo.fd_require_pair : ∃ fd, FunD K d_require_pair.name d_require_pair.qual d_require_pair.params d_require_pair.body d_require_pair.scope [] [] (He.ga K "require_pair") fd := by obtain ⟨_, X, G, c⟩ := T.ex_; exact c.d.def_ 10 (d := d_require_pair) rfl
theorem Wo.fd_plain_trip : ∃ fd, FunD K d_plain_trip.name d_plain_trip.qual d_plain_trip.params d_plain_trip.body d_plain_trip.scope [] [] (He.ga K "plain_trip") fd := by obtain ⟨_, X, G, c⟩ := T.ex_; exact c.d.def_ 11 (d := d_plain_trip) rfl
theorem Wo.fd_length_of : ∃ fd, FunD K d_length_of.name d_length_of.qual d_length_of.params d_length_of.body d_length_of.scope [] [] (He.ga K "length_of") fd := by obtain ⟨_, X, G, c⟩ := T.ex_; exact c.d.def_ 12 (d := d_length_of) rfl
theorem Wo.fd_round_trip : ∃ fd, FunD K d_round_trip.name d_round_trip.qual d_round_trip.params d_round_trip.body d_round_trip.scope [] [] (He.ga K "round_trip") fd := by obtain ⟨_, X, G, c⟩ := T.ex_; exact c.d.def_ 13 (d := d_round_trip) rfl
theorem Wo.fd_around_length : ∃ fd, FunD K d_around_length.name d_around_length.qual d_around_length.params d_around_length.body d_around_length.scope [] [] (He.ga K "around_length") fd := by obtain ⟨_, X, G, c⟩ := T.ex_; exact c.d.def_ 14 (d := d_around_length) rfl
theorem Wo.fd_runs_of : ∃ fd, FunD K d_runs_of.name d_runs_of.qual d_runs_of.params d_runs_of.body d_runs_of.scope [] [] (He.ga K "runs_of") fd := by obtain ⟨_, X, G, c⟩ := T.ex_; exact c.d.def_ 15 (d := d_runs_of) rfl
theorem Wo.fd_run_amount : ∃ fd, FunD K d_run_amount.name d_run_amount.qual d_run_amount.params d_run_amount.body d_run_amount.scope [] [] (He.ga K "run_amount") fd := by obtain ⟨_, X, G, c⟩ := T.ex_; exact c.d.def_ 16 (d := d_run_amount) rfl
theorem Wo.fd_skips : ∃ fd, FunD K d_skips.name d_skips.qual d_skips.params d_skips.body d_skips.scope [] [] (He.ga K "skips") fd := by obtain ⟨_, X, G, c⟩ := T.ex_; exact c.d.def_ 17 (d := d_skips) rfl
theorem Wo.fd_is_skip : ∃ fd, FunD K d_is_skip.name d_is_skip.qual d_is_skip.params d_is_skip.body d_is_skip.scope [] [] (He.ga K "is_skip") fd := by obtain ⟨_, X, G, c⟩ := T.ex_; exact c.d.def_ 18 (d := d_is_skip) rfl
theorem Wo.fd_grown_table : ∃ fd, FunD K d_grown_table.name d_grown_table.qual d_grown_table.params d_grown_table.body d_grown_table.scope [] [] (He.ga K "grown_table") fd := by obtain ⟨_, X, G, c⟩ := T.ex_; exact c.d.def_ 19 (d := d_grown_table) rfl
theorem Wo.fd_without : ∃ fd, FunD K d_without.name d_without.qual d_without.params d_without.body d_without.scope [] [] (He.ga K "without") fd := by obtain ⟨_, X, G, c⟩ := T.ex_; exact c.d.def_ 20 (d := d_without) rfl
theorem Wo.fd_table_of_rest : ∃ fd, FunD K d_table_of_rest.name d_table_of_rest.qual d_table_of_rest.params d_table_of_rest.body d_table_of_rest.scope [] [] (He.ga K "table_of_rest") fd := by obtain ⟨_, X, G, c⟩ := T.ex_; exact c.d.def_ 21 (d := d_table_of_rest) rfl
theorem Wo.fd_require_row : ∃ fd, FunD K d_require_row.name d_require_row.qual d_require_row.params d_require_row.body d_require_row.scope [] [] (He.ga K "require_row") fd := by obtain ⟨_, X, G, c⟩ := T.ex_; exact c.d.def_ 22 (d := d_require_row) rfl
theorem Wo.fd_require_room : ∃ fd, FunD K d_require_room.name d_require_room.qual d_require_room.params d_require_room.body d_require_room.scope [] [] (He.ga K "require_room") fd := by obtain ⟨_, X, G, c⟩ := T.ex_; exact c.d.def_ 23 (d := d_require_room) rfl
theorem Wo.fd_grown : ∃ fd, FunD K d_grown.name d_grown.qual d_grown.params d_grown.body d_grown.scope [] [] (He.ga K "grown") fd := by obtain ⟨_, X, G, c⟩ := T.ex_; exact c.d.def_ 24 (d := d_grown) rfl
theorem Wo.fd_shrunk : ∃ fd, FunD K d_shrunk.name d_shrunk.qual d_shrunk.params d_shrunk.body d_shrunk.scope [] [] (He.ga K "shrunk") fd := by obtain ⟨_, X, G, c⟩ := T.ex_; exact c.d.def_ 25 (d := d_shrunk) rfl
theorem Wo.fd_ring_without : ∃ fd, FunD K d_ring_without.name d_ring_without.qual d_ring_without.params d_ring_without.body d_ring_without.scope [] [] (He.ga K "ring_without") fd := by obtain ⟨_, X, G, c⟩ := T.ex_; exact c.d.def_ 26 (d := d_ring_without) rfl
theorem Wo.fd_behind_change : ∃ fd, FunD K d_behind_change.name d_behind_change.qual d_behind_change.params d_behind_change.body d_behind_change.scope [] [] (He.ga K "behind_change") fd := by obtain ⟨_, X, G, c⟩ := T.ex_; exact c.d.def_ 27 (d := d_behind_change) rfl
theorem Wo.fd_behind_add : ∃ fd, FunD K d_behind_add.name d_behind_add.qual d_behind_add.params d_behind_add.body d_behind_add.scope [] [] (He.ga K "behind_add") fd := by obtain ⟨_, X, G, c⟩ := T.ex_; exact c.d.def_ 28 (d := d_behind_add) rfl
theorem Wo.fd_behind_drop : ∃ fd, FunD K d_behind_drop.name d_behind_drop.qual d_behind_drop.params d_behind_drop.body d_behind_drop.scope [] [] (He.ga K "behind_drop") fd := by obtain ⟨_, X, G, c⟩ := T.ex_; exact c.d.def_ 29 (d := d_behind_drop) rfl
theorem Wo.fd_behind_turn : ∃ fd, FunD K d_behind_turn.name d_behind_turn.qual d_behind_turn.params d_behind_turn.body d_behind_turn.scope [] [] (He.ga K "behind_turn") fd := by obtain ⟨_, X, G, c⟩ := T.ex_; exact c.d.def_ 30 (d := d_behind_turn) rfl
theorem Wo.fd_behind : ∃ fd, FunD K d_behind.name d_behind.qual d_behind.params d_behind.body d_behind.scope [] [] (He.ga K "behind") fd := by obtain ⟨_, X, G, c⟩ := T.ex_; exact c.d.def_ 31 (d := d_behind) rfl
theorem Wo.fd_law_well : ∃ fd, FunD K d_law_well.name d_law_well.qual d_law_well.params d_law_well.body d_law_well.scope [] [] (He.ga K "_law_well") fd := by obtain ⟨_, X, G, c⟩ := T.ex_; exact c.d.def_ 32 (d := d_law_well) rfl
theorem Wo.fd_law_draw : ∃ fd, FunD K d_law_draw.name d_law_draw.qual d_law_draw.params d_law_draw.body d_law_draw.scope [] [] (He.ga K "_law_draw") fd := by obtain ⟨_, X, G, c⟩ := T.ex_; exact c.d.def_ 33 (d := d_law_draw) rfl
theorem Wo.fd_law_mixed : ∃ fd, FunD K d_law_mixed.name d_law_mixed.qual d_law_mixed.params d_law_mixed.body d_law_mixed.scope [] [] (He.ga K "_law_mixed") fd := by obtain ⟨_, X, G, c⟩ := T.ex_; exact c.d.def_ 34 (d := d_law_mixed) rfl
theorem Wo.fd_law_any : ∃ fd, FunD K d_law_any.name d_law_any.qual d_law_any.params d_law_any.body d_law_any.scope [] [] (He.ga K "_law_any") fd := by obtain ⟨_, X, G, c⟩ := T.ex_; exact c.d.def_ 35 (d := d_law_any) rfl
theorem Wo.fd_law_call : ∃ fd, FunD K d_law_call.name d_law_call.qual d_law_call.params d_law_call.body d_law_call.scope [] [] (He.ga K "_law_call") fd := by obtain ⟨_, X, G, c⟩ := T.ex_; exact c.d.def_ 36 (d := d_law_call) rfl
theorem Wo.fd_law_changes : ∃ fd, FunD K d_law_changes.name d_law_changes.qual d_law_changes.params d_law_changes.body d_law_changes.scope [] [] (He.ga K "_law_changes") fd := by obtain ⟨_, X, G, c⟩ := T.ex_; exact c.d.def_ 37 (d := d_law_changes) rfl
theorem Wo.fd_law_by_functions : ∃ fd, FunD K d_law_by_functions.name d_law_by_functions.qual d_law_by_functions.params d_law_by_functions.body d_law_by_functions.scope [] [] (He.ga K "_law_by_functions") fd := by obtain ⟨_, X, G, c⟩ := T.ex_; exact c.d.def_ 38 (d := d_law_by_functions) rfl
theorem Wo.fd_law_led_right : ∃ fd, FunD K d_law_led_right.name d_law_led_right.qual d_law_led_right.params d_law_led_right.body d_law_led_right.scope [] [] (He.ga K "_law_led_right") fd := by obtain ⟨_, X, G, c⟩ := T.ex_; exact c.d.def_ 39 (d := d_law_led_right) rfl
theorem Wo.fd_law_back_right : ∃ fd, FunD K d_law_back_right.name d_law_back_right.qual d_law_back_right.params d_law_back_right.body d_law_back_right.scope [] [] (He.ga K "_law_back_right") fd := by obtain ⟨_, X, G, c⟩ := T.ex_; exact c.d.def_ 40 (d := d_law_back_right) rfl
theorem Wo.fd_law_right : ∃ fd, FunD K d_law_right.name d_law_right.qual d_law_right.params d_law_right.body d_law_right.scope [] [] (He.ga K "_law_right") fd := by obtain ⟨_, X, G, c⟩ := T.ex_; exact c.d.def_ 41 (d := d_law_right) rfl
theorem Wo.fd_law : ∃ fd, FunD K d_law.name d_law.qual d_law.params d_law.body d_law.scope [] [] (He.ga K "law") fd := by obtain ⟨_, X, G, c⟩ := T.ex_; exact c.d.def_ 42 (d := d_law) rfl
theorem Wo.fd_LiveRing_init : ∃ fd, FunD K d_LiveRing_init.name d_LiveRing_init.qual d_LiveRing_init.params d_LiveRing_init.body d_LiveRing_init.scope [] [] (He.ma K (He.ga K "LiveRing") "__init__") fd := by obtain ⟨_, X, G, c⟩ := T.ex_; exact c.d.def_ 43 (d := d_LiveRing_init) rfl
theorem Wo.fd_LiveRing_check_after : ∃ fd, FunD K d_LiveRing_check_after.name d_LiveRing_check_after.qual d_LiveRing_check_after.params d_LiveRing_check_after.body d_LiveRing_check_after.scope [] [] (He.ma K (He.ga K "LiveRing") "check_after") fd := by obtain ⟨_, X, G, c⟩ := T.ex_; exact c.d.def_ 44 (d := d_LiveRing_check_after) rfl
theorem Wo.fd_LiveRing_made : ∃ fd, FunD K d_LiveRing_made.name d_LiveRing_made.qual d_LiveRing_made.params d_LiveRing_made.body d_LiveRing_made.scope [] [] (He.ma K (He.ga K "LiveRing") "made") fd := by obtain ⟨_, X, G, c⟩ := T.ex_; exact c.d.def_ 45 (d := d_LiveRing_made) rfl
theorem Wo.fd_LiveRing_change : ∃ fd, FunD K d_LiveRing_change.name d_LiveRing_change.qual d_LiveRing_change.params d_LiveRing_change.body d_LiveRing_change.scope [] [] (He.ma K (He.ga K "LiveRing") "change") fd := by obtain ⟨_, X, G, c⟩ := T.ex_; exact c.d.def_ 46 (d := d_LiveRing_change) rfl
theorem Wo.fd_LiveRing_add : ∃ fd, FunD K d_LiveRing_add.name d_LiveRing_add.qual d_LiveRing_add.params d_LiveRing_add.body d_LiveRing_add.scope [] [] (He.ma K (He.ga K "LiveRing") "add") fd := by obtain ⟨_, X, G, c⟩ := T.ex_; exact c.d.def_ 47 (d := d_LiveRing_add) rfl
theorem Wo.fd_LiveRing_drop : ∃ fd, FunD K d_LiveRing_drop.name d_LiveRing_drop.qual d_LiveRing_drop.params d_LiveRing_drop.body d_LiveRing_drop.scope [] [] (He.ma K (He.ga K "LiveRing") "drop") fd := by obtain ⟨_, X, G, c⟩ := T.ex_; exact c.d.def_ 48 (d := d_LiveRing_drop) rfl
theorem Wo.fd_LiveRing_turn : ∃ fd, FunD K d_LiveRing_turn.name d_LiveRing_turn.qual d_LiveRing_turn.params d_LiveRing_turn.body d_LiveRing_turn.scope [] [] (He.ma K (He.ga K "LiveRing") "turn") fd := by obtain ⟨_, X, G, c⟩ := T.ex_; exact c.d.def_ 49 (d := d_LiveRing_turn) rfl
theorem Wo.fd_LiveRing_undo : ∃ fd, FunD K d_LiveRing_undo.name d_LiveRing_undo.qual d_LiveRing_undo.params d_LiveRing_undo.body d_LiveRing_undo.scope [] [] (He.ma K (He.ga K "LiveRing") "undo") fd := by obtain ⟨_, X, G, c⟩ := T.ex_; exact c.d.def_ 50 (d := d_LiveRing_undo) rfl
theorem Wo.fd_LiveRing_tried : ∃ fd, FunD K d_LiveRing_tried.name d_LiveRing_tried.qual d_LiveRing_tried.params d_LiveRing_tried.body d_LiveRing_tried.scope [] [] (He.ma K (He.ga K "LiveRing") "tried") fd := by obtain ⟨_, X, G, c⟩ := T.ex_; exact c.d.def_ 51 (d := d_LiveRing_tried) rfl
theorem Wo.fd_LiveRing_len : ∃ fd, FunD K d_LiveRing_len.name d_LiveRing_len.qual d_LiveRing_len.params d_LiveRing_len.body d_LiveRing_len.scope [] [] (He.ma K (He.ga K "LiveRing") "__len__") fd := by obtain ⟨_, X, G, c⟩ := T.ex_; exact c.d.def_ 52 (d := d_LiveRing_len) rfl
theorem Wo.fd_LiveRing_bounds : ∃ fd, FunD K d_LiveRing_bounds.name d_LiveRing_bounds.qual d_LiveRing_bounds.params d_LiveRing_bounds.body d_LiveRing_bounds.scope [] [] (He.ma K (He.ga K "LiveRing") "bounds") fd := by obtain ⟨_, X, G, c⟩ := T.ex_; exact c.d.def_ 53 (d := d_LiveRing_bounds) rfl
theorem Wo.fd_LiveRing_described : ∃ fd, FunD K d_LiveRing_described.name d_LiveRing_described.qual d_LiveRing_described.params d_LiveRing_described.body d_LiveRing_described.scope [] [] (He.ma K (He.ga K "LiveRing") "described") fd := by obtain ⟨_, X, G, c⟩ := T.ex_; exact c.d.def_ 54 (d := d_LiveRing_described) rfl
theorem Wo.fd_LiveRing_again : ∃ fd, FunD K d_LiveRing_again.name d_LiveRing_again.qual d_LiveRing_again.params d_LiveRing_again.body d_LiveRing_again.scope [] [] (He.ma K (He.ga K "LiveRing") "again") fd := by obtain ⟨_, X, G, c⟩ := T.ex_; exact c.d.def_ 55 (d := d_LiveRing_again) rfl
theorem Wo.fd_LiveRing_twin : ∃ fd, FunD K d_LiveRing_twin.name d_LiveRing_twin.qual d_LiveRing_twin.params d_LiveRing_twin.body d_LiveRing_twin.scope [] [] (He.ma K (He.ga K "LiveRing") "twin") fd := by obtain ⟨_, X, G, c⟩ := T.ex_; exact c.d.def_ 56 (d := d_LiveRing_twin) rfl
theorem Wo.fd_LiveRing_eq : ∃ fd, FunD K d_LiveRing_eq.name d_LiveRing_eq.qual d_LiveRing_eq.params d_LiveRing_eq.body d_LiveRing_eq.scope [] [] (He.ma K (He.ga K "LiveRing") "__eq__") fd := by obtain ⟨_, X, G, c⟩ := T.ex_; exact c.d.def_ 57 (d := d_LiveRing_eq) rfl
theorem Wo.fd_LiveRing_table : PropOf K (He.ga K "LiveRing") "table" (AL.prA K "LiveRing" "table") (AL.geA K "LiveRing" "table") ∧ ∃ fd, FunD K d_LiveRing_table.name d_LiveRing_table.qual d_LiveRing_table.params d_LiveRing_table.body d_LiveRing_table.scope [] [] (AL.geA K "LiveRing" "table") fd := by obtain ⟨_, X, G, c⟩ := T.ex_; exact c.prop_ 0 (p := ("LiveRing", "table", d_LiveRing_table)) rfl
theorem Wo.fd_LiveRing_ring : PropOf K (He.ga K "LiveRing") "ring" (AL.prA K "LiveRing" "ring") (AL.geA K "LiveRing" "ring") ∧ ∃ fd, FunD K d_LiveRing_ring.name d_LiveRing_ring.qual d_LiveRing_ring.params d_LiveRing_ring.body d_LiveRing_ring.scope [] [] (AL.geA K "LiveRing" "ring") fd := by obtain ⟨_, X, G, c⟩ := T.ex_; exact c.prop_ 1 (p := ("LiveRing", "ring", d_LiveRing_ring)) rfl
theorem Wo.fd_LiveRing_is_skip : PropOf K (He.ga K "LiveRing") "is_skip" (AL.prA K "LiveRing" "is_skip") (AL.geA K "LiveRing" "is_skip") ∧ ∃ fd, FunD K d_LiveRing_is_skip.name d_LiveRing_is_skip.qual d_LiveRing_is_skip.params d_LiveRing_is_skip.body d_LiveRing_is_skip.scope [] [] (AL.geA K "LiveRing" "is_skip") fd := by obtain ⟨_, X, G, c⟩ := T.ex_; exact c.prop_ 2 (p := ("LiveRing", "is_skip", d_LiveRing_is_skip)) rfl
theorem Wo.fd_LiveRing_length : PropOf K (He.ga K "LiveRing") "length" (AL.prA K "LiveRing" "length") (AL.geA K "LiveRing" "length") ∧ ∃ fd, FunD K d_LiveRing_length.name d_LiveRing_length.qual d_LiveRing_length.params d_LiveRing_length.body d_LiveRing_length.scope [] [] (AL.geA K "LiveRing" "length") fd := by obtain ⟨_, X, G, c⟩ := T.ex_; exact c.prop_ 3 (p := ("LiveRing", "length", d_LiveRing_length)) rfl
theorem Wo.fd_LiveRing_log : PropOf K (He.ga K "LiveRing") "log" (AL.prA K "LiveRing" "log") (AL.geA K "LiveRing" "log") ∧ ∃ fd, FunD K d_LiveRing_log.name d_LiveRing_log.qual d_LiveRing_log.params d_LiveRing_log.body d_LiveRing_log.scope [] [] (AL.geA K "LiveRing" "log") fd := by obtain ⟨_, X, G, c⟩ := T.ex_; exact c.prop_ 4 (p := ("LiveRing", "log", d_LiveRing_log)) rfl
end
end D81

/-! the head of law_k81_whole_calls_in_either_sequence: run -/
namespace D81
open PySem PySem.Spec PyProof.Rows L2
abbrev R : PySem.W.OpenRow := PySem.W.OpenLaw.row PySem.Challenge.rw_skipstops_k81_whole_calls_in_either_sequ
abbrev hk : PySem.W.Hook := AL.hookA 5 fa fn pr ts ex
def ob (s : PySem.W.SharedT) : AL.AlA := AL.obsA 5 fa fn pr ts ex (HandSHeadRun.getT s)
theorem ob_eq (s : PySem.W.SharedT) : ob s = hk.obs s.abs := AL.obsA_eq (HandSHeadRun.getT_eq s)
def loose : List PySem.Str := (["__name__", "RingError", "InvalidTable", "InvalidRing", "InvalidStops", "InvalidPlace", "InvalidIndex", "InvalidNumber", "InvalidRow", "InvalidChange", "LastPlace", "NothingToUndo", "TooLarge", "MOST_PLACES", "MOST_DISTANCE", "is_between", "is_row", "is_table", "are_places", "is_ring_of", "require_table", "require_ring", "require_both", "require_stops", "require_place", "require_pair", "plain_trip", "length_of", "round_trip", "around_length"] : List PySem.Str) ++ (["runs_of", "run_amount", "skips", "is_skip", "grown_table", "without", "table_of_rest", "require_row", "require_room", "grown", "shrunk", "ring_without", "SIZES", "behind_change", "behind_add", "behind_drop", "behind_turn", "behind", "LiveRing", "_law_well", "_law_draw", "_law_mixed", "_law_any", "_law_call", "_law_changes", "_law_by_functions", "_law_led_right", "_law_back_right", "_law_right"] : List PySem.Str)
theorem run : ∀ w, HandSHeadRun.RunEq R (PySem.W.view R.prog [64]) hk ob 12000 loose w := PySem.W.byRow2 "special-get-raises" (fun w os => by kernel_rfl) (fun w os => by kernel_rfl)
def lawIx : Nat := 64
end D81

/-! AL0: abstract states over the hand layer: slots hold data (or raw values), owned cells hold what may change; data once laid never changes. -/
namespace AL
open PySem PySem.Spec PyProof.Rows L2

/-- an item: data, a raw value (a pointer to an owned cell, a def, a class), the law's script -/
inductive Im where
  | d (x : PyData)
  | v (x : V)
  | s (ns : List Int)
  | t (is : List Im)
  | l (is : List Im)
inductive Cell where
  | lst (xs : List Im)
  | ins (C dx : Addr) (fs : List (Str × Im))
  | dK (kvs : List (Key × Im))
  | dT (kvs : List (List Key × Im))
abbrev Own := Addr → Option Cell
abbrev Ro := List (Option Im)
def setO (O : Own) (a : Addr) (c : Cell) : Own := fun b => if b = a then some c else O b
theorem setO_same {O : Own} {a : Addr} {c : Cell} : setO O a c a = some c := by unfold setO; rw [if_pos rfl]
theorem setO_ne {O : Own} {a b : Addr} {c : Cell} (h : b ≠ a) : setO O a c b = O b := by unfold setO; rw [if_neg h]
theorem setO_setO {O : Own} {a : Addr} {c c' : Cell} : setO (setO O a c) a c' = setO O a c' := by
  funext b; unfold setO; split <;> rfl
theorem setO_self {O : Own} {a : Addr} {c : Cell} (h : O a = some c) : setO O a c = O := by
  funext b; unfold setO; split
  · rename_i e; subst e; exact h.symm
  · rfl
theorem setO_comm {O : Own} {a b : Addr} {c c' : Cell} (h : a ≠ b) : setO (setO O a c) b c' = setO (setO O b c') a c := by
  funext x; unfold setO
  by_cases h1 : x = a
  · have h2 : ¬ x = b := fun e => h (h1.symm.trans e)
    simp only [if_pos h1, if_neg h2]
  · by_cases h2 : x = b
    · simp only [if_neg h1, if_pos h2]
    · simp only [if_neg h1, if_neg h2]
/-- no owned cell -/
def nil0 : Own := fun _ => none

mutual
/-- a value is data in the heap F: lists and tuples are tracked -/
inductive Dt (F : Hp) : V → PyData → Prop
  | non : Dt F .non .none
  | bl (b : Bool) : Dt F (.bl b) (.bool b)
  | int (i : Int) : Dt F (.int i) (.int i)
  | str (x : Str) : Dt F (.str x) (.str x)
  | lst {a : Addr} {xs : List V} {ds : List PyData} : F a = some (.lst xs) → DtAll F xs ds → Dt F (.ref a) (.list ds)
  | tup {a : Addr} {xs : List V} {ds : List PyData} : F a = some (.tup xs) → DtAll F xs ds → Dt F (.ref a) (.tuple ds)
inductive DtAll (F : Hp) : List V → List PyData → Prop
  | nil : DtAll F [] []
  | cons {v : V} {vs : List V} {d : PyData} {ds : List PyData} : Dt F v d → DtAll F vs ds → DtAll F (v :: vs) (d :: ds)
end
mutual
def ImOk (K : PySem.W.Frag) (F : Hp) : Im → V → Prop
  | .d x, v => Dt F v x
  | .v w, v => v = w
  | .s ns, v => ∃ a, v = .ref a ∧ SqL K F a (ns.map V.int)
  | .t is, v => ∃ a vs, v = .ref a ∧ F a = some (.tup vs) ∧ ImAll K F is vs
  | .l is, v => ∃ a vs, v = .ref a ∧ F a = some (.lst vs) ∧ ImAll K F is vs
def ImAll (K : PySem.W.Frag) (F : Hp) : List Im → List V → Prop
  | [], vs => vs = []
  | i :: is, vs => ∃ v ws, vs = v :: ws ∧ ImOk K F i v ∧ ImAll K F is ws
end
theorem ImAll.pair {K : PySem.W.Frag} {F : Hp} : ∀ {is : List Im} {vs : List V}, ImAll K F is vs → Paired (ImOk K F) is vs
  | [], vs, h => by
    have e : vs = [] := by simpa only [ImAll] using h
    subst e; exact .nil
  | i :: is, vs, h => by
    have h' : ∃ v ws, vs = v :: ws ∧ ImOk K F i v ∧ ImAll K F is ws := by simpa only [ImAll] using h
    obtain ⟨v, ws, e, h1, h2⟩ := h'
    subst e
    exact .cons h1 (ImAll.pair h2)
theorem ImAll.of_pair {K : PySem.W.Frag} {F : Hp} : ∀ {is : List Im} {vs : List V}, Paired (ImOk K F) is vs → ImAll K F is vs
  | [], vs, h => by cases h; simp only [ImAll]
  | i :: is, vs, h => by
    cases h with
    | cons h t => simp only [ImAll]; exact ⟨_, _, rfl, h, ImAll.of_pair t⟩
def CellHO (K : PySem.W.Frag) (F : Hp) : Cell → HO → Prop
  | .lst xs, .lst vs => Paired (ImOk K F) xs vs
  | .ins C dx fs, .ins C' dx' gs => C = C' ∧ dx = dx' ∧ Paired (fun (p : Str × Im) (q : Str × V) => p.1 = q.1 ∧ ImOk K F p.2 q.2) fs gs
  | .dK kvs, .dK gs => Paired (fun (p : Key × Im) (q : Key × V) => p.1 = q.1 ∧ ImOk K F p.2 q.2) kvs gs
  | .dT kvs, .dT gs => Paired (fun (p : List Key × Im) (q : List Key × V) => p.1 = q.1 ∧ ImOk K F p.2 q.2) kvs gs
  | _, _ => False

section
variable {K : PySem.W.Frag} {F F' H H' : Hp}
theorem Same.seqT {a : Addr} {xs : List V} (e : Same H H') (h : SqT K H a xs) : SqT K H' a xs := by
  rcases h with (h | ⟨o, h⟩) | h
  · exact .inl (.inl (e _ _ h))
  · exact .inl (.inr ⟨o, e _ _ h⟩)
  · exact .inr h
mutual
theorem Dt.mono (e : Same F F') : ∀ {v : V} {d : PyData}, Dt F v d → Dt F' v d
  | _, _, .non => .non
  | _, _, .bl b => .bl b
  | _, _, .int i => .int i
  | _, _, .str x => .str x
  | _, _, .lst hs ha => .lst (e _ _ hs) (DtAll.mono e ha)
  | _, _, .tup hs ha => .tup (e _ _ hs) (DtAll.mono e ha)
theorem DtAll.mono (e : Same F F') : ∀ {vs : List V} {ds : List PyData}, DtAll F vs ds → DtAll F' vs ds
  | _, _, .nil => .nil
  | _, _, .cons h t => .cons (Dt.mono e h) (DtAll.mono e t)
end
mutual
theorem Dt.dp : ∀ {v : V} {d : PyData}, Dt F v d → Dp K F v d
  | _, _, .non => .non
  | _, _, .bl b => .bl b
  | _, _, .int i => .int i
  | _, _, .str x => .str x
  | _, _, .lst hs ha => .lst (SqL.of hs) (DtAll.dp ha)
  | _, _, .tup hs ha => .tup (SqT.of hs) (DtAll.dp ha)
theorem DtAll.dp : ∀ {vs : List V} {ds : List PyData}, DtAll F vs ds → L2.DpAll K F vs ds
  | _, _, .nil => .nil
  | _, _, .cons h t => .cons (Dt.dp h) (DtAll.dp t)
end
mutual
theorem ImOk.mono (e : Same F F') : ∀ {i : Im} {v : V}, ImOk K F i v → ImOk K F' i v
  | .d x, v, h => by
    simp only [ImOk] at h ⊢
    exact Dt.mono e h
  | .v w, v, h => by
    simp only [ImOk] at h ⊢
    exact h
  | .s ns, v, h => by
    simp only [ImOk] at h ⊢
    obtain ⟨a, e1, e2⟩ := h
    exact ⟨a, e1, e.seq e2⟩
  | .t is, v, h => by
    simp only [ImOk] at h ⊢
    obtain ⟨a, vs, e1, e2, e3⟩ := h
    exact ⟨a, vs, e1, e _ _ e2, ImAll.mono e e3⟩
  | .l is, v, h => by
    simp only [ImOk] at h ⊢
    obtain ⟨a, vs, e1, e2, e3⟩ := h
    exact ⟨a, vs, e1, e _ _ e2, ImAll.mono e e3⟩
theorem ImAll.mono (e : Same F F') : ∀ {is : List Im} {vs : List V}, ImAll K F is vs → ImAll K F' is vs
  | [], vs, h => by
    simp only [ImAll] at h ⊢
    exact h
  | i :: is, vs, h => by
    simp only [ImAll] at h ⊢
    obtain ⟨v, ws, e1, e2, e3⟩ := h
    exact ⟨v, ws, e1, ImOk.mono e e2, ImAll.mono e e3⟩
end
theorem imd {x : PyData} {v : V} (h : Dt F v x) : ImOk K F (.d x) v := by simp only [ImOk]; exact h
theorem of_imd {x : PyData} {v : V} (h : ImOk K F (.d x) v) : Dt F v x := by simpa only [ImOk] using h
theorem imv {w : V} : ImOk K F (.v w) w := by simp only [ImOk]
theorem of_imv {w v : V} (h : ImOk K F (.v w) v) : v = w := by simpa only [ImOk] using h
theorem of_ims {ns : List Int} {v : V} (h : ImOk K F (.s ns) v) : ∃ a, v = .ref a ∧ SqL K F a (ns.map V.int) := by simpa only [ImOk] using h
theorem imt {is : List Im} {a : Addr} {vs : List V} (h : F a = some (.tup vs)) (q : Paired (ImOk K F) is vs) : ImOk K F (.t is) (.ref a) := by
  simp only [ImOk]; exact ⟨a, vs, rfl, h, ImAll.of_pair q⟩
theorem of_imt {is : List Im} {v : V} (h : ImOk K F (.t is) v) : ∃ a vs, v = .ref a ∧ F a = some (.tup vs) ∧ Paired (ImOk K F) is vs := by
  have h' : ∃ a vs, v = .ref a ∧ F a = some (.tup vs) ∧ ImAll K F is vs := by simpa only [ImOk] using h
  obtain ⟨a, vs, e1, e2, e3⟩ := h'
  exact ⟨a, vs, e1, e2, ImAll.pair e3⟩
theorem iml {is : List Im} {a : Addr} {vs : List V} (h : F a = some (.lst vs)) (q : Paired (ImOk K F) is vs) : ImOk K F (.l is) (.ref a) := by
  simp only [ImOk]; exact ⟨a, vs, rfl, h, ImAll.of_pair q⟩
theorem of_iml {is : List Im} {v : V} (h : ImOk K F (.l is) v) : ∃ a vs, v = .ref a ∧ F a = some (.lst vs) ∧ Paired (ImOk K F) is vs := by
  have h' : ∃ a vs, v = .ref a ∧ F a = some (.lst vs) ∧ ImAll K F is vs := by simpa only [ImOk] using h
  obtain ⟨a, vs, e1, e2, e3⟩ := h'
  exact ⟨a, vs, e1, e2, ImAll.pair e3⟩
theorem PairedIm.mono (e : Same F F') {is : List Im} {vs : List V} (h : Paired (ImOk K F) is vs) : Paired (ImOk K F') is vs := Paired.mapP h fun _ _ z => ImOk.mono e z
theorem CellHO.mono (e : Same F F') {c : Cell} {o : HO} (h : CellHO K F c o) : CellHO K F' c o := by
  cases c <;> cases o <;> first
    | exact h.elim
    | exact Paired.mapP h fun _ _ z => ImOk.mono e z
    | exact Paired.mapP h fun _ _ z => ⟨z.1, ImOk.mono e z.2⟩
    | exact ⟨h.1, h.2.1, Paired.mapP h.2.2 fun _ _ z => ⟨z.1, ImOk.mono e z.2⟩⟩
/-- lists of data, as items -/
theorem DtAll.im : ∀ {vs : List V} {ds : List PyData}, DtAll F vs ds → Paired (ImOk K F) (ds.map Im.d) vs
  | _, _, .nil => .nil
  | _, _, .cons h t => .cons (imd h) (DtAll.im t)
theorem DtAll.of_im : ∀ {ds : List PyData} {vs : List V}, Paired (ImOk K F) (ds.map Im.d) vs → DtAll F vs ds
  | [], _, h => by cases h; exact .nil
  | d :: ds, _, h => by
    cases h with
    | cons h t => exact .cons (of_imd h) (DtAll.of_im t)
theorem DtAll.len : ∀ {vs : List V} {ds : List PyData}, DtAll F vs ds → vs.length = ds.length
  | _, _, .nil => rfl
  | _, _, .cons _ t => by simp [DtAll.len t]
theorem DtAll.app : ∀ {vs ws : List V} {ds es : List PyData}, DtAll F vs ds → DtAll F ws es → DtAll F (vs ++ ws) (ds ++ es)
  | _, _, _, _, .nil, s => s
  | _, _, _, _, .cons h t, s => .cons h (DtAll.app t s)
theorem DtAll.get : ∀ {vs : List V} {ds : List PyData} {i : Nat} {d : PyData}, DtAll F vs ds → ds[i]? = some d → ∃ v, vs[i]? = some v ∧ Dt F v d
  | _, _, _, _, .nil, e => by simp at e
  | _, _, 0, _, .cons h _, e => by simp at e; subst e; exact ⟨_, rfl, h⟩
  | _, _, i + 1, d, .cons _ t, e => by
    obtain ⟨v, h1, h2⟩ := DtAll.get (i := i) (d := d) t (by simpa using e)
    exact ⟨v, by simpa using h1, h2⟩
theorem DtAll.drop : ∀ {vs : List V} {ds : List PyData} (n : Nat), DtAll F vs ds → DtAll F (vs.drop n) (ds.drop n)
  | _, _, 0, h => h
  | _, _, _ + 1, .nil => .nil
  | _, _, n + 1, .cons _ t => DtAll.drop n t
theorem DtAll.take : ∀ {vs : List V} {ds : List PyData} (n : Nat), DtAll F vs ds → DtAll F (vs.take n) (ds.take n)
  | _, _, 0, _ => .nil
  | _, _, _ + 1, .nil => .nil
  | _, _, n + 1, .cons h t => .cons h (DtAll.take n t)
theorem DtAll.rev {vs : List V} {ds : List PyData} (h : DtAll F vs ds) : DtAll F vs.reverse ds.reverse := by
  have go : ∀ {vs : List V} {ds : List PyData}, DtAll F vs ds → DtAll F vs.reverse ds.reverse := by
    intro vs ds h
    induction ds generalizing vs with
    | nil => cases h; exact .nil
    | cons d ds ih =>
      cases h with
      | cons h t => rw [List.reverse_cons, List.reverse_cons]; exact DtAll.app (ih t) (.cons h .nil)
  exact go h
theorem PairedIm.get : ∀ {is : List Im} {vs : List V} {i : Nat} {d : Im}, Paired (ImOk K F) is vs → is[i]? = some d → ∃ v, vs[i]? = some v ∧ ImOk K F d v
  | _, _, _, _, .nil, e => by simp at e
  | _, _, 0, _, .cons h _, e => by simp at e; subst e; exact ⟨_, rfl, h⟩
  | _, _, i + 1, d, .cons _ t, e => by
    obtain ⟨v, h1, h2⟩ := PairedIm.get (i := i) (d := d) t (by simpa using e)
    exact ⟨v, by simpa using h1, h2⟩
theorem PairedIm.app : ∀ {is js : List Im} {vs ws : List V}, Paired (ImOk K F) is vs → Paired (ImOk K F) js ws → Paired (ImOk K F) (is ++ js) (vs ++ ws)
  | _, _, _, _, .nil, s => s
  | _, _, _, _, .cons h t, s => .cons h (PairedIm.app t s)
theorem PairedIm.set {x : Im} {v : V} (r : ImOk K F x v) : ∀ {is : List Im} {vs : List V} (i : Nat), Paired (ImOk K F) is vs → Paired (ImOk K F) (is.set i x) (vs.set i v)
  | _, _, _, .nil => .nil
  | _, _, 0, .cons _ t => .cons r t
  | _, _, i + 1, .cons q t => .cons q (PairedIm.set r i t)
theorem PairedIm.dropLast : ∀ {is : List Im} {vs : List V}, Paired (ImOk K F) is vs → Paired (ImOk K F) is.dropLast vs.dropLast
  | _, _, .nil => .nil
  | _, _, .cons _ .nil => .nil
  | _, _, .cons h (.cons h2 t) => .cons h (PairedIm.dropLast (.cons h2 t))
theorem PairedIm.eraseIdx : ∀ {is : List Im} {vs : List V} (i : Nat), Paired (ImOk K F) is vs → Paired (ImOk K F) (is.eraseIdx i) (vs.eraseIdx i)
  | _, _, _, .nil => .nil
  | _, _, 0, .cons _ t => t
  | _, _, i + 1, .cons h t => .cons h (PairedIm.eraseIdx i t)
end

/-- the abstract heap at hand: what is laid for good (F) and the owned cells (O) -/
structure Ok (K : PySem.W.Frag) (F H : Hp) (O : Own) : Prop where
  same : Same F H
  cell : ∀ a c, O a = some c → F a = none ∧ ∃ o, H a = some o ∧ CellHO K F c o
/-- how it may go on: what is laid stays, what is neither laid nor owned stays as it is -/
structure Ext (F H : Hp) (O : Own) (F' H' : Hp) (O' : Own) : Prop where
  f : Same F F'
  h : ∀ b o, H b = some o → O b = none → H' b = some o
  n : ∀ b, F b = none → H b ≠ none → O b = none → F' b = none
  o : ∀ b, O' b ≠ none → O b ≠ none ∨ H b = none
  g : ∀ b, H' b = none → H b = none
section
variable {K : PySem.W.Frag} {F F' F1 F2 H H' H1 H2 : Hp} {O O' O1 O2 : Own}
theorem Ext.refl : Ext F H O F H O := ⟨Same.refl _, fun _ _ e _ => e, fun _ e _ _ => e, fun _ e => .inl e, fun _ e => e⟩
theorem upd_none {H : Hp} {p b : Addr} {o : HO} (h : upd H p o b = none) : H b = none := by
  unfold upd at h
  split at h
  · cases h
  · exact h
theorem Ext.trans (a : Ext F H O F1 H1 O1) (b : Ext F1 H1 O1 F2 H2 O2) : Ext F H O F2 H2 O2 := by
  have keep : ∀ c o, H c = some o → O c = none → O1 c = none := fun c o e n => by
    cases q : O1 c with
    | none => rfl
    | some x =>
      rcases a.o c (by rw [q]; simp) with z | z
      · exact absurd n z
      · rw [e] at z; cases z
  refine ⟨a.f.trans b.f, fun c o e n => b.h c o (a.h c o e n) (keep c o e n), fun c e q n => ?_, fun c e => ?_, fun c e => a.g c (b.g c e)⟩
  · cases h : H c with
    | none => exact absurd h q
    | some o => exact b.n c (a.n c e q n) (by rw [a.h c o h n]; simp) (keep c o h n)
  · rcases b.o c e with z | z
    · exact a.o c z
    · cases h : H c with
      | none => exact .inr rfl
      | some o =>
        refine .inl fun n => ?_
        rw [a.h c o h n] at z; cases z
/-- fewer owned cells -/
theorem Ok.sub (ok : Ok K F H O) (h : ∀ a c, O' a = some c → O a = some c) : Ok K F H O' := ⟨ok.same, fun a c e => ok.cell a c (h a c e)⟩
theorem Ext.sub (e : Ext F H O F' H' O1) (h : ∀ a c, O2 a = some c → O1 a = some c) : Ext F H O F' H' O2 := ⟨e.f, e.h, e.n, fun b z => by
  cases q : O2 b with
  | none => exact absurd q z
  | some c => exact e.o b (by rw [h b c q]; simp), e.g⟩
theorem Ok.fresh (ok : Ok K F H O) {p : Addr} (h : H p = none) : O p = none := by
  cases q : O p with
  | none => rfl
  | some c => obtain ⟨_, o, e, _⟩ := ok.cell p c q; rw [h] at e; cases e
/-- a new object is laid for good -/
theorem Ok.lay (ok : Ok K F H O) {p : Addr} {o : HO} (h : H p = none) : Ok K (upd F p o) (upd H p o) O := by
  refine ⟨fun b u e => ?_, fun a c e => ?_⟩
  · by_cases hb : b = p
    · subst hb; rw [upd_same] at e ⊢; exact e
    · rw [upd_ne hb] at e ⊢; exact ok.same b u e
  · obtain ⟨f, u, hu, k⟩ := ok.cell a c e
    have ne : a ≠ p := ne_of_none hu h
    have s : Same F (upd F p o) := fun b x y => by rw [upd_ne (ne_of_none y (ok.same.free h))]; exact y
    exact ⟨by rw [upd_ne ne]; exact f, u, by rw [upd_ne ne]; exact hu, k.mono s⟩
theorem Ext.lay (ok : Ok K F H O) {p : Addr} {o : HO} (h : H p = none) : Ext F H O (upd F p o) (upd H p o) O :=
  ⟨fun b x y => by rw [upd_ne (ne_of_none y (ok.same.free h))]; exact y, fun b x y _ => by rw [upd_ne (ne_of_none y h)]; exact y,
   fun b e q _ => by
    have : b ≠ p := fun z => q (by rw [z]; exact h)
    rw [upd_ne this]; exact e, fun b e => .inl e, fun b e => upd_none e⟩
theorem same_lay (ok : Ok K F H O) {p : Addr} {o : HO} (h : H p = none) : Same F (upd F p o) := (Ext.lay ok h).f
/-- a new object is made, owned -/
theorem Ok.new (ok : Ok K F H O) {p : Addr} {o : HO} {c : Cell} (h : H p = none) (k : CellHO K F c o) : Ok K F (upd H p o) (setO O p c) := by
  refine ⟨fun b u e => ?_, fun a c' e => ?_⟩
  · rw [upd_ne (ne_of_none e (ok.same.free h))]; exact ok.same b u e
  · by_cases ha : a = p
    · subst ha
      rw [setO_same] at e; cases e
      exact ⟨ok.same.free h, o, upd_same, k⟩
    · rw [setO_ne ha] at e
      obtain ⟨f, u, hu, q⟩ := ok.cell a c' e
      exact ⟨f, u, by rw [upd_ne ha]; exact hu, q⟩
theorem Ext.new {p : Addr} {o : HO} {c : Cell} (h : H p = none) : Ext F H O F (upd H p o) (setO O p c) :=
  ⟨Same.refl _, fun b x y _ => by rw [upd_ne (ne_of_none y h)]; exact y, fun b e _ _ => e, fun b e => by
    by_cases hb : b = p
    · exact .inr (by rw [hb]; exact h)
    · rw [setO_ne hb] at e; exact .inl e, fun b e => upd_none e⟩
/-- an owned cell is changed -/
theorem Ok.set (ok : Ok K F H O) {p : Addr} {o : HO} {c c0 : Cell} (h : O p = some c0) (k : CellHO K F c o) : Ok K F (upd H p o) (setO O p c) := by
  obtain ⟨f0, u0, h0, _⟩ := ok.cell p c0 h
  refine ⟨fun b u e => ?_, fun a c' e => ?_⟩
  · have : b ≠ p := fun z => by rw [z, f0] at e; cases e
    rw [upd_ne this]; exact ok.same b u e
  · by_cases ha : a = p
    · subst ha
      rw [setO_same] at e; cases e
      exact ⟨f0, o, upd_same, k⟩
    · rw [setO_ne ha] at e
      obtain ⟨f, u, hu, q⟩ := ok.cell a c' e
      exact ⟨f, u, by rw [upd_ne ha]; exact hu, q⟩
theorem Ext.set {p : Addr} {o : HO} {c c0 : Cell} (h : O p = some c0) : Ext F H O F (upd H p o) (setO O p c) :=
  ⟨Same.refl _, fun b x y z => by
    have : b ≠ p := fun e => by rw [e, h] at z; cases z
    rw [upd_ne this]; exact y, fun b e _ _ => e, fun b e => by
    by_cases hb : b = p
    · exact .inl (by rw [hb, h]; simp)
    · rw [setO_ne hb] at e; exact .inl e, fun b e => upd_none e⟩
def delO (O : Own) (p : Addr) : Own := fun b => if b = p then none else O b
/-- an owned list is laid for good -/
theorem Ok.freeze (ok : Ok K F H O) {p : Addr} {c : Cell} (h : O p = some c) : ∃ o, H p = some o ∧ CellHO K F c o ∧ Ok K (upd F p o) H (delO O p) ∧ Ext F H O (upd F p o) H (delO O p) ∧ Same F (upd F p o) := by
  obtain ⟨f0, u0, h0, k0⟩ := ok.cell p c h
  have s : Same F (upd F p u0) := fun b x y => by rw [upd_ne (ne_of_none y f0)]; exact y
  refine ⟨u0, h0, k0, ⟨fun b u e => ?_, fun a c' e => ?_⟩, ⟨s, fun b o e _ => e, fun b e q n => ?_, fun b e => ?_, fun b e => e⟩, s⟩
  · by_cases hb : b = p
    · subst hb; rw [upd_same] at e; rw [h0]; exact e
    · rw [upd_ne hb] at e; exact ok.same b u e
  · unfold delO at e
    by_cases ha : a = p
    · rw [if_pos ha] at e; cases e
    · rw [if_neg ha] at e
      obtain ⟨f, u, hu, q⟩ := ok.cell a c' e
      exact ⟨by rw [upd_ne ha]; exact f, u, hu, q.mono s⟩
  · have : b ≠ p := fun z => by rw [z, h] at n; cases n
    rw [upd_ne this]; exact e
  · unfold delO at e
    by_cases hb : b = p
    · rw [if_pos hb] at e; exact absurd rfl e
    · rw [if_neg hb] at e; exact .inl e
end

/-! ### slots -/
def SlotOk (K : PySem.W.Frag) (F : Hp) (i : Option Im) (s : Option V) : Prop := ∀ it, i = some it → ∃ v, s = some v ∧ ImOk K F it v
abbrev Rho (K : PySem.W.Frag) (F : Hp) (ρ : Ro) (σ : L2.St) : Prop := Paired (SlotOk K F) ρ σ
/-- less is known -/
abbrev Le (ρ' ρ : Ro) : Prop := Paired (fun (a b : Option Im) => ∀ it, a = some it → b = some it) ρ' ρ
section
variable {K : PySem.W.Frag} {F F' : Hp} {ρ ρ' : Ro} {σ : L2.St}
theorem Rho.mono (e : Same F F') (h : Rho K F ρ σ) : Rho K F' ρ σ := Paired.mapP h fun _ _ z it q => by
  obtain ⟨v, h1, h2⟩ := z it q
  exact ⟨v, h1, h2.mono e⟩
theorem Rho.le : ∀ {ρ' ρ : Ro} {σ : L2.St}, Le ρ' ρ → Rho K F ρ σ → Rho K F ρ' σ
  | _, _, _, .nil, .nil => .nil
  | _, _, _, .cons a t, .cons b u => .cons (fun it q => b it (a it q)) (Rho.le t u)
theorem Le.refl : ∀ ρ : Ro, Le ρ ρ
  | [] => .nil
  | _ :: r => .cons (fun _ e => e) (Le.refl r)
theorem Rho.get : ∀ {ρ : Ro} {σ : L2.St} {i : Nat} {it : Im}, Rho K F ρ σ → ρ[i]? = some (some it) → ∃ v, σ[i]? = some (some v) ∧ ImOk K F it v
  | _, _, _, _, .nil, e => by simp at e
  | _, _, 0, _, .cons h _, e => by
    simp at e; subst e
    obtain ⟨v, h1, h2⟩ := h _ rfl
    exact ⟨v, by rw [h1]; rfl, h2⟩
  | _, _, i + 1, it, .cons _ t, e => by
    obtain ⟨v, h1, h2⟩ := Rho.get (i := i) (it := it) t (by simpa using e)
    exact ⟨v, by simpa using h1, h2⟩
theorem Rho.set {x : Im} {v : V} (r : ImOk K F x v) : ∀ {ρ : Ro} {σ : L2.St} (i : Nat), Rho K F ρ σ → Rho K F (ρ.set i (some x)) (σ.set i (some v))
  | _, _, _, .nil => .nil
  | _, _, 0, .cons _ t => .cons (fun it e => by cases e; exact ⟨v, rfl, r⟩) t
  | _, _, i + 1, .cons q t => .cons q (Rho.set r i t)
theorem Rho.len : ∀ {ρ : Ro} {σ : L2.St}, Rho K F ρ σ → ρ.length = σ.length
  | _, _, .nil => rfl
  | _, _, .cons _ t => by simp [Rho.len t]
/-- the slots at a def's start -/
theorem Rho.start {is : List Im} {vs : List V} : ∀ {N : List Str}, Paired (ImOk K F) is vs → Rho K F (is.map some ++ List.replicate (N.length - is.length) none) (start N vs) := by
  intro N h
  have hl : is.length = vs.length := Paired.length h
  unfold L2.start
  rw [hl]
  have rep : ∀ n, Rho K F (List.replicate n none) (List.replicate n none) := fun n => by
    induction n with
    | zero => exact .nil
    | succ n ih => exact .cons (fun _ e => nomatch e) ih
  have go : ∀ {is : List Im} {vs : List V} (n : Nat), Paired (ImOk K F) is vs → Rho K F (is.map some ++ List.replicate n none) (vs.map some ++ List.replicate n none) := by
    intro is vs n h
    induction h with
    | nil => exact rep n
    | cons a _ ih => exact .cons (fun it e => by cases e; exact ⟨_, rfl, a⟩) ih
  exact go _ h
end

/-! ### judgements -/
abbrev EQ := Im → Own → Prop
section
variable (X : Cx)
/-- the weakest readings -/
def TEw (e : Expr) : TE := fun σ H Q => ∀ (pins : List (Addr × Obj)) (s : Shared), Inv X pins σ H s → wpAny (model X.prog X.w) X.A (eval e X.env) (EP X pins σ Q) X.xe s
def TTw (e : Expr) : TT := fun σ H Q => ∀ (pins : List (Addr × Obj)) (s : Shared), Inv X pins σ H s → wpAny (model X.prog X.w) X.A (isTrue e X.env (eval e X.env)) (TP X pins σ Q) X.xe s
def TWw (e : Expr) : TT := fun σ H Q => ∀ (whole : Sem Value) (pins : List (Addr × Obj)) (s : Shared), Inv X pins σ H s → wpAny (model X.prog X.w) X.A (isTrue e X.env whole) (TP X pins σ Q) X.xe s
def TAw (es : List Expr) : TA := fun σ H Q => ∀ (pos : Pos) (pins : List (Addr × Obj)) (s : Shared), Inv X pins σ H s → wpAny (model X.prog X.w) X.A (spliced (backTo pos (starEach es X.env))) (AP X pins σ Q) X.xe s
def TSw (st : Stmt) : TS := fun D σ H => ∀ (pins : List (Addr × Obj)) (s : Shared), Inv X pins σ H s → wpAny (model X.prog X.w) X.A (exec st X.env) (SP X pins D) X.xe s
def TSsw (st : List Stmt) : TS := fun D σ H => ∀ (pins : List (Addr × Obj)) (s : Shared), Inv X pins σ H s → wpAny (model X.prog X.w) X.A (execs st X.env) (SP X pins D) X.xe s
def TGw (tg : Expr) : TG := fun v σ H Q => ∀ (pins : List (Addr × Obj)) (s : Shared) (u : Value), Inv X pins σ H s → RelV v u → wpAny (model X.prog X.w) X.A (assign tg X.env u) (fun _ s' => ∃ σ' H', Inv X pins σ' H' s' ∧ Q σ' H') X.xe s
theorem pe_self (e : Expr) : PE X e (TEw X e) := ⟨fun pins s σ H Q I h => h pins s I⟩
theorem pt_self (e : Expr) : PT X e (TTw X e) := ⟨fun pins s σ H Q I h => h pins s I⟩
theorem pw_self (e : Expr) : PW X e (TWw X e) := ⟨fun whole pins s σ H Q I h => h whole pins s I⟩
theorem pa_self (es : List Expr) : PA X es (TAw X es) := ⟨fun pos pins s σ H Q I h => h pos pins s I⟩
theorem ps_self (st : Stmt) : PS X st (TSw X st) := ⟨fun pins s σ H D I h => h pins s I⟩
theorem pss_self (st : List Stmt) : PSs X st (TSsw X st) := ⟨fun pins s σ H D I h => h pins s I⟩
theorem pg_self (tg : Expr) : PG X tg (TGw X tg) := ⟨fun pins s σ H v u Q I r h => h pins s u I r⟩
/-- an expression: in the slots ρ, with the cells O, it gives an item and cells of which R holds -/
def EW (ρ : Ro) (O : Own) (e : Expr) (R : EQ) : Prop :=
  ∀ (σ : L2.St) (F H : Hp) (Q : VK), Ok X.K F H O → Rho X.K F ρ σ → (∀ it O' v F' H', R it O' → Ok X.K F' H' O' → Ext F H O F' H' O' → ImOk X.K F' it v → Q v H') → TEw X e σ H Q
abbrev Ev (ρ : Ro) (O : Own) (e : Expr) (it : Im) (O' : Own) : Prop := EW X ρ O e fun i o => i = it ∧ o = O'
/-- a test -/
def TW (ρ : Ro) (O : Own) (e : Expr) (R : Bool → Own → Prop) : Prop :=
  ∀ (σ : L2.St) (F H : Hp) (Q : Bool → Hp → Prop), Ok X.K F H O → Rho X.K F ρ σ → (∀ b O' F' H', R b O' → Ok X.K F' H' O' → Ext F H O F' H' O' → Q b H') → TTw X e σ H Q
abbrev Et (ρ : Ro) (O : Own) (e : Expr) (b : Bool) (O' : Own) : Prop := TW X ρ O e fun c o => c = b ∧ o = O'
def WW (ρ : Ro) (O : Own) (e : Expr) (R : Bool → Own → Prop) : Prop :=
  ∀ (σ : L2.St) (F H : Hp) (Q : Bool → Hp → Prop), Ok X.K F H O → Rho X.K F ρ σ → (∀ b O' F' H', R b O' → Ok X.K F' H' O' → Ext F H O F' H' O' → Q b H') → TWw X e σ H Q
/-- arguments -/
def AW (ρ : Ro) (O : Own) (es : List Expr) (R : List Im → Own → Prop) : Prop :=
  ∀ (σ : L2.St) (F H : Hp) (Q : List V → Hp → Prop), Ok X.K F H O → Rho X.K F ρ σ → (∀ is O' vs F' H', R is O' → Ok X.K F' H' O' → Ext F H O F' H' O' → Paired (ImOk X.K F') is vs → Q vs H') → TAw X es σ H Q
abbrev Ea (ρ : Ro) (O : Own) (es : List Expr) (is : List Im) (O' : Own) : Prop := AW X ρ O es fun i o => i = is ∧ o = O'
/-- how a statement ends -/
inductive Out where
  | nx (ρ : Ro) | rt (it : Im) | bk (ρ : Ro) | ct (ρ : Ro)
structure Post (K : PySem.W.Frag) (F H : Hp) (O : Own) (R : Out → Own → Prop) (D : Ends) : Prop where
  nx : ∀ ρ' O' σ' F' H', R (.nx ρ') O' → Ok K F' H' O' → Ext F H O F' H' O' → Rho K F' ρ' σ' → D.nx σ' H'
  rt : ∀ it O' v F' H', R (.rt it) O' → Ok K F' H' O' → Ext F H O F' H' O' → ImOk K F' it v → D.rt v H'
  bk : ∀ ρ' O' σ' F' H', R (.bk ρ') O' → Ok K F' H' O' → Ext F H O F' H' O' → Rho K F' ρ' σ' → D.bk σ' H'
  ct : ∀ ρ' O' σ' F' H', R (.ct ρ') O' → Ok K F' H' O' → Ext F H O F' H' O' → Rho K F' ρ' σ' → D.ct σ' H'
def Wp (ρ : Ro) (O : Own) (st : Stmt) (R : Out → Own → Prop) : Prop :=
  ∀ (σ : L2.St) (F H : Hp) (D : Ends), Ok X.K F H O → Rho X.K F ρ σ → Post X.K F H O R D → TSw X st D σ H
def Wps (ρ : Ro) (O : Own) (st : List Stmt) (R : Out → Own → Prop) : Prop :=
  ∀ (σ : L2.St) (F H : Hp) (D : Ends), Ok X.K F H O → Rho X.K F ρ σ → Post X.K F H O R D → TSsw X st D σ H
/-- a target of an assignment -/
def Tgt (ρ : Ro) (O : Own) (tg : Expr) (it : Im) (R : Ro → Own → Prop) : Prop :=
  ∀ (v : V) (σ : L2.St) (F H : Hp) (Q : L2.St → Hp → Prop), Ok X.K F H O → Rho X.K F ρ σ → ImOk X.K F it v → (∀ ρ' O' σ' F' H', R ρ' O' → Ok X.K F' H' O' → Ext F H O F' H' O' → Rho X.K F' ρ' σ' → Q σ' H') → TGw X tg v σ H Q
end
section
variable {X : Cx} {ρ : Ro} {O O' : Own}
theorem EW.out {e : Expr} {R : EQ} (h : EW X ρ O e R) : ∃ t, PE X e t ∧ ∀ (σ : L2.St) (F H : Hp) (Q : VK), Ok X.K F H O → Rho X.K F ρ σ → (∀ it O' v F' H', R it O' → Ok X.K F' H' O' → Ext F H O F' H' O' → ImOk X.K F' it v → Q v H') → t σ H Q := ⟨_, pe_self X e, h⟩
theorem EW.mk {e : Expr} {R : EQ} (h : ∃ t, PE X e t ∧ ∀ (σ : L2.St) (F H : Hp) (Q : VK), Ok X.K F H O → Rho X.K F ρ σ → (∀ it O' v F' H', R it O' → Ok X.K F' H' O' → Ext F H O F' H' O' → ImOk X.K F' it v → Q v H') → t σ H Q) : EW X ρ O e R := by
  obtain ⟨t, p, k⟩ := h
  exact fun σ F H Q ok rho z pins s I => p.run pins s σ H Q I (k σ F H Q ok rho z)
theorem TW.out {e : Expr} {R : Bool → Own → Prop} (h : TW X ρ O e R) : ∃ t, PT X e t ∧ ∀ (σ : L2.St) (F H : Hp) (Q : Bool → Hp → Prop), Ok X.K F H O → Rho X.K F ρ σ → (∀ b O' F' H', R b O' → Ok X.K F' H' O' → Ext F H O F' H' O' → Q b H') → t σ H Q := ⟨_, pt_self X e, h⟩
theorem TW.mk {e : Expr} {R : Bool → Own → Prop} (h : ∃ t, PT X e t ∧ ∀ (σ : L2.St) (F H : Hp) (Q : Bool → Hp → Prop), Ok X.K F H O → Rho X.K F ρ σ → (∀ b O' F' H', R b O' → Ok X.K F' H' O' → Ext F H O F' H' O' → Q b H') → t σ H Q) : TW X ρ O e R := by
  obtain ⟨t, p, k⟩ := h
  exact fun σ F H Q ok rho z pins s I => p.run pins s σ H Q I (k σ F H Q ok rho z)
theorem WW.out {e : Expr} {R : Bool → Own → Prop} (h : WW X ρ O e R) : ∃ t, PW X e t ∧ ∀ (σ : L2.St) (F H : Hp) (Q : Bool → Hp → Prop), Ok X.K F H O → Rho X.K F ρ σ → (∀ b O' F' H', R b O' → Ok X.K F' H' O' → Ext F H O F' H' O' → Q b H') → t σ H Q := ⟨_, pw_self X e, h⟩
theorem WW.mk {e : Expr} {R : Bool → Own → Prop} (h : ∃ t, PW X e t ∧ ∀ (σ : L2.St) (F H : Hp) (Q : Bool → Hp → Prop), Ok X.K F H O → Rho X.K F ρ σ → (∀ b O' F' H', R b O' → Ok X.K F' H' O' → Ext F H O F' H' O' → Q b H') → t σ H Q) : WW X ρ O e R := by
  obtain ⟨t, p, k⟩ := h
  exact fun σ F H Q ok rho z whole pins s I => p.run whole pins s σ H Q I (k σ F H Q ok rho z)
theorem AW.out {es : List Expr} {R : List Im → Own → Prop} (h : AW X ρ O es R) : ∃ t, PA X es t ∧ ∀ (σ : L2.St) (F H : Hp) (Q : List V → Hp → Prop), Ok X.K F H O → Rho X.K F ρ σ → (∀ is O' vs F' H', R is O' → Ok X.K F' H' O' → Ext F H O F' H' O' → Paired (ImOk X.K F') is vs → Q vs H') → t σ H Q := ⟨_, pa_self X es, h⟩
theorem AW.mk {es : List Expr} {R : List Im → Own → Prop} (h : ∃ t, PA X es t ∧ ∀ (σ : L2.St) (F H : Hp) (Q : List V → Hp → Prop), Ok X.K F H O → Rho X.K F ρ σ → (∀ is O' vs F' H', R is O' → Ok X.K F' H' O' → Ext F H O F' H' O' → Paired (ImOk X.K F') is vs → Q vs H') → t σ H Q) : AW X ρ O es R := by
  obtain ⟨t, p, k⟩ := h
  exact fun σ F H Q ok rho z pos pins s I => p.run pos pins s σ H Q I (k σ F H Q ok rho z)
theorem Wp.out {st : Stmt} {R : Out → Own → Prop} (h : Wp X ρ O st R) : ∃ t, PS X st t ∧ ∀ (σ : L2.St) (F H : Hp) (D : Ends), Ok X.K F H O → Rho X.K F ρ σ → Post X.K F H O R D → t D σ H := ⟨_, ps_self X st, h⟩
theorem Wp.mk {st : Stmt} {R : Out → Own → Prop} (h : ∃ t, PS X st t ∧ ∀ (σ : L2.St) (F H : Hp) (D : Ends), Ok X.K F H O → Rho X.K F ρ σ → Post X.K F H O R D → t D σ H) : Wp X ρ O st R := by
  obtain ⟨t, p, k⟩ := h
  exact fun σ F H D ok rho z pins s I => p.run pins s σ H D I (k σ F H D ok rho z)
theorem Wps.out {st : List Stmt} {R : Out → Own → Prop} (h : Wps X ρ O st R) : ∃ t, PSs X st t ∧ ∀ (σ : L2.St) (F H : Hp) (D : Ends), Ok X.K F H O → Rho X.K F ρ σ → Post X.K F H O R D → t D σ H := ⟨_, pss_self X st, h⟩
theorem Wps.mk {st : List Stmt} {R : Out → Own → Prop} (h : ∃ t, PSs X st t ∧ ∀ (σ : L2.St) (F H : Hp) (D : Ends), Ok X.K F H O → Rho X.K F ρ σ → Post X.K F H O R D → t D σ H) : Wps X ρ O st R := by
  obtain ⟨t, p, k⟩ := h
  exact fun σ F H D ok rho z pins s I => p.run pins s σ H D I (k σ F H D ok rho z)
theorem Tgt.out {tg : Expr} {it : Im} {R : Ro → Own → Prop} (h : Tgt X ρ O tg it R) : ∃ g, PG X tg g ∧ ∀ (v : V) (σ : L2.St) (F H : Hp) (Q : L2.St → Hp → Prop), Ok X.K F H O → Rho X.K F ρ σ → ImOk X.K F it v → (∀ ρ' O' σ' F' H', R ρ' O' → Ok X.K F' H' O' → Ext F H O F' H' O' → Rho X.K F' ρ' σ' → Q σ' H') → g v σ H Q := ⟨_, pg_self X tg, h⟩
theorem Tgt.mk {tg : Expr} {it : Im} {R : Ro → Own → Prop} (h : ∃ g, PG X tg g ∧ ∀ (v : V) (σ : L2.St) (F H : Hp) (Q : L2.St → Hp → Prop), Ok X.K F H O → Rho X.K F ρ σ → ImOk X.K F it v → (∀ ρ' O' σ' F' H', R ρ' O' → Ok X.K F' H' O' → Ext F H O F' H' O' → Rho X.K F' ρ' σ' → Q σ' H') → g v σ H Q) : Tgt X ρ O tg it R := by
  obtain ⟨t, p, k⟩ := h
  exact fun v σ F H Q ok rho iv z pins s u I r => p.run pins s σ H v u Q I r (k v σ F H Q ok rho iv z)
theorem EW.mono {e : Expr} {R R' : EQ} (h : EW X ρ O e R) (k : ∀ i o, R i o → R' i o) : EW X ρ O e R' := fun σ F H Q ok rho z => h σ F H Q ok rho fun it O' v F' H' r => z it O' v F' H' (k _ _ r)
theorem Ev.w {e : Expr} {R : EQ} {it : Im} (h : Ev X ρ O e it O') (k : R it O') : EW X ρ O e R := EW.mono h fun i o z => by rw [z.1, z.2]; exact k
theorem TW.mono {e : Expr} {R R' : Bool → Own → Prop} (h : TW X ρ O e R) (k : ∀ i o, R i o → R' i o) : TW X ρ O e R' := fun σ F H Q ok rho z => h σ F H Q ok rho fun it O' F' H' r => z it O' F' H' (k _ _ r)
theorem Post.imp {K : PySem.W.Frag} {F H : Hp} {R R' : Out → Own → Prop} {D : Ends} (p : Post K F H O R' D) (k : ∀ i o, R i o → R' i o) : Post K F H O R D :=
  ⟨fun a b c d e r => p.nx a b c d e (k _ _ r), fun a b c d e r => p.rt a b c d e (k _ _ r), fun a b c d e r => p.bk a b c d e (k _ _ r), fun a b c d e r => p.ct a b c d e (k _ _ r)⟩
theorem Wp.mono {st : Stmt} {R R' : Out → Own → Prop} (h : Wp X ρ O st R) (k : ∀ i o, R i o → R' i o) : Wp X ρ O st R' := fun σ F H D ok rho z => h σ F H D ok rho (z.imp k)
theorem Wps.mono {st : List Stmt} {R R' : Out → Own → Prop} (h : Wps X ρ O st R) (k : ∀ i o, R i o → R' i o) : Wps X ρ O st R' := fun σ F H D ok rho z => h σ F H D ok rho (z.imp k)
/-- behind a step -/
theorem Post.after {K : PySem.W.Frag} {F H F1 H1 : Hp} {O1 : Own} {R : Out → Own → Prop} {D : Ends} (p : Post K F H O R D) (e : Ext F H O F1 H1 O1) : Post K F1 H1 O1 R D :=
  ⟨fun a b c d f r ok x => p.nx a b c d f r ok (e.trans x), fun a b c d f r ok x => p.rt a b c d f r ok (e.trans x), fun a b c d f r ok x => p.bk a b c d f r ok (e.trans x), fun a b c d f r ok x => p.ct a b c d f r ok (e.trans x)⟩
end
end AL

/-! AL1: expressions over abstract states: names, constants, arithmetic, comparisons, tests. -/
namespace AL
open PySem PySem.Spec PyProof.Rows L2
abbrev iI (i : Int) : Im := .d (.int i)
abbrev iB (b : Bool) : Im := .d (.bool b)
abbrev iS (x : Str) : Im := .d (.str x)
abbrev iN : Im := .d .none
abbrev iL (ds : List PyData) : Im := .d (.list ds)
abbrev iT (ds : List PyData) : Im := .d (.tuple ds)
abbrev iP (a : Addr) : Im := .v (.ref a)
section
variable {K : PySem.W.Frag} {F : Hp} {v : V}
theorem imI {i : Int} (h : ImOk K F (iI i) v) : v = .int i := by cases of_imd h; rfl
theorem imB {b : Bool} (h : ImOk K F (iB b) v) : v = .bl b := by cases of_imd h; rfl
theorem imS {x : Str} (h : ImOk K F (iS x) v) : v = .str x := by cases of_imd h; rfl
theorem imN (h : ImOk K F iN v) : v = .non := by cases of_imd h; rfl
theorem imL {ds : List PyData} (h : ImOk K F (iL ds) v) : ∃ a xs, v = .ref a ∧ F a = some (.lst xs) ∧ DtAll F xs ds := by
  cases of_imd h with
  | lst h1 h2 => exact ⟨_, _, rfl, h1, h2⟩
theorem imT {ds : List PyData} (h : ImOk K F (iT ds) v) : ∃ a xs, v = .ref a ∧ F a = some (.tup xs) ∧ DtAll F xs ds := by
  cases of_imd h with
  | tup h1 h2 => exact ⟨_, _, rfl, h1, h2⟩
theorem mI {i : Int} : ImOk K F (iI i) (.int i) := imd (.int i)
theorem mB {b : Bool} : ImOk K F (iB b) (.bl b) := imd (.bl b)
theorem mS {x : Str} : ImOk K F (iS x) (.str x) := imd (.str x)
theorem mN : ImOk K F iN .non := imd .non
theorem mL {ds : List PyData} {a : Addr} {xs : List V} (h : F a = some (.lst xs)) (q : DtAll F xs ds) : ImOk K F (iL ds) (.ref a) := imd (.lst h q)
theorem mT {ds : List PyData} {a : Addr} {xs : List V} (h : F a = some (.tup xs)) (q : DtAll F xs ds) : ImOk K F (iT ds) (.ref a) := imd (.tup h q)
theorem DtAll.ints : ∀ {vs : List V} {ns : List Int}, DtAll F vs (ns.map .int) → vs = ns.map V.int
  | _, [], h => by cases h; rfl
  | _, n :: ns, h => by
    cases h with
    | cons h t => cases h; rw [DtAll.ints t]; rfl
theorem DtAll.of_ints : ∀ ns : List Int, DtAll F (ns.map V.int) (ns.map .int)
  | [] => .nil
  | n :: ns => .cons (.int n) (DtAll.of_ints ns)
theorem DtAll.bls : ∀ {vs : List V} {ns : List Bool}, DtAll F vs (ns.map .bool) → vs = ns.map V.bl
  | _, [], h => by cases h; rfl
  | _, n :: ns, h => by
    cases h with
    | cons h t => cases h; rw [DtAll.bls t]; rfl
theorem DtAll.strs : ∀ {vs : List V} {ns : List Str}, DtAll F vs (ns.map .str) → vs = ns.map V.str
  | _, [], h => by cases h; rfl
  | _, n :: ns, h => by
    cases h with
    | cons h t => cases h; rw [DtAll.strs t]; rfl
theorem DtAll.of_strs : ∀ ns : List Str, DtAll F (ns.map V.str) (ns.map .str)
  | [] => .nil
  | n :: ns => .cons (.str n) (DtAll.of_strs ns)
end
section
variable {X : Cx} {ρ : Ro} {O O1 O2 O3 : Own} {pos p : Pos} {a b e : Expr}
/-! ### names, constants -/
theorem ev_var (i : Nat) {x : Str} {it : Im} (h : ρ[i]? = some (some it) := by rfl) (hN : X.N[i]? = some x := by rfl) (hv : Vis X.env.scope x := by first | exact Or.inl rfl | exact Or.inr (Or.inl rfl) | exact Or.inr (Or.inr rfl))
    (hd : (x == ("__debug__" : Str)) = false := by decide) (hcd : (x == ("__classdict__" : Str)) = false := by decide) : Ev X ρ O (.Name x pos) it O :=
  EW.mk ⟨tVar i, pe_var hN hv hd hcd, fun σ F H Q ok rho k => by
    obtain ⟨v, e, r⟩ := rho.get h
    exact ⟨v, e, k _ _ _ F H ⟨rfl, rfl⟩ ok Ext.refl r⟩⟩
theorem ev_c {v : V} {it : Im} (h : PE X e (tC v)) (r : ∀ F, ImOk X.K F it v) : Ev X ρ O e it O :=
  EW.mk ⟨_, h, fun σ F H Q ok rho k => k _ _ _ F H ⟨rfl, rfl⟩ ok Ext.refl (r F)⟩
theorem ev_int {i : Int} {j : Nat} : Ev X ρ O (.Constant (.int i) j pos) (iI i) O := ev_c pe_int fun _ => mI
theorem ev_bl {i : Bool} {j : Nat} : Ev X ρ O (.Constant (.bool i) j pos) (iB i) O := ev_c pe_bl fun _ => mB
theorem ev_str {i : Str} {j : Nat} : Ev X ρ O (.Constant (.str i) j pos) (iS i) O := ev_c pe_str fun _ => mS
theorem ev_non {j : Nat} : Ev X ρ O (.Constant .none j pos) iN O := ev_c pe_non fun _ => mN
/-- a module's int -/
theorem ev_gint {x : Str} {i : Int} (hm : ∃ t, X.mg x = some (.int i t)) (hg : Gl X x := by rfl) (hd : (x == ("__debug__" : Str)) = false := by decide) : Ev X ρ O (.Name x pos) (iI i) O := by
  obtain ⟨t, hm⟩ := hm
  exact ev_c (pe_glob (v := .int i) hg hm ⟨t, rfl⟩ hd) fun _ => mI
/-- a module's class or def, as a value -/
theorem ev_gref {x : Str} {f : Addr} (hm : X.mg x = some (.ref f)) (hg : Gl X x := by rfl) (hd : (x == ("__debug__" : Str)) = false := by decide) : Ev X ρ O (.Name x pos) (.v (.ref f)) O :=
  ev_c (pe_glob (v := .ref f) hg hm rfl hd) fun _ => imv
theorem ev_gty {x : Str} {n : String} (hm : X.mg x = none) (hv : bootBuiltins x = some (.type n) := by decide +kernel) (hg : Gl X x := by rfl) (hn : x ≠ "__name__" := by decide) (hd : (x == ("__debug__" : Str)) = false := by decide) : Ev X ρ O (.Name x pos) (.v (.ty n)) O :=
  ev_c (pe_bltn (v := .ty n) hg hm hv rfl hn hd) fun _ => imv
/-! ### operators -/
/-- by an operator's rule -/
theorem ew_op {op : Operator} {r : R2} {x y : Im} {R : EQ} (ho : OpR X (binaryOp op) r) (ha : Ev X ρ O a x O1) (hb : Ev X ρ O1 b y O2)
    (h : ∀ F H v w (Q : VK), Ok X.K F H O2 → ImOk X.K F x v → ImOk X.K F y w → (∀ it O' u F' H', R it O' → Ok X.K F' H' O' → Ext F H O2 F' H' O' → ImOk X.K F' it u → Q u H') → r v w H Q) : EW X ρ O (.BinOp a op b pos) R := by
  obtain ⟨ta, pa, ka⟩ := (ha).out
  obtain ⟨tb, pb, kb⟩ := (hb).out
  refine EW.mk ⟨_, pe_op ho pa pb, fun σ F H Q ok rho k => ka σ F H _ ok rho fun it O' v F1 H1 e ok1 x1 i1 => ?_⟩
  obtain ⟨rfl, rfl⟩ := e
  refine kb σ F1 H1 _ ok1 (rho.mono x1.f) fun it O' w F2 H2 e ok2 x2 i2 => ?_
  obtain ⟨rfl, rfl⟩ := e
  exact h F2 H2 v w Q ok2 (i1.mono x2.f) i2 fun it O' u F' H' hr ok' x' iu => k it O' u F' H' hr ok' ((x1.trans x2).trans x') iu
/-- an operator on two ints -/
theorem ev_opI {op : Operator} {C : Int → Int → Prop} {g : Int → Int → V} {i j : Int} {z : Im} (ho : OpR X (binaryOp op) (rI C g)) (ha : Ev X ρ O a (iI i) O1) (hb : Ev X ρ O1 b (iI j) O2) (hc : C i j) (hz : ∀ F, ImOk X.K F z (g i j)) : Ev X ρ O (.BinOp a op b pos) z O2 :=
  ew_op ho ha hb fun F H v w Q ok iv iw k => by
    rw [imI iv, imI iw]
    exact ⟨i, j, rfl, rfl, hc, k _ _ _ F H ⟨rfl, rfl⟩ ok Ext.refl (hz F)⟩
theorem ev_opI0 {op : Operator} {g : Int → Int → V} {i j : Int} {z : Im} (ho : OpR X (binaryOp op) (rI0 g)) (ha : Ev X ρ O a (iI i) O1) (hb : Ev X ρ O1 b (iI j) O2) (hz : ∀ F, ImOk X.K F z (g i j)) : Ev X ρ O (.BinOp a op b pos) z O2 :=
  ew_op ho ha hb fun F H v w Q ok iv iw k => by
    rw [imI iv, imI iw]
    exact ⟨i, j, rfl, rfl, k _ _ _ F H ⟨rfl, rfl⟩ ok Ext.refl (hz F)⟩
theorem ev_add {i j : Int} (ha : Ev X ρ O a (iI i) O1) (hb : Ev X ρ O1 b (iI j) O2) : Ev X ρ O (.BinOp a .Add b pos) (iI (i + j)) O2 := ev_opI0 op_add ha hb fun _ => mI
theorem ev_sub {i j : Int} (ha : Ev X ρ O a (iI i) O1) (hb : Ev X ρ O1 b (iI j) O2) : Ev X ρ O (.BinOp a .Sub b pos) (iI (i - j)) O2 := ev_opI0 op_sub ha hb fun _ => mI
theorem ev_mul {i j : Int} (ha : Ev X ρ O a (iI i) O1) (hb : Ev X ρ O1 b (iI j) O2) (hc : CMulW i j) : Ev X ρ O (.BinOp a .Mult b pos) (iI (i * j)) O2 := ev_opI op_mulW ha hb hc fun _ => mI
theorem ev_mulS {i j : Int} (ha : Ev X ρ O a (iI i) O1) (hb : Ev X ρ O1 b (iI j) O2) (hc : CMul i j) : Ev X ρ O (.BinOp a .Mult b pos) (iI (i * j)) O2 := ev_opI op_mul ha hb hc fun _ => mI
theorem ev_fdiv {i j : Int} (ha : Ev X ρ O a (iI i) O1) (hb : Ev X ρ O1 b (iI j) O2) (hc : CDivW i j) : Ev X ρ O (.BinOp a .FloorDiv b pos) (iI (i / j)) O2 := ev_opI op_fdivW ha hb hc fun _ => mI
theorem ev_mod {i j : Int} (ha : Ev X ρ O a (iI i) O1) (hb : Ev X ρ O1 b (iI j) O2) (hc : 0 < j) : Ev X ρ O (.BinOp a .Mod b pos) (iI (i % j)) O2 := ev_opI op_mod ha hb hc fun _ => mI
/-- a ** n, by its size -/
def CPowW (i j : Int) : Prop := 0 ≤ j ∧ (Builtin.Int.intBits i : Int) * j ≤ 2 ^ 27
theorem op_powW : OpR X (binaryOp .Pow) (rI CPowW fun i j => .int (i ^ j.toNat)) := opI fun _ _ _ _ _ _ _ hc q => pow_int hc.1 hc.2 q
theorem ev_pow {i j : Int} (ha : Ev X ρ O a (iI i) O1) (hb : Ev X ρ O1 b (iI j) O2) (hc : CPowW i j) : Ev X ρ O (.BinOp a .Pow b pos) (iI (i ^ j.toNat)) O2 := ev_opI op_powW ha hb hc fun _ => mI
theorem ev_neg {i : Int} (ha : Ev X ρ O a (iI i) O1) : Ev X ρ O (.UnaryOp .USub a pos) (iI (-i)) O1 := by
  obtain ⟨ta, pa, ka⟩ := (ha).out
  refine EW.mk ⟨_, pe_un un_neg pa, fun σ F H Q ok rho k => ka σ F H _ ok rho fun it O' v F1 H1 e ok1 x1 i1 => ?_⟩
  obtain ⟨rfl, rfl⟩ := e
  rw [imI i1]
  exact ⟨i, rfl, k _ _ _ F1 H1 ⟨rfl, rfl⟩ ok1 x1 mI⟩
/-- texts -/
theorem ev_adds {x y : Str} (ha : Ev X ρ O a (iS x) O1) (hb : Ev X ρ O1 b (iS y) O2) (hc : x.length + y.length ≤ sizeLine) : Ev X ρ O (.BinOp a .Add b pos) (iS (x ++ y)) O2 :=
  ew_op op_add_str ha hb fun F H v w Q ok iv iw k => by
    rw [imS iv, imS iw]
    exact ⟨x, y, rfl, rfl, hc, k _ _ _ F H ⟨rfl, rfl⟩ ok Ext.refl mS⟩
/-- lists of data: a new list, laid -/
theorem ev_cat {ds es : List PyData} (ha : Ev X ρ O a (iL ds) O1) (hb : Ev X ρ O1 b (iL es) O2) (hc : ds.length + es.length ≤ sizeLine) : Ev X ρ O (.BinOp a .Add b pos) (iL (ds ++ es)) O2 :=
  ew_op op_cat ha hb fun F H v w Q ok iv iw k => by
    obtain ⟨l, xs, rfl, h1, q1⟩ := imL iv
    obtain ⟨m, ys, rfl, h2, q2⟩ := imL iw
    refine ⟨l, m, xs, ys, rfl, rfl, ok.same _ _ h1, ok.same _ _ h2, by rw [q1.len, q2.len]; exact hc, fun p hp => ?_⟩
    exact k _ _ _ _ _ ⟨rfl, rfl⟩ (ok.lay hp) (Ext.lay ok hp) (mL upd_same (DtAll.mono (same_lay ok hp) (q1.app q2)))
theorem rep_all {F : Hp} {xs : List V} {ds : List PyData} (h : DtAll F xs ds) : ∀ n, DtAll F (List.replicate n xs).flatten (List.replicate n ds).flatten
  | 0 => .nil
  | n + 1 => by rw [List.replicate_succ, List.replicate_succ, List.flatten_cons, List.flatten_cons]; exact h.app (rep_all h n)
theorem ev_rep {ds : List PyData} {j : Int} (ha : Ev X ρ O a (iL ds) O1) (hb : Ev X ρ O1 b (iI j) O2) (hj : 0 ≤ j ∧ j < 2 ^ 63) (hc : ds.length * j.toNat ≤ sizeLine) : Ev X ρ O (.BinOp a .Mult b pos) (iL (List.replicate j.toNat ds).flatten) O2 :=
  ew_op op_rep ha hb fun F H v w Q ok iv iw k => by
    obtain ⟨l, xs, rfl, h1, q1⟩ := imL iv
    rw [imI iw]
    refine ⟨l, j, xs, rfl, rfl, ok.same _ _ h1, by omega, hj.2, by rw [q1.len]; exact hc, fun p hp => ?_⟩
    exact k _ _ _ _ _ ⟨rfl, rfl⟩ (ok.lay hp) (Ext.lay ok hp) (mL upd_same (DtAll.mono (same_lay ok hp) (rep_all q1 _)))

/-! ### comparisons: both as values and as tests -/
def CW (X : Cx) (ρ : Ro) (O : Own) (op : CmpOp) (a b : Expr) (R : Bool → Own → Prop) : Prop :=
  ∃ t, PC X op a b t ∧ ∀ (σ : L2.St) (F H : Hp) (Q : VK), Ok X.K F H O → Rho X.K F ρ σ → (∀ c O' F' H', R c O' → Ok X.K F' H' O' → Ext F H O F' H' O' → Q (.bl c) H') → t σ H Q
abbrev Ec (X : Cx) (ρ : Ro) (O : Own) (op : CmpOp) (a b : Expr) (c : Bool) (O' : Own) : Prop := CW X ρ O op a b fun d o => d = c ∧ o = O'
theorem pc_of {op : CmpOp} {r : R2} {ta tb : TE} (ho : OpR X (compareOp op) r) (ha : PE X a ta) (hb : PE X b tb) : PC X op a b (tOp r ta tb) :=
  ⟨fun pins s σ H Q I h => bin ha hb I h fun v u s2 x y H2 I2 rx ry q => ho pins s2 σ H2 x y v u Q I2 rx ry q⟩
theorem cw_op {op : CmpOp} {r : R2} {x y : Im} {R : Bool → Own → Prop} (ho : OpR X (compareOp op) r) (ha : Ev X ρ O a x O1) (hb : Ev X ρ O1 b y O2)
    (h : ∀ F H v w (Q : VK), Ok X.K F H O2 → ImOk X.K F x v → ImOk X.K F y w → (∀ c O' F' H', R c O' → Ok X.K F' H' O' → Ext F H O2 F' H' O' → Q (.bl c) H') → r v w H Q) : CW X ρ O op a b R := by
  obtain ⟨ta, pa, ka⟩ := (ha).out
  obtain ⟨tb, pb, kb⟩ := (hb).out
  refine ⟨_, pc_of ho pa pb, fun σ F H Q ok rho k => ka σ F H _ ok rho fun it O' v F1 H1 e ok1 x1 i1 => ?_⟩
  obtain ⟨rfl, rfl⟩ := e
  refine kb σ F1 H1 _ ok1 (rho.mono x1.f) fun it O' w F2 H2 e ok2 x2 i2 => ?_
  obtain ⟨rfl, rfl⟩ := e
  exact h F2 H2 v w Q ok2 (i1.mono x2.f) i2 fun c O' F' H' hr ok' x' => k c O' F' H' hr ok' ((x1.trans x2).trans x')
theorem ev_cmp {op : CmpOp} {c : Bool} (h : Ec X ρ O op a b c O1) (h1 : behindInMarks op b = false := by first | exact nobehind _ (by decide) (by decide) | rfl) : Ev X ρ O (.Compare a [op] [b] pos) (iB c) O1 := by
  obtain ⟨t, p, k⟩ := h
  exact EW.mk ⟨t, pe_cmp p h1, fun σ F H Q ok rho z => k σ F H Q ok rho fun c' O' F' H' e ok' x' => by
    obtain ⟨rfl, rfl⟩ := e
    exact z _ _ _ _ _ ⟨rfl, rfl⟩ ok' x' mB⟩
theorem tw_cmp {op : CmpOp} {R : Bool → Own → Prop} (h : CW X ρ O op a b R) (h1 : behindInMarks op b = false := by first | exact nobehind _ (by decide) (by decide) | rfl) : TW X ρ O (.Compare a [op] [b] pos) R := by
  obtain ⟨t, p, k⟩ := h
  exact TW.mk ⟨_, pt_cmp p h1, fun σ F H Q ok rho z => k σ F H _ ok rho fun c' O' F' H' e ok' x' => ⟨c', rfl, z _ _ _ _ e ok' x'⟩⟩
theorem ec_opI {op : CmpOp} {g : Int → Int → Bool} {i j : Int} (ho : OpR X (compareOp op) (rI0 fun i j => .bl (g i j))) (ha : Ev X ρ O a (iI i) O1) (hb : Ev X ρ O1 b (iI j) O2) : Ec X ρ O op a b (g i j) O2 :=
  cw_op ho ha hb fun F H v w Q ok iv iw k => by
    rw [imI iv, imI iw]
    exact ⟨i, j, rfl, rfl, k _ _ F H ⟨rfl, rfl⟩ ok Ext.refl⟩
theorem ec_lt {i j : Int} (ha : Ev X ρ O a (iI i) O1) (hb : Ev X ρ O1 b (iI j) O2) : Ec X ρ O .Lt a b (decide (i < j)) O2 := ec_opI op_lt ha hb
theorem ec_le {i j : Int} (ha : Ev X ρ O a (iI i) O1) (hb : Ev X ρ O1 b (iI j) O2) : Ec X ρ O .LtE a b (decide (i ≤ j)) O2 := ec_opI op_le ha hb
theorem ec_gt {i j : Int} (ha : Ev X ρ O a (iI i) O1) (hb : Ev X ρ O1 b (iI j) O2) : Ec X ρ O .Gt a b (decide (j < i)) O2 := ec_opI op_gt ha hb
theorem ec_ge {i j : Int} (ha : Ev X ρ O a (iI i) O1) (hb : Ev X ρ O1 b (iI j) O2) : Ec X ρ O .GtE a b (decide (j ≤ i)) O2 := ec_opI op_ge ha hb
theorem ec_eqI {i j : Int} (ha : Ev X ρ O a (iI i) O1) (hb : Ev X ρ O1 b (iI j) O2) : Ec X ρ O .Eq a b (decide (i = j)) O2 :=
  cw_op op_eq ha hb fun F H v w Q ok iv iw k => by
    rw [imI iv, imI iw]
    refine ⟨rfl, ?_⟩
    have e : decide (V.int i = V.int j) = decide (i = j) := by rw [dec_int]; rfl
    rw [e]
    exact k _ _ F H ⟨rfl, rfl⟩ ok Ext.refl
theorem ec_neI {i j : Int} (ha : Ev X ρ O a (iI i) O1) (hb : Ev X ρ O1 b (iI j) O2) : Ec X ρ O .NotEq a b (!decide (i = j)) O2 :=
  cw_op op_ne ha hb fun F H v w Q ok iv iw k => by
    rw [imI iv, imI iw]
    refine ⟨rfl, ?_⟩
    have e : decide (V.int i = V.int j) = decide (i = j) := by rw [dec_int]; rfl
    rw [e]
    exact k _ _ F H ⟨rfl, rfl⟩ ok Ext.refl
theorem ec_eqS {i j : Str} (ha : Ev X ρ O a (iS i) O1) (hb : Ev X ρ O1 b (iS j) O2) : Ec X ρ O .Eq a b (decide (i = j)) O2 :=
  cw_op op_eq ha hb fun F H v w Q ok iv iw k => by
    rw [imS iv, imS iw]
    refine ⟨rfl, ?_⟩
    have e : decide (V.str i = V.str j) = decide (i = j) := by
      by_cases h : i = j
      · subst h; simp
      · rw [decide_eq_false h, decide_eq_false fun q => h (V.str.inj q)]
    rw [e]
    exact k _ _ F H ⟨rfl, rfl⟩ ok Ext.refl
theorem ec_neS {i j : Str} (ha : Ev X ρ O a (iS i) O1) (hb : Ev X ρ O1 b (iS j) O2) : Ec X ρ O .NotEq a b (!decide (i = j)) O2 :=
  cw_op op_ne ha hb fun F H v w Q ok iv iw k => by
    rw [imS iv, imS iw]
    refine ⟨rfl, ?_⟩
    have e : decide (V.str i = V.str j) = decide (i = j) := by
      by_cases h : i = j
      · subst h; simp
      · rw [decide_eq_false h, decide_eq_false fun q => h (V.str.inj q)]
    rw [e]
    exact k _ _ F H ⟨rfl, rfl⟩ ok Ext.refl
/-- == of any data -/
theorem ec_eq {d f : PyData} (hu : X.A.units + 64 < cLine) (ha : Ev X ρ O a (.d d) O1) (hb : Ev X ρ O1 b (.d f) O2) (s1 : SeqAt.shaped d = true) (s2 : SeqAt.shaped f = true) : Ec X ρ O .Eq a b (PyData.eqv d f) O2 :=
  cw_op (op_eqD hu) ha hb fun F H v w Q ok iv iw k =>
    ⟨d, f, Dt.dp (Dt.mono ok.same (of_imd iv)), Dt.dp (Dt.mono ok.same (of_imd iw)), s1, s2, k _ _ F H ⟨rfl, rfl⟩ ok Ext.refl⟩
theorem ec_ne {d f : PyData} (hu : X.A.units + 64 < cLine) (ha : Ev X ρ O a (.d d) O1) (hb : Ev X ρ O1 b (.d f) O2) (s1 : SeqAt.shaped d = true) (s2 : SeqAt.shaped f = true) : Ec X ρ O .NotEq a b (!PyData.eqv d f) O2 :=
  cw_op (op_neD hu) ha hb fun F H v w Q ok iv iw k =>
    ⟨d, f, Dt.dp (Dt.mono ok.same (of_imd iv)), Dt.dp (Dt.mono ok.same (of_imd iw)), s1, s2, k _ _ F H ⟨rfl, rfl⟩ ok Ext.refl⟩
/-- in a list of data -/
theorem ec_in {d : PyData} {ds : List PyData} (hu : X.A.units + 65 < cLine) (ha : Ev X ρ O a (.d d) O1) (hb : Ev X ρ O1 b (iL ds) O2) (s1 : SeqAt.shaped d = true) (s2 : SeqAt.shaped (.list ds) = true) : Ec X ρ O .In a b (ds.any fun z => PyData.eqv z d) O2 :=
  cw_op (op_inD hu) ha hb fun F H v w Q ok iv iw k =>
    ⟨d, ds, Dt.dp (Dt.mono ok.same (of_imd iv)), Dt.dp (Dt.mono ok.same (of_imd iw)), s1, s2, k _ _ F H ⟨rfl, rfl⟩ ok Ext.refl⟩
theorem ec_notin {d : PyData} {ds : List PyData} (hu : X.A.units + 65 < cLine) (ha : Ev X ρ O a (.d d) O1) (hb : Ev X ρ O1 b (iL ds) O2) (s1 : SeqAt.shaped d = true) (s2 : SeqAt.shaped (.list ds) = true) : Ec X ρ O .NotIn a b (!ds.any fun z => PyData.eqv z d) O2 :=
  cw_op (op_notInD hu) ha hb fun F H v w Q ok iv iw k =>
    ⟨d, ds, Dt.dp (Dt.mono ok.same (of_imd iv)), Dt.dp (Dt.mono ok.same (of_imd iw)), s1, s2, k _ _ F H ⟨rfl, rfl⟩ ok Ext.refl⟩
def isNone : Im → Bool
  | .d .none => true
  | .v .non => true
  | _ => false
theorem isNone_ok {K : PySem.W.Frag} {F : Hp} {it : Im} {v : V} (h : ImOk K F it v) : decide (v = .non) = isNone it := by
  cases it with
  | d x => cases of_imd h <;> rfl
  | v x =>
    have e : v = x := of_imv h
    subst e
    cases v <;> rfl
  | s ns =>
    obtain ⟨a, e, _⟩ := of_ims h
    subst e; rfl
  | t is =>
    obtain ⟨a, vs, e, _⟩ := of_imt h
    subst e; rfl
  | l is =>
    obtain ⟨a, vs, e, _⟩ := of_iml h
    subst e; rfl
theorem ec_isN {it : Im} {j : Nat} (ha : Ev X ρ O a it O1) : Ec X ρ O .Is a (.Constant .none j p) (isNone it) O1 := by
  obtain ⟨ta, pa, ka⟩ := (ha).out
  refine ⟨_, pc_isN pa, fun σ F H Q ok rho k => ka σ F H _ ok rho fun it O' v F1 H1 e ok1 x1 i1 => ?_⟩
  obtain ⟨rfl, rfl⟩ := e
  rw [isNone_ok i1]
  exact k _ _ F1 H1 ⟨rfl, rfl⟩ ok1 x1
theorem ec_notN {it : Im} {j : Nat} (ha : Ev X ρ O a it O1) : Ec X ρ O .IsNot a (.Constant .none j p) (!isNone it) O1 := by
  obtain ⟨ta, pa, ka⟩ := (ha).out
  refine ⟨_, pc_notN pa, fun σ F H Q ok rho k => ka σ F H _ ok rho fun it O' v F1 H1 e ok1 x1 i1 => ?_⟩
  obtain ⟨rfl, rfl⟩ := e
  rw [isNone_ok i1]
  exact k _ _ F1 H1 ⟨rfl, rfl⟩ ok1 x1
/-- a chain of two comparisons of ints -/
theorem et_chainI {op op' : CmpOp} {g g' : Int → Int → Bool} {c : Expr} {i j k : Int} (ho : OpR X (compareOp op) (rI0 fun i j => .bl (g i j))) (ho' : OpR X (compareOp op') (rI0 fun i j => .bl (g' i j))) (ha : Ev X ρ O a (iI i) O) (hb : Ev X ρ O b (iI j) O) (hc : Ev X ρ O c (iI k) O) (hm : lastMarks [op, op'] [b, c] = false := by with_unfolding_all rfl) :
    Et X ρ O (.Compare a [op, op'] [b, c] pos) (g i j && g' j k) O := by
  obtain ⟨ta, pa, ka⟩ := (ha).out
  obtain ⟨tb, pb, kb⟩ := (hb).out
  obtain ⟨tc, pc, kc⟩ := (hc).out
  refine TW.mk ⟨_, pt_chain ho ho' pa pb pc (hm := hm), fun σ F H Q ok rho z => ka σ F H _ ok rho fun it O' v F1 H1 e ok1 x1 i1 => ?_⟩
  obtain ⟨rfl, rfl⟩ := e
  refine kb σ F1 H1 _ ok1 (rho.mono x1.f) fun it O' w F2 H2 e ok2 x2 i2 => ?_
  obtain ⟨rfl, rfl⟩ := e
  rw [imI i1, imI i2]
  refine ⟨i, j, rfl, rfl, _, rfl, ?_⟩
  cases hg : g i j with
  | true =>
    refine iteT (kc σ F2 H2 _ ok2 (rho.mono (x1.trans x2).f) fun it O' u F3 H3 e ok3 x3 i3 => ?_)
    obtain ⟨rfl, rfl⟩ := e
    rw [imI i3]
    exact ⟨j, k, rfl, rfl, _, rfl, z _ _ F3 H3 ⟨by rw [hg]; rfl, rfl⟩ ok3 ((x1.trans x2).trans x3)⟩
  | false => exact iteF ⟨_, rfl, z _ _ F2 H2 ⟨by rw [hg]; rfl, rfl⟩ ok2 (x1.trans x2)⟩
theorem ev_chainI {op op' : CmpOp} {g g' : Int → Int → Bool} {c : Expr} {i j k : Int} (ho : OpR X (compareOp op) (rI0 fun i j => .bl (g i j))) (ho' : OpR X (compareOp op') (rI0 fun i j => .bl (g' i j))) (ha : Ev X ρ O a (iI i) O) (hb : Ev X ρ O b (iI j) O) (hc : Ev X ρ O c (iI k) O) (hm : lastMarks [op, op'] [b, c] = false := by with_unfolding_all rfl) :
    Ev X ρ O (.Compare a [op, op'] [b, c] pos) (iB (g i j && g' j k)) O := by
  obtain ⟨ta, pa, ka⟩ := (ha).out
  obtain ⟨tb, pb, kb⟩ := (hb).out
  obtain ⟨tc, pc, kc⟩ := (hc).out
  refine EW.mk ⟨_, pe_chain ho ho' pa pb pc (hm := hm), fun σ F H Q ok rho z => ka σ F H _ ok rho fun it O' v F1 H1 e ok1 x1 i1 => ?_⟩
  obtain ⟨rfl, rfl⟩ := e
  refine kb σ F1 H1 _ ok1 (rho.mono x1.f) fun it O' w F2 H2 e ok2 x2 i2 => ?_
  obtain ⟨rfl, rfl⟩ := e
  rw [imI i1, imI i2]
  refine ⟨i, j, rfl, rfl, _, rfl, ?_⟩
  cases hg : g i j with
  | true =>
    refine iteT (kc σ F2 H2 _ ok2 (rho.mono (x1.trans x2).f) fun it O' u F3 H3 e ok3 x3 i3 => ?_)
    obtain ⟨rfl, rfl⟩ := e
    rw [imI i3]
    exact ⟨j, k, rfl, rfl, z _ _ _ F3 H3 ⟨rfl, rfl⟩ ok3 ((x1.trans x2).trans x3) (by rw [hg]; exact mB)⟩
  | false => exact iteF (z _ _ _ F2 H2 ⟨rfl, rfl⟩ ok2 (x1.trans x2) (by rw [hg]; exact mB))

/-! ### tests -/
variable {rest : List Expr} {c d : Bool}
theorem et_val (h : Ev X ρ O e (iB c) O1) (he : ∀ whole, isTrue e X.env whole = (do let v ← whole; standAt e.pos; holding [v] (truthy v)) := by intro _; rfl) : Et X ρ O e c O1 := by
  obtain ⟨t, p, k⟩ := (h).out
  refine TW.mk ⟨_, pt_val p he, fun σ F H Q ok rho z => k σ F H _ ok rho fun it O' v F1 H1 e ok1 x1 i1 => ?_⟩
  obtain ⟨rfl, rfl⟩ := e
  rw [imB i1]
  exact ⟨c, rfl, z _ _ F1 H1 ⟨rfl, rfl⟩ ok1 x1⟩
theorem et_not (h : Et X ρ O a c O1) : Et X ρ O (.UnaryOp .Not a pos) (!c) O1 := by
  obtain ⟨t, p, k⟩ := (h).out
  refine TW.mk ⟨_, pt_not p, fun σ F H Q ok rho z => k σ F H _ ok rho fun c' O' F1 H1 e ok1 x1 => ?_⟩
  obtain ⟨rfl, rfl⟩ := e
  exact z _ _ F1 H1 ⟨rfl, rfl⟩ ok1 x1
abbrev Ew (X : Cx) (ρ : Ro) (O : Own) (e : Expr) (b : Bool) (O' : Own) : Prop := WW X ρ O e fun c o => c = b ∧ o = O'
theorem ew_and1 (h : Et X ρ O a c O1) : Ew X ρ O (.BoolOp .And [a] pos) c O1 := by
  obtain ⟨t, p, k⟩ := (h).out
  exact WW.mk ⟨_, pw_and1 p, k⟩
theorem ew_or1 (h : Et X ρ O a c O1) : Ew X ρ O (.BoolOp .Or [a] pos) c O1 := by
  obtain ⟨t, p, k⟩ := (h).out
  exact WW.mk ⟨_, pw_or1 p, k⟩
/-- a and ..: what follows the first leaves the cells as they are -/
theorem ew_and (h : Et X ρ O a c O1) (h2 : c = true → Ew X ρ O1 (.BoolOp .And (b :: rest) pos) d O1) : Ew X ρ O (.BoolOp .And (a :: b :: rest) pos) (c && d) O1 := by
  obtain ⟨t, p, k⟩ := (h).out
  cases c with
  | true =>
    obtain ⟨t2, p2, k2⟩ := (h2 rfl).out
    refine WW.mk ⟨_, pw_and p p2, fun σ F H Q ok rho z => k σ F H _ ok rho fun c' O' F1 H1 e ok1 x1 => ?_⟩
    obtain ⟨rfl, rfl⟩ := e
    exact iteT (k2 σ F1 H1 _ ok1 (rho.mono x1.f) fun c2 O2 F2 H2 e ok2 x2 => z _ _ F2 H2 e ok2 (x1.trans x2))
  | false =>
    have q : ∃ t2, PW X (.BoolOp .And (b :: rest) pos) t2 := ⟨fun _ _ _ => False, ⟨fun _ _ _ _ _ _ _ h => h.elim⟩⟩
    obtain ⟨t2, p2⟩ := q
    refine WW.mk ⟨_, pw_and p p2, fun σ F H Q ok rho z => k σ F H _ ok rho fun c' O' F1 H1 e ok1 x1 => ?_⟩
    obtain ⟨rfl, rfl⟩ := e
    exact iteF (z _ _ F1 H1 ⟨rfl, rfl⟩ ok1 x1)
theorem ew_or (h : Et X ρ O a c O1) (h2 : c = false → Ew X ρ O1 (.BoolOp .Or (b :: rest) pos) d O1) : Ew X ρ O (.BoolOp .Or (a :: b :: rest) pos) (c || d) O1 := by
  obtain ⟨t, p, k⟩ := (h).out
  cases c with
  | false =>
    obtain ⟨t2, p2, k2⟩ := (h2 rfl).out
    refine WW.mk ⟨_, pw_or p p2, fun σ F H Q ok rho z => k σ F H _ ok rho fun c' O' F1 H1 e ok1 x1 => ?_⟩
    obtain ⟨rfl, rfl⟩ := e
    exact iteF (k2 σ F1 H1 _ ok1 (rho.mono x1.f) fun c2 O2 F2 H2 e ok2 x2 => z _ _ F2 H2 e ok2 (x1.trans x2))
  | true =>
    have q : ∃ t2, PW X (.BoolOp .Or (b :: rest) pos) t2 := ⟨fun _ _ _ => False, ⟨fun _ _ _ _ _ _ _ h => h.elim⟩⟩
    obtain ⟨t2, p2⟩ := q
    refine WW.mk ⟨_, pw_or p p2, fun σ F H Q ok rho z => k σ F H _ ok rho fun c' O' F1 H1 e ok1 x1 => ?_⟩
    obtain ⟨rfl, rfl⟩ := e
    exact iteT (z _ _ F1 H1 ⟨rfl, rfl⟩ ok1 x1)
theorem et_w (h : Ew X ρ O e c O1) : Et X ρ O e c O1 := by
  obtain ⟨t, p, k⟩ := (h).out
  exact TW.mk ⟨_, PW.pt p, k⟩
/-- the same as values (bools) -/
theorem ev_one {op : BoolOp} (h : Ev X ρ O a (iB c) O1) : Ev X ρ O (.BoolOp op [a] pos) (iB c) O1 := by
  obtain ⟨t, p, k⟩ := (h).out
  exact EW.mk ⟨_, pe_one p, k⟩
theorem ev_and (h : Ev X ρ O a (iB c) O1) (h2 : c = true → Ev X ρ O1 (.BoolOp .And (b :: rest) pos) (iB d) O1) : Ev X ρ O (.BoolOp .And (a :: b :: rest) pos) (iB (c && d)) O1 := by
  obtain ⟨t, p, k⟩ := (h).out
  cases c with
  | true =>
    obtain ⟨t2, p2, k2⟩ := (h2 rfl).out
    refine EW.mk ⟨_, pe_and p p2, fun σ F H Q ok rho z => k σ F H _ ok rho fun c' O' v F1 H1 e ok1 x1 i1 => ?_⟩
    obtain ⟨rfl, rfl⟩ := e
    rw [imB i1]
    exact ⟨true, rfl, iteT (k2 σ F1 H1 _ ok1 (rho.mono x1.f) fun c2 O2 v F2 H2 e ok2 x2 i2 => z _ _ _ F2 H2 e ok2 (x1.trans x2) i2)⟩
  | false =>
    have q : ∃ t2, PE X (.BoolOp .And (b :: rest) pos) t2 := ⟨fun _ _ _ => False, ⟨fun _ _ _ _ _ _ h => h.elim⟩⟩
    obtain ⟨t2, p2⟩ := q
    refine EW.mk ⟨_, pe_and p p2, fun σ F H Q ok rho z => k σ F H _ ok rho fun c' O' v F1 H1 e ok1 x1 i1 => ?_⟩
    obtain ⟨rfl, rfl⟩ := e
    rw [imB i1]
    exact ⟨false, rfl, iteF (z _ _ _ F1 H1 ⟨rfl, rfl⟩ ok1 x1 mB)⟩
theorem ev_or (h : Ev X ρ O a (iB c) O1) (h2 : c = false → Ev X ρ O1 (.BoolOp .Or (b :: rest) pos) (iB d) O1) : Ev X ρ O (.BoolOp .Or (a :: b :: rest) pos) (iB (c || d)) O1 := by
  obtain ⟨t, p, k⟩ := (h).out
  cases c with
  | false =>
    obtain ⟨t2, p2, k2⟩ := (h2 rfl).out
    refine EW.mk ⟨_, pe_or p p2, fun σ F H Q ok rho z => k σ F H _ ok rho fun c' O' v F1 H1 e ok1 x1 i1 => ?_⟩
    obtain ⟨rfl, rfl⟩ := e
    rw [imB i1]
    exact ⟨false, rfl, iteF (k2 σ F1 H1 _ ok1 (rho.mono x1.f) fun c2 O2 v F2 H2 e ok2 x2 i2 => z _ _ _ F2 H2 e ok2 (x1.trans x2) i2)⟩
  | true =>
    have q : ∃ t2, PE X (.BoolOp .Or (b :: rest) pos) t2 := ⟨fun _ _ _ => False, ⟨fun _ _ _ _ _ _ h => h.elim⟩⟩
    obtain ⟨t2, p2⟩ := q
    refine EW.mk ⟨_, pe_or p p2, fun σ F H Q ok rho z => k σ F H _ ok rho fun c' O' v F1 H1 e ok1 x1 i1 => ?_⟩
    obtain ⟨rfl, rfl⟩ := e
    rw [imB i1]
    exact ⟨true, rfl, iteT (z _ _ _ F1 H1 ⟨rfl, rfl⟩ ok1 x1 mB)⟩
theorem ev_not (h : Ev X ρ O a (iB c) O1) : Ev X ρ O (.UnaryOp .Not a pos) (iB (!c)) O1 := by
  obtain ⟨t, p, k⟩ := (h).out
  refine EW.mk ⟨_, pe_not p, fun σ F H Q ok rho z => k σ F H _ ok rho fun c' O' v F1 H1 e ok1 x1 i1 => ?_⟩
  obtain ⟨rfl, rfl⟩ := e
  rw [imB i1]
  exact ⟨c, rfl, z _ _ _ F1 H1 ⟨rfl, rfl⟩ ok1 x1 mB⟩
/-- a if t else b -/
theorem ew_if {t : Expr} {R : EQ} (h : Et X ρ O t c O1) (h1 : c = true → EW X ρ O1 a R) (h2 : c = false → EW X ρ O1 b R) : EW X ρ O (.IfExp t a b pos) R := by
  obtain ⟨tt, p, k⟩ := (h).out
  cases c with
  | true =>
    obtain ⟨t2, p2, k2⟩ := (h1 rfl).out
    have q : ∃ t3, PE X b t3 := ⟨fun _ _ _ => False, ⟨fun _ _ _ _ _ _ h => h.elim⟩⟩
    obtain ⟨t3, p3⟩ := q
    refine EW.mk ⟨_, pe_ifExp p p2 p3, fun σ F H Q ok rho z => k σ F H _ ok rho fun c' O' F1 H1 e ok1 x1 => ?_⟩
    obtain ⟨rfl, rfl⟩ := e
    exact iteT (k2 σ F1 H1 _ ok1 (rho.mono x1.f) fun c2 O2 v F2 H2 e ok2 x2 i2 => z _ _ _ F2 H2 e ok2 (x1.trans x2) i2)
  | false =>
    obtain ⟨t2, p2, k2⟩ := (h2 rfl).out
    have q : ∃ t3, PE X a t3 := ⟨fun _ _ _ => False, ⟨fun _ _ _ _ _ _ h => h.elim⟩⟩
    obtain ⟨t3, p3⟩ := q
    refine EW.mk ⟨_, pe_ifExp p p3 p2, fun σ F H Q ok rho z => k σ F H _ ok rho fun c' O' F1 H1 e ok1 x1 => ?_⟩
    obtain ⟨rfl, rfl⟩ := e
    exact iteF (k2 σ F1 H1 _ ok1 (rho.mono x1.f) fun c2 O2 v F2 H2 e ok2 x2 i2 => z _ _ _ F2 H2 e ok2 (x1.trans x2) i2)
end
end AL

/-! AL2: arguments, displays, subscripts, slices, built-in calls. -/
namespace AL
open PySem PySem.Spec PyProof.Rows L2
section
variable {X : Cx} {ρ : Ro} {O O1 O2 O3 : Own} {pos p : Pos} {a b e : Expr} {es : List Expr}
/-! ### arguments -/
theorem ea_nil : Ea X ρ O [] [] O := AW.mk ⟨tNil, pa_nil, fun σ F H Q ok rho k => k _ _ _ F H ⟨rfl, rfl⟩ ok Ext.refl .nil⟩
theorem ea_cons {it : Im} {is : List Im} (ha : Ev X ρ O e it O1) (hr : Ea X ρ O1 es is O2) (hs : starEach (e :: es) X.env = (false, eval e X.env) :: starEach es X.env := by rfl) : Ea X ρ O (e :: es) (it :: is) O2 := by
  obtain ⟨ta, pa, ka⟩ := (ha).out
  obtain ⟨tb, pb, kb⟩ := (hr).out
  refine AW.mk ⟨_, pa_cons pa pb hs, fun σ F H Q ok rho k => ka σ F H _ ok rho fun it' O' v F1 H1 e ok1 x1 i1 => ?_⟩
  obtain ⟨rfl, rfl⟩ := e
  refine kb σ F1 H1 _ ok1 (rho.mono x1.f) fun is' O' vs F2 H2 e ok2 x2 i2 => ?_
  obtain ⟨rfl, rfl⟩ := e
  exact k _ _ _ F2 H2 ⟨rfl, rfl⟩ ok2 (x1.trans x2) (.cons (i1.mono x2.f) i2)
theorem ea_star {ds : List PyData} {is : List Im} (ha : Ev X ρ O e (iL ds) O1) (hr : Ea X ρ O1 es is O2) (hs : starEach (.Starred e p :: es) X.env = (true, eval e X.env) :: starEach es X.env := by rfl) : Ea X ρ O (.Starred e p :: es) (ds.map .d ++ is) O2 := by
  obtain ⟨ta, pa, ka⟩ := (ha).out
  obtain ⟨tb, pb, kb⟩ := (hr).out
  refine AW.mk ⟨_, StX.pa_star pa pb hs, fun σ F H Q ok rho k => ka σ F H _ ok rho fun it' O' v F1 H1 e ok1 x1 i1 => ?_⟩
  obtain ⟨rfl, rfl⟩ := e
  obtain ⟨l, xs, rfl, h1, q1⟩ := imL i1
  refine ⟨l, xs, rfl, .inr (SqL.of (ok1.same _ _ h1)), kb σ F1 H1 _ ok1 (rho.mono x1.f) fun is' O' vs F2 H2 e ok2 x2 i2 => ?_⟩
  obtain ⟨rfl, rfl⟩ := e
  exact k _ _ _ F2 H2 ⟨rfl, rfl⟩ ok2 (x1.trans x2) (PairedIm.app (PairedIm.mono x2.f (DtAll.im q1)) i2)
/-- data alone -/
abbrev Ed (X : Cx) (ρ : Ro) (O : Own) (es : List Expr) (ds : List PyData) (O' : Own) : Prop := Ea X ρ O es (ds.map .d) O'
theorem ed_nil : Ed X ρ O [] [] O := ea_nil
theorem ed_cons {d : PyData} {ds : List PyData} (ha : Ev X ρ O e (.d d) O1) (hr : Ed X ρ O1 es ds O2) (hs : starEach (e :: es) X.env = (false, eval e X.env) :: starEach es X.env := by rfl) : Ed X ρ O (e :: es) (d :: ds) O2 := ea_cons ha hr hs
theorem ed_star {ds fs : List PyData} (ha : Ev X ρ O e (iL ds) O1) (hr : Ed X ρ O1 es fs O2) (hs : starEach (.Starred e p :: es) X.env = (true, eval e X.env) :: starEach es X.env := by rfl) : Ed X ρ O (.Starred e p :: es) (ds ++ fs) O2 := by
  have h := ea_star (p := p) ha hr hs
  rw [← List.map_append] at h
  exact h
/-! ### displays -/
theorem ev_list {ds : List PyData} (h : Ed X ρ O es ds O1) (hz : ds.length ≤ sizeLine) : Ev X ρ O (.List es pos) (iL ds) O1 := by
  obtain ⟨t, p, k⟩ := (h).out
  refine EW.mk ⟨_, pe_lst p, fun σ F H Q ok rho z => k σ F H _ ok rho fun is O' vs F1 H1 e ok1 x1 i1 => ?_⟩
  obtain ⟨rfl, rfl⟩ := e
  have q := DtAll.of_im i1
  refine ⟨by rw [q.len]; exact hz, fun p hp => ?_⟩
  exact z _ _ _ _ _ ⟨rfl, rfl⟩ (ok1.lay hp) (x1.trans (Ext.lay ok1 hp)) (mL upd_same (DtAll.mono (same_lay ok1 hp) q))
theorem ev_tup {k0 : Nat} {ds : List PyData} (h : Ed X ρ O es ds O1) (hz : ds.length ≤ sizeLine) : Ev X ρ O (.Tuple es k0 pos) (iT ds) O1 := by
  obtain ⟨t, p, k⟩ := (h).out
  refine EW.mk ⟨_, pe_tup p, fun σ F H Q ok rho z => k σ F H _ ok rho fun is O' vs F1 H1 e ok1 x1 i1 => ?_⟩
  obtain ⟨rfl, rfl⟩ := e
  have q := DtAll.of_im i1
  refine ⟨by rw [q.len]; exact hz, fun p hp => ?_⟩
  exact z _ _ _ _ _ ⟨rfl, rfl⟩ (ok1.lay hp) (x1.trans (Ext.lay ok1 hp)) (mT upd_same (DtAll.mono (same_lay ok1 hp) q))
/-- a list that will change: owned -/
theorem ew_listP {is : List Im} {R : EQ} (h : Ea X ρ O es is O1) (hz : is.length ≤ sizeLine) (hR : ∀ p, O1 p = none → R (iP p) (setO O1 p (.lst is))) : EW X ρ O (.List es pos) R := by
  obtain ⟨t, p, k⟩ := (h).out
  refine EW.mk ⟨_, pe_lst p, fun σ F H Q ok rho z => k σ F H _ ok rho fun is' O' vs F1 H1 e ok1 x1 i1 => ?_⟩
  obtain ⟨rfl, rfl⟩ := e
  refine ⟨by rw [← i1.length]; exact hz, fun p hp => ?_⟩
  exact z _ _ _ _ _ (hR p (ok1.fresh hp)) (ok1.new hp (show CellHO X.K F1 (.lst is') (.lst vs) from i1)) (x1.trans (Ext.new hp)) imv
/-! ### subscripts -/
theorem atI_some {α : Type} {xs : List α} {i : Int} {x : α} (h : atI xs i = some x) : ∃ j, ixN xs.length i = some j ∧ xs[j]? = some x := by
  unfold atI at h
  exact Option.bind_eq_some_iff.mp h
theorem atI_of {α : Type} {xs : List α} {i : Int} {x : α} {j : Nat} (h1 : ixN xs.length i = some j) (h2 : xs[j]? = some x) : atI xs i = some x := by
  unfold atI
  rw [h1]; exact h2
theorem DtAll.at {F : Hp} {vs : List V} {ds : List PyData} {i : Int} {d : PyData} (h : DtAll F vs ds) (e : atI ds i = some d) : ∃ v, atI vs i = some v ∧ Dt F v d := by
  obtain ⟨j, h1, h2⟩ := atI_some e
  obtain ⟨v, h3, h4⟩ := h.get h2
  exact ⟨v, atI_of (by rw [h.len]; exact h1) h3, h4⟩
theorem PairedIm.at {K : PySem.W.Frag} {F : Hp} {vs : List V} {is : List Im} {i : Int} {d : Im} (h : Paired (ImOk K F) is vs) (e : atI is i = some d) : ∃ v, atI vs i = some v ∧ ImOk K F d v := by
  obtain ⟨j, h1, h2⟩ := atI_some e
  obtain ⟨v, h3, h4⟩ := PairedIm.get h h2
  exact ⟨v, atI_of (by rw [← h.length]; exact h1) h3, h4⟩
/-- by a subscript's rule -/
theorem ew_ix {r : R2} {x y : Im} {R : EQ} (hr : IxR X r) (ha : Ev X ρ O a x O1) (hb : Ev X ρ O1 b y O2) (hs : PlainIx b)
    (h : ∀ F H v w (Q : VK), Ok X.K F H O2 → ImOk X.K F x v → ImOk X.K F y w → (∀ it u, R it O2 → ImOk X.K F it u → Q u H) → r v w H Q) : EW X ρ O (.Subscript a b pos) R := by
  obtain ⟨ta, pa, ka⟩ := (ha).out
  obtain ⟨tb, pb, kb⟩ := (hb).out
  refine EW.mk ⟨_, pe_ix hr pa pb hs, fun σ F H Q ok rho k => ka σ F H _ ok rho fun it O' v F1 H1 e ok1 x1 i1 => ?_⟩
  obtain ⟨rfl, rfl⟩ := e
  refine kb σ F1 H1 _ ok1 (rho.mono x1.f) fun it O' w F2 H2 e ok2 x2 i2 => ?_
  obtain ⟨rfl, rfl⟩ := e
  exact h F2 H2 v w Q ok2 (i1.mono x2.f) i2 fun it u hr iu => k it _ u F2 H2 hr ok2 (x1.trans x2) iu
theorem ev_ix {ds : List PyData} {i : Int} {d : PyData} (ha : Ev X ρ O a (iL ds) O1) (hb : Ev X ρ O1 b (iI i) O2) (h : atI ds i = some d) (hs : PlainIx b := by exact fun _ _ => rfl) : Ev X ρ O (.Subscript a b pos) (.d d) O2 :=
  ew_ix ix_list ha hb hs fun F H v w Q ok iv iw k => by
    obtain ⟨l, xs, rfl, h1, q1⟩ := imL iv
    rw [imI iw]
    obtain ⟨u, h2, q2⟩ := q1.at h
    exact ⟨l, xs, i, u, rfl, rfl, SqL.of (ok.same _ _ h1), h2, k _ _ ⟨rfl, rfl⟩ (imd q2)⟩
theorem ev_ixT {ds : List PyData} {i : Int} {d : PyData} (ha : Ev X ρ O a (iT ds) O1) (hb : Ev X ρ O1 b (iI i) O2) (h : atI ds i = some d) (hs : PlainIx b := by exact fun _ _ => rfl) : Ev X ρ O (.Subscript a b pos) (.d d) O2 :=
  ew_ix ix_tup ha hb hs fun F H v w Q ok iv iw k => by
    obtain ⟨l, xs, rfl, h1, q1⟩ := imT iv
    rw [imI iw]
    obtain ⟨u, h2, q2⟩ := q1.at h
    exact ⟨l, xs, i, u, rfl, rfl, SqT.of (ok.same _ _ h1), h2, k _ _ ⟨rfl, rfl⟩ (imd q2)⟩
theorem ev_ixP {l : Addr} {is : List Im} {i : Int} {d : Im} (ha : Ev X ρ O a (iP l) O1) (hb : Ev X ρ O1 b (iI i) O2) (hl : O2 l = some (.lst is)) (h : atI is i = some d) (hs : PlainIx b := by exact fun _ _ => rfl) : Ev X ρ O (.Subscript a b pos) d O2 :=
  ew_ix ix_list ha hb hs fun F H v w Q ok iv iw k => by
    have e1 : v = .ref l := of_imv iv
    rw [e1, imI iw]
    obtain ⟨_, o, h1, q1⟩ := ok.cell _ _ hl
    cases o <;> try exact q1.elim
    rename_i xs
    obtain ⟨u, h2, q2⟩ := PairedIm.at q1 h
    exact ⟨l, xs, i, u, rfl, rfl, SqL.of h1, h2, k _ _ ⟨rfl, rfl⟩ q2⟩
theorem ev_ixS {ns : List Int} {i : Int} {n : Int} (ha : Ev X ρ O a (.s ns) O1) (hb : Ev X ρ O1 b (iI i) O2) (h : atI ns i = some n) (hs : PlainIx b := by exact fun _ _ => rfl) : Ev X ρ O (.Subscript a b pos) (iI n) O2 :=
  ew_ix ix_list ha hb hs fun F H v w Q ok iv iw k => by
    obtain ⟨l, rfl, h1⟩ := of_ims iv
    rw [imI iw]
    obtain ⟨j, h2, h3⟩ := atI_some h
    exact ⟨l, ns.map V.int, i, .int n, rfl, rfl, ok.same.seq h1, atI_of (by simpa using h2) (by rw [List.getElem?_map, h3]; rfl), k _ _ ⟨rfl, rfl⟩ mI⟩
/-! ### slices -/
def cutA {α : Type} (xs : List α) (lo hi : Option Int) : List α := (xs.drop (HT.sIx xs.length 0 lo)).take (HT.sIx xs.length xs.length hi - HT.sIx xs.length 0 lo)
theorem DtAll.cut {F : Hp} {vs : List V} {ds : List PyData} (h : DtAll F vs ds) (lo hi : Option Int) : DtAll F (cutV vs lo hi) (cutA ds lo hi) := by
  unfold cutV cutA
  rw [h.len]
  exact (h.drop _).take _
def Po (X : Cx) (ρ : Ro) (O : Own) (e : Option Expr) (i : Option Int) (O' : Own) : Prop :=
  ∃ t, PO X e t ∧ ∀ (σ : L2.St) (F H : Hp) (Q : Option Int → Hp → Prop), Ok X.K F H O → Rho X.K F ρ σ → (∀ F' H', Ok X.K F' H' O' → Ext F H O F' H' O' → Q i H') → t σ H Q
theorem po_n : Po X ρ O none none O := ⟨_, po_none, fun σ F H Q ok rho k => k F H ok Ext.refl⟩
theorem po_s {i : Int} (h : Ev X ρ O e (iI i) O1) : Po X ρ O (some e) (some i) O1 := by
  obtain ⟨t, p, k⟩ := (h).out
  refine ⟨_, po_some p, fun σ F H Q ok rho z => k σ F H _ ok rho fun it O' v F1 H1 e ok1 x1 i1 => ?_⟩
  obtain ⟨rfl, rfl⟩ := e
  exact ⟨i, imI i1, z F1 H1 ok1 x1⟩
theorem ew_sl {r : V → Option Int → Option Int → Hp → VK → Prop} {x : Im} {lo hi : Option Expr} {i j : Option Int} {p2 : Pos} {R : EQ} (hr : SlR X r) (ha : Ev X ρ O a x O1) (hl : Po X ρ O1 lo i O2) (hh : Po X ρ O2 hi j O3)
    (h : ∀ F H v (Q : VK), Ok X.K F H O3 → ImOk X.K F x v → (∀ it O' u F' H', R it O' → Ok X.K F' H' O' → Ext F H O3 F' H' O' → ImOk X.K F' it u → Q u H') → r v i j H Q) : EW X ρ O (.Subscript a (.Slice lo hi none p2) pos) R := by
  obtain ⟨ta, pa, ka⟩ := (ha).out
  obtain ⟨tb, pb, kb⟩ := hl
  obtain ⟨tc, pc, kc⟩ := hh
  refine EW.mk ⟨_, pe_slice hr pa pb pc, fun σ F H Q ok rho k => ka σ F H _ ok rho fun it O' v F1 H1 e ok1 x1 i1 => ?_⟩
  obtain ⟨rfl, rfl⟩ := e
  refine kb σ F1 H1 _ ok1 (rho.mono x1.f) fun F2 H2 ok2 x2 => kc σ F2 H2 _ ok2 (rho.mono (x1.trans x2).f) fun F3 H3 ok3 x3 => ?_
  exact h F3 H3 v Q ok3 (i1.mono (x2.trans x3).f) fun it O' u F' H' hr ok' x' iu => k it O' u F' H' hr ok' (((x1.trans x2).trans x3).trans x') iu
theorem ev_sl {ds : List PyData} {lo hi : Option Expr} {i j : Option Int} {p2 : Pos} (ha : Ev X ρ O a (iL ds) O1) (hl : Po X ρ O1 lo i O2) (hh : Po X ρ O2 hi j O3) : Ev X ρ O (.Subscript a (.Slice lo hi none p2) pos) (iL (cutA ds i j)) O3 :=
  ew_sl sl_list ha hl hh fun F H v Q ok iv k => by
    obtain ⟨l, xs, rfl, h1, q1⟩ := imL iv
    refine ⟨l, xs, rfl, SqL.of (ok.same _ _ h1), fun p hp => ?_⟩
    exact k _ _ _ _ _ ⟨rfl, rfl⟩ (ok.lay hp) (Ext.lay ok hp) (mL upd_same (DtAll.mono (same_lay ok hp) (q1.cut i j)))
theorem ev_slS {ns : List Int} {lo hi : Option Expr} {i j : Option Int} {p2 : Pos} (ha : Ev X ρ O a (.s ns) O1) (hl : Po X ρ O1 lo i O2) (hh : Po X ρ O2 hi j O3) : Ev X ρ O (.Subscript a (.Slice lo hi none p2) pos) (iL ((cutA ns i j).map .int)) O3 :=
  ew_sl sl_list ha hl hh fun F H v Q ok iv k => by
    obtain ⟨l, rfl, h1⟩ := of_ims iv
    refine ⟨l, _, rfl, ok.same.seq h1, fun p hp => ?_⟩
    have q : DtAll F (cutV (ns.map V.int) i j) ((cutA ns i j).map .int) := by
      have e : cutV (ns.map V.int) i j = (cutA ns i j).map V.int := by
        unfold cutV cutA
        rw [List.length_map, List.map_take, List.map_drop]
      rw [e]
      exact DtAll.of_ints _
    exact k _ _ _ _ _ ⟨rfl, rfl⟩ (ok.lay hp) (Ext.lay ok hp) (mL upd_same (DtAll.mono (same_lay ok hp) q))
theorem ev_slT {ds : List PyData} {lo hi : Option Expr} {i j : Option Int} {p2 : Pos} (ha : Ev X ρ O a (iT ds) O1) (hl : Po X ρ O1 lo i O2) (hh : Po X ρ O2 hi j O3) : Ev X ρ O (.Subscript a (.Slice lo hi none p2) pos) (iT (cutA ds i j)) O3 :=
  ew_sl sl_tupA ha hl hh fun F H v Q ok iv k => by
    obtain ⟨l, xs, rfl, h1, q1⟩ := imT iv
    refine ⟨l, xs, rfl, SqT.of (ok.same _ _ h1), fun ⟨e1, e2⟩ => ?_, fun _ p hp => ?_⟩
    · have e : cutA ds i j = ds := by
        unfold cutA
        rw [← q1.len, e1, e2, List.drop_zero, Nat.sub_zero, q1.len, List.take_length]
      rw [e] at k
      exact k _ _ _ _ _ ⟨rfl, rfl⟩ ok Ext.refl (mT h1 q1)
    · exact k _ _ _ _ _ ⟨rfl, rfl⟩ (ok.lay hp) (Ext.lay ok hp) (mT upd_same (DtAll.mono (same_lay ok hp) (q1.cut i j)))
theorem ev_rev {ds : List PyData} {k0 : Nat} {p1 p2 p3 : Pos} (ha : Ev X ρ O a (iL ds) O1) : Ev X ρ O (.Subscript a (.Slice none none (some (.UnaryOp .USub (.Constant (.int 1) k0 p1) p2)) p3) pos) (iL ds.reverse) O1 := by
  obtain ⟨t, p, k⟩ := (ha).out
  refine EW.mk ⟨_, pe_revL p, fun σ F H Q ok rho z => k σ F H _ ok rho fun it O' v F1 H1 e ok1 x1 i1 => ?_⟩
  obtain ⟨rfl, rfl⟩ := e
  obtain ⟨l, xs, rfl, h1, q1⟩ := imL i1
  refine ⟨l, xs, rfl, SqL.of (ok1.same _ _ h1), fun p hp => ?_⟩
  exact z _ _ _ _ _ ⟨rfl, rfl⟩ (ok1.lay hp) (x1.trans (Ext.lay ok1 hp)) (mL upd_same (DtAll.mono (same_lay ok1 hp) q1.rev))
/-! ### built-in calls -/
theorem ew_callB {x : Str} {id : String} {r : List V → Hp → VK → Prop} {is : List Im} {R : EQ} (hc : CallR X (.builtin id) r) (hm : X.mg x = none) (hv : bootBuiltins x = some (.builtin id)) (ha : Ea X ρ O (e :: es) is O1)
    (h : ∀ F H vs (Q : VK), Ok X.K F H O1 → Paired (ImOk X.K F) is vs → (∀ it O' u F' H', R it O' → Ok X.K F' H' O' → Ext F H O1 F' H' O' → ImOk X.K F' it u → Q u H') → r vs H Q)
    (hg : Gl X x := by rfl) (hn : x ≠ "__name__" := by decide) (hdb : (x == ("__debug__" : Str)) = false := by decide) (hs : starEach (e :: es) X.env = (false, eval e X.env) :: starEach es X.env := by rfl) (hplain : (backTo pos (starEach es X.env)).any (·.1) = false := by rfl) :
    EW X ρ O (.Call (.Name x p) (e :: es) [] pos) R := by
  obtain ⟨t, pa, k⟩ := (ha).out
  refine EW.mk ⟨_, pe_callB hc hg hm hv pa hn hdb hs hplain, fun σ F H Q ok rho z => k σ F H _ ok rho fun is' O' vs F1 H1 e ok1 x1 i1 => ?_⟩
  obtain ⟨rfl, rfl⟩ := e
  exact h F1 H1 vs Q ok1 i1 fun it O' u F' H' hr ok' x' iu => z it O' u F' H' hr ok' (x1.trans x') iu
theorem ew_callTy {x : Str} {T : String} {r : List V → Hp → VK → Prop} {is : List Im} {R : EQ} (hc : CallR X (.type T) r) (hm : X.mg x = none) (hv : bootBuiltins x = some (.type T)) (ha : Ea X ρ O (e :: es) is O1)
    (h : ∀ F H vs (Q : VK), Ok X.K F H O1 → Paired (ImOk X.K F) is vs → (∀ it O' u F' H', R it O' → Ok X.K F' H' O' → Ext F H O1 F' H' O' → ImOk X.K F' it u → Q u H') → r vs H Q)
    (hg : Gl X x := by rfl) (hn : x ≠ "__name__" := by decide) (hdb : (x == ("__debug__" : Str)) = false := by decide) (hs : starEach (e :: es) X.env = (false, eval e X.env) :: starEach es X.env := by rfl) (hplain : (backTo pos (starEach es X.env)).any (·.1) = false := by rfl) :
    EW X ρ O (.Call (.Name x p) (e :: es) [] pos) R := by
  obtain ⟨t, pa, k⟩ := (ha).out
  refine EW.mk ⟨_, pe_callTy hc hg hm hv pa hn hdb hs hplain, fun σ F H Q ok rho z => k σ F H _ ok rho fun is' O' vs F1 H1 e ok1 x1 i1 => ?_⟩
  obtain ⟨rfl, rfl⟩ := e
  exact h F1 H1 vs Q ok1 i1 fun it O' u F' H' hr ok' x' iu => z it O' u F' H' hr ok' (x1.trans x') iu
theorem pair1 {K : PySem.W.Frag} {F : Hp} {i : Im} {vs : List V} (h : Paired (ImOk K F) [i] vs) : ∃ v, vs = [v] ∧ ImOk K F i v := by
  cases h with
  | cons h t => cases t; exact ⟨_, rfl, h⟩
theorem pair2 {K : PySem.W.Frag} {F : Hp} {i j : Im} {vs : List V} (h : Paired (ImOk K F) [i, j] vs) : ∃ v w, vs = [v, w] ∧ ImOk K F i v ∧ ImOk K F j w := by
  cases h with
  | cons h t => cases t with
    | cons h2 t => cases t; exact ⟨_, _, rfl, h, h2⟩
theorem b_len : bootBuiltins "len" = some (.builtin "len") := by decide +kernel
theorem b_all : bootBuiltins "all" = some (.builtin "all") := by decide +kernel
theorem b_any : bootBuiltins "any" = some (.builtin "any") := by decide +kernel
theorem b_sum : bootBuiltins "sum" = some (.builtin "sum") := by decide +kernel
theorem b_min : bootBuiltins "min" = some (.builtin "min") := by decide +kernel
theorem b_max : bootBuiltins "max" = some (.builtin "max") := by decide +kernel
theorem b_abs : bootBuiltins "abs" = some (.builtin "abs") := by decide +kernel
theorem b_sorted : bootBuiltins "sorted" = some (.builtin "sorted") := by decide +kernel
theorem b_isinstance : bootBuiltins "isinstance" = some (.builtin "isinstance") := by decide +kernel
theorem b_int : bootBuiltins "int" = some (.type "int") := by decide +kernel
theorem b_str : bootBuiltins "str" = some (.type "str") := by decide +kernel
theorem b_list : bootBuiltins "list" = some (.type "list") := by decide +kernel
theorem b_tuple : bootBuiltins "tuple" = some (.type "tuple") := by decide +kernel
theorem ev_len {ds : List PyData} (hm : X.mg "len" = none) (ha : Ev X ρ O a (iL ds) O1) (hg : Gl X "len" := by rfl) (hs : starEach [a] X.env = (false, eval a X.env) :: starEach [] X.env := by rfl) : Ev X ρ O (.Call (.Name "len" p) [a] [] pos) (iI ds.length) O1 :=
  ew_callB call_len_seq hm b_len (ea_cons ha ea_nil hs) (fun F H vs Q ok iv k => by
    obtain ⟨v, rfl, i1⟩ := pair1 iv
    obtain ⟨l, xs, rfl, h1, q1⟩ := imL i1
    exact ⟨l, xs, rfl, .inl (SqL.of (ok.same _ _ h1)), by rw [q1.len]; exact k _ _ _ F H ⟨rfl, rfl⟩ ok Ext.refl mI⟩) hg (hs := hs)
theorem ev_lenT {ds : List PyData} (hm : X.mg "len" = none) (ha : Ev X ρ O a (iT ds) O1) (hg : Gl X "len" := by rfl) (hs : starEach [a] X.env = (false, eval a X.env) :: starEach [] X.env := by rfl) : Ev X ρ O (.Call (.Name "len" p) [a] [] pos) (iI ds.length) O1 :=
  ew_callB call_len_seq hm b_len (ea_cons ha ea_nil hs) (fun F H vs Q ok iv k => by
    obtain ⟨v, rfl, i1⟩ := pair1 iv
    obtain ⟨l, xs, rfl, h1, q1⟩ := imT i1
    exact ⟨l, xs, rfl, .inr (SqT.of (ok.same _ _ h1)), by rw [q1.len]; exact k _ _ _ F H ⟨rfl, rfl⟩ ok Ext.refl mI⟩) hg (hs := hs)
theorem ev_lenP {l : Addr} {is : List Im} (hm : X.mg "len" = none) (ha : Ev X ρ O a (iP l) O1) (hl : O1 l = some (.lst is)) (hg : Gl X "len" := by rfl) (hs : starEach [a] X.env = (false, eval a X.env) :: starEach [] X.env := by rfl) : Ev X ρ O (.Call (.Name "len" p) [a] [] pos) (iI is.length) O1 :=
  ew_callB call_len_seq hm b_len (ea_cons ha ea_nil hs) (fun F H vs Q ok iv k => by
    obtain ⟨v, rfl, i1⟩ := pair1 iv
    have e1 : v = .ref l := of_imv i1
    rw [e1]
    obtain ⟨_, o, h1, q1⟩ := ok.cell _ _ hl
    cases o <;> try exact q1.elim
    rename_i xs
    exact ⟨l, xs, rfl, .inl (SqL.of h1), by rw [← (show Paired (ImOk X.K F) is xs from q1).length]; exact k _ _ _ F H ⟨rfl, rfl⟩ ok Ext.refl mI⟩) hg (hs := hs)
theorem ev_lenS {ns : List Int} (hm : X.mg "len" = none) (ha : Ev X ρ O a (.s ns) O1) (hg : Gl X "len" := by rfl) (hs : starEach [a] X.env = (false, eval a X.env) :: starEach [] X.env := by rfl) : Ev X ρ O (.Call (.Name "len" p) [a] [] pos) (iI ns.length) O1 :=
  ew_callB call_len_seq hm b_len (ea_cons ha ea_nil hs) (fun F H vs Q ok iv k => by
    obtain ⟨v, rfl, i1⟩ := pair1 iv
    obtain ⟨l, rfl, h1⟩ := of_ims i1
    exact ⟨l, _, rfl, .inl (ok.same.seq h1), by rw [List.length_map]; exact k _ _ _ F H ⟨rfl, rfl⟩ ok Ext.refl mI⟩) hg (hs := hs)
theorem ev_all {bs : List Bool} (hc : X.calm = true) (hm : X.mg "all" = none) (ha : Ev X ρ O a (iL (bs.map .bool)) O1) (hg : Gl X "all" := by rfl) (hs : starEach [a] X.env = (false, eval a X.env) :: starEach [] X.env := by rfl) : Ev X ρ O (.Call (.Name "all" p) [a] [] pos) (iB (bs.all id)) O1 :=
  ew_callB (cr_all hc) hm b_all (ea_cons ha ea_nil hs) (fun F H vs Q ok iv k => by
    obtain ⟨v, rfl, i1⟩ := pair1 iv
    obtain ⟨l, xs, rfl, h1, q1⟩ := imL i1
    rw [q1.bls] at h1
    exact ⟨l, bs, rfl, SqL.of (ok.same _ _ h1), k _ _ _ F H ⟨rfl, rfl⟩ ok Ext.refl mB⟩) hg (hs := hs)
theorem ev_sum {ns : List Int} (hc : X.calm = true) (hm : X.mg "sum" = none) (ha : Ev X ρ O a (iL (ns.map .int)) O1) (hg : Gl X "sum" := by rfl) (hs : starEach [a] X.env = (false, eval a X.env) :: starEach [] X.env := by rfl) : Ev X ρ O (.Call (.Name "sum" p) [a] [] pos) (iI ns.sum) O1 :=
  ew_callB (cr_sum hc) hm b_sum (ea_cons ha ea_nil hs) (fun F H vs Q ok iv k => by
    obtain ⟨v, rfl, i1⟩ := pair1 iv
    obtain ⟨l, xs, rfl, h1, q1⟩ := imL i1
    rw [q1.ints] at h1
    exact ⟨l, ns, rfl, SqL.of (ok.same _ _ h1), k _ _ _ F H ⟨rfl, rfl⟩ ok Ext.refl mI⟩) hg (hs := hs)
/-- the least, the greatest of some ints -/
def minL : List Int → Int
  | [] => 0
  | x :: xs => xs.foldl min x
def maxL : List Int → Int
  | [] => 0
  | x :: xs => xs.foldl max x
theorem minL_fold : ∀ (xs : List Int) (x : Int), (xs.foldl min x ∈ x :: xs) ∧ ∀ y ∈ x :: xs, xs.foldl min x ≤ y
  | [], x => ⟨by simp, fun y hy => by simp at hy; subst hy; exact Int.le_refl _⟩
  | a :: xs, x => by
    obtain ⟨h1, h2⟩ := minL_fold xs (min x a)
    refine ⟨?_, fun y hy => ?_⟩
    · rcases List.mem_cons.mp h1 with h | h
      · show xs.foldl min (min x a) ∈ _
        rw [h]
        rcases Int.le_total x a with z | z
        · rw [Int.min_eq_left z]; simp
        · rw [Int.min_eq_right z]; simp
      · exact List.mem_cons_of_mem _ (List.mem_cons_of_mem _ h)
    · have h3 := h2 (min x a) (by simp)
      show xs.foldl min (min x a) ≤ y
      rcases List.mem_cons.mp hy with rfl | hy
      · omega
      · rcases List.mem_cons.mp hy with rfl | hy
        · omega
        · exact h2 y (List.mem_cons_of_mem _ hy)
theorem maxL_fold : ∀ (xs : List Int) (x : Int), (xs.foldl max x ∈ x :: xs) ∧ ∀ y ∈ x :: xs, y ≤ xs.foldl max x
  | [], x => ⟨by simp, fun y hy => by simp at hy; subst hy; exact Int.le_refl _⟩
  | a :: xs, x => by
    obtain ⟨h1, h2⟩ := maxL_fold xs (max x a)
    refine ⟨?_, fun y hy => ?_⟩
    · rcases List.mem_cons.mp h1 with h | h
      · show xs.foldl max (max x a) ∈ _
        rw [h]
        rcases Int.le_total x a with z | z
        · rw [Int.max_eq_right z]; simp
        · rw [Int.max_eq_left z]; simp
      · exact List.mem_cons_of_mem _ (List.mem_cons_of_mem _ h)
    · have h3 := h2 (max x a) (by simp)
      show y ≤ xs.foldl max (max x a)
      rcases List.mem_cons.mp hy with rfl | hy
      · omega
      · rcases List.mem_cons.mp hy with rfl | hy
        · omega
        · exact h2 y (List.mem_cons_of_mem _ hy)
theorem minL_mem {ns : List Int} (h : ns ≠ []) : minL ns ∈ ns := by
  cases ns with
  | nil => exact absurd rfl h
  | cons x xs => exact (minL_fold xs x).1
theorem minL_le {ns : List Int} {y : Int} (h : y ∈ ns) : minL ns ≤ y := by
  cases ns with
  | nil => cases h
  | cons x xs => exact (minL_fold xs x).2 y h
theorem maxL_mem {ns : List Int} (h : ns ≠ []) : maxL ns ∈ ns := by
  cases ns with
  | nil => exact absurd rfl h
  | cons x xs => exact (maxL_fold xs x).1
theorem le_maxL {ns : List Int} {y : Int} (h : y ∈ ns) : y ≤ maxL ns := by
  cases ns with
  | nil => cases h
  | cons x xs => exact (maxL_fold xs x).2 y h
theorem ev_min {ns : List Int} (hc : X.calm = true) (hm : X.mg "min" = none) (ha : Ev X ρ O a (iL (ns.map .int)) O1) (hne : ns ≠ []) (hg : Gl X "min" := by rfl) (hs : starEach [a] X.env = (false, eval a X.env) :: starEach [] X.env := by rfl) : Ev X ρ O (.Call (.Name "min" p) [a] [] pos) (iI (minL ns)) O1 :=
  ew_callB (cr_min hc) hm b_min (ea_cons ha ea_nil hs) (fun F H vs Q ok iv k => by
    obtain ⟨v, rfl, i1⟩ := pair1 iv
    obtain ⟨l, xs, rfl, h1, q1⟩ := imL i1
    rw [q1.ints] at h1
    refine ⟨l, ns, rfl, SqL.of (ok.same _ _ h1), by cases ns with | nil => exact absurd rfl hne | cons _ _ => simp, fun m h2 h3 => ?_⟩
    have e : m = minL ns := Int.le_antisymm (h3 _ (minL_mem hne)) (minL_le h2)
    rw [e]
    exact k _ _ _ F H ⟨rfl, rfl⟩ ok Ext.refl mI) hg (hs := hs)
theorem ev_max {ns : List Int} (hc : X.calm = true) (hm : X.mg "max" = none) (ha : Ev X ρ O a (iL (ns.map .int)) O1) (hne : ns ≠ []) (hg : Gl X "max" := by rfl) (hs : starEach [a] X.env = (false, eval a X.env) :: starEach [] X.env := by rfl) : Ev X ρ O (.Call (.Name "max" p) [a] [] pos) (iI (maxL ns)) O1 :=
  ew_callB (cr_max hc) hm b_max (ea_cons ha ea_nil hs) (fun F H vs Q ok iv k => by
    obtain ⟨v, rfl, i1⟩ := pair1 iv
    obtain ⟨l, xs, rfl, h1, q1⟩ := imL i1
    rw [q1.ints] at h1
    refine ⟨l, ns, rfl, SqL.of (ok.same _ _ h1), by cases ns with | nil => exact absurd rfl hne | cons _ _ => simp, fun m h2 h3 => ?_⟩
    have e : m = maxL ns := Int.le_antisymm (le_maxL h2) (h3 _ (maxL_mem hne))
    rw [e]
    exact k _ _ _ F H ⟨rfl, rfl⟩ ok Ext.refl mI) hg (hs := hs)
theorem ev_min2 {i j : Int} (hc : X.calm = true) (hm : X.mg "min" = none) (ha : Ev X ρ O a (iI i) O1) (hb : Ev X ρ O1 b (iI j) O2) (hg : Gl X "min" := by rfl) (hs : starEach [a, b] X.env = (false, eval a X.env) :: starEach [b] X.env := by rfl) (hs2 : starEach [b] X.env = (false, eval b X.env) :: starEach [] X.env := by rfl) (hpl : (backTo pos (starEach [b] X.env)).any (·.1) = false := by rfl) : Ev X ρ O (.Call (.Name "min" p) [a, b] [] pos) (iI (min i j)) O2 :=
  ew_callB (call_min2 hc) hm b_min (ea_cons ha (ea_cons hb ea_nil hs2) hs) (fun F H vs Q ok iv k => by
    obtain ⟨v, w, rfl, i1, i2⟩ := pair2 iv
    rw [imI i1, imI i2]
    refine ⟨i, j, rfl, ?_⟩
    have e : (if j < i then j else i) = min i j := by
      by_cases h : j < i
      · rw [if_pos h, Int.min_eq_right (by omega)]
      · rw [if_neg h, Int.min_eq_left (by omega)]
    rw [e]
    exact k _ _ _ F H ⟨rfl, rfl⟩ ok Ext.refl mI) hg (hs := hs) (hplain := hpl)
theorem ev_max2 {i j : Int} (hc : X.calm = true) (hm : X.mg "max" = none) (ha : Ev X ρ O a (iI i) O1) (hb : Ev X ρ O1 b (iI j) O2) (hg : Gl X "max" := by rfl) (hs : starEach [a, b] X.env = (false, eval a X.env) :: starEach [b] X.env := by rfl) (hs2 : starEach [b] X.env = (false, eval b X.env) :: starEach [] X.env := by rfl) (hpl : (backTo pos (starEach [b] X.env)).any (·.1) = false := by rfl) : Ev X ρ O (.Call (.Name "max" p) [a, b] [] pos) (iI (max i j)) O2 :=
  ew_callB (call_max2 hc) hm b_max (ea_cons ha (ea_cons hb ea_nil hs2) hs) (fun F H vs Q ok iv k => by
    obtain ⟨v, w, rfl, i1, i2⟩ := pair2 iv
    rw [imI i1, imI i2]
    refine ⟨i, j, rfl, ?_⟩
    have e : (if j > i then j else i) = max i j := by
      by_cases h : j > i
      · rw [if_pos h, Int.max_eq_right (by omega)]
      · rw [if_neg h, Int.max_eq_left (by omega)]
    rw [e]
    exact k _ _ _ F H ⟨rfl, rfl⟩ ok Ext.refl mI) hg (hs := hs) (hplain := hpl)
theorem ev_abs {i : Int} (hm : X.mg "abs" = none) (ha : Ev X ρ O a (iI i) O1) (hg : Gl X "abs" := by rfl) (hs : starEach [a] X.env = (false, eval a X.env) :: starEach [] X.env := by rfl) : Ev X ρ O (.Call (.Name "abs" p) [a] [] pos) (iI (i.natAbs : Int)) O1 :=
  ew_callB call_abs hm b_abs (ea_cons ha ea_nil hs) (fun F H vs Q ok iv k => by
    obtain ⟨v, rfl, i1⟩ := pair1 iv
    rw [imI i1]
    refine ⟨i, rfl, ?_⟩
    have e : (if i < 0 then -i else i) = (i.natAbs : Int) := by split <;> omega
    rw [e]
    exact k _ _ _ F H ⟨rfl, rfl⟩ ok Ext.refl mI) hg (hs := hs)
theorem ev_intI {i : Int} (hm : X.mg "int" = none) (ha : Ev X ρ O a (iI i) O1) (hg : Gl X "int" := by rfl) (hs : starEach [a] X.env = (false, eval a X.env) :: starEach [] X.env := by rfl) : Ev X ρ O (.Call (.Name "int" p) [a] [] pos) (iI i) O1 :=
  ew_callTy call_int1 hm b_int (ea_cons ha ea_nil hs) (fun F H vs Q ok iv k => by
    obtain ⟨v, rfl, i1⟩ := pair1 iv
    rw [imI i1]
    exact .inl ⟨i, rfl, k _ _ _ F H ⟨rfl, rfl⟩ ok Ext.refl mI⟩) hg (hs := hs)
theorem ev_intB {c : Bool} (hm : X.mg "int" = none) (ha : Ev X ρ O a (iB c) O1) (hg : Gl X "int" := by rfl) (hs : starEach [a] X.env = (false, eval a X.env) :: starEach [] X.env := by rfl) : Ev X ρ O (.Call (.Name "int" p) [a] [] pos) (iI (if c then 1 else 0)) O1 :=
  ew_callTy call_int1 hm b_int (ea_cons ha ea_nil hs) (fun F H vs Q ok iv k => by
    obtain ⟨v, rfl, i1⟩ := pair1 iv
    rw [imB i1]
    exact .inr ⟨c, rfl, k _ _ _ F H ⟨rfl, rfl⟩ ok Ext.refl mI⟩) hg (hs := hs)
theorem ev_strI {i : Int} (hm : X.mg "str" = none) (ha : Ev X ρ O a (iI i) O1) (hz : i.natAbs.log2 < 1920) (hg : Gl X "str" := by rfl) (hs : starEach [a] X.env = (false, eval a X.env) :: starEach [] X.env := by rfl) : Ev X ρ O (.Call (.Name "str" p) [a] [] pos) (iS (toString i)) O1 :=
  ew_callTy call_str_int hm b_str (ea_cons ha ea_nil hs) (fun F H vs Q ok iv k => by
    obtain ⟨v, rfl, i1⟩ := pair1 iv
    rw [imI i1]
    exact ⟨i, rfl, hz, k _ _ _ F H ⟨rfl, rfl⟩ ok Ext.refl mS⟩) hg (hs := hs)
/-- list(xs): a copy, laid -/
theorem ev_listL {ds : List PyData} (hm : X.mg "list" = none) (ha : Ev X ρ O a (iL ds) O1) (hg : Gl X "list" := by rfl) (hs : starEach [a] X.env = (false, eval a X.env) :: starEach [] X.env := by rfl) : Ev X ρ O (.Call (.Name "list" p) [a] [] pos) (iL ds) O1 :=
  ew_callTy call_list_of hm b_list (ea_cons ha ea_nil hs) (fun F H vs Q ok iv k => by
    obtain ⟨v, rfl, i1⟩ := pair1 iv
    obtain ⟨l, xs, rfl, h1, q1⟩ := imL i1
    refine ⟨l, xs, rfl, .inl (SqL.of (ok.same _ _ h1)), fun p hp => ?_⟩
    exact k _ _ _ _ _ ⟨rfl, rfl⟩ (ok.lay hp) (Ext.lay ok hp) (mL upd_same (DtAll.mono (same_lay ok hp) q1))) hg (hs := hs)
theorem ev_listT {ds : List PyData} (hm : X.mg "list" = none) (ha : Ev X ρ O a (iT ds) O1) (hg : Gl X "list" := by rfl) (hs : starEach [a] X.env = (false, eval a X.env) :: starEach [] X.env := by rfl) : Ev X ρ O (.Call (.Name "list" p) [a] [] pos) (iL ds) O1 :=
  ew_callTy call_list_of hm b_list (ea_cons ha ea_nil hs) (fun F H vs Q ok iv k => by
    obtain ⟨v, rfl, i1⟩ := pair1 iv
    obtain ⟨l, xs, rfl, h1, q1⟩ := imT i1
    refine ⟨l, xs, rfl, .inr (SqT.of (ok.same _ _ h1)), fun p hp => ?_⟩
    exact k _ _ _ _ _ ⟨rfl, rfl⟩ (ok.lay hp) (Ext.lay ok hp) (mL upd_same (DtAll.mono (same_lay ok hp) q1))) hg (hs := hs)
/-- list(xs): a copy that will change: owned -/
theorem ew_listLP {ds : List PyData} {R : EQ} (hm : X.mg "list" = none) (ha : Ev X ρ O a (iL ds) O1) (hR : ∀ p, O1 p = none → R (iP p) (setO O1 p (.lst (ds.map .d)))) (hg : Gl X "list" := by rfl) (hs : starEach [a] X.env = (false, eval a X.env) :: starEach [] X.env := by rfl) : EW X ρ O (.Call (.Name "list" p) [a] [] pos) R :=
  ew_callTy call_list_of hm b_list (ea_cons ha ea_nil hs) (fun F H vs Q ok iv k => by
    obtain ⟨v, rfl, i1⟩ := pair1 iv
    obtain ⟨l, xs, rfl, h1, q1⟩ := imL i1
    refine ⟨l, xs, rfl, .inl (SqL.of (ok.same _ _ h1)), fun p hp => ?_⟩
    exact k _ _ _ _ _ (hR p (ok.fresh hp)) (ok.new hp (show CellHO X.K F (.lst (ds.map .d)) (.lst xs) from DtAll.im q1)) (Ext.new hp) imv) hg (hs := hs)
/-- sorted(xs) of ints -/
def insI (x : Int) : List Int → List Int
  | [] => [x]
  | y :: ys => if x ≤ y then x :: y :: ys else y :: insI x ys
def sortI : List Int → List Int
  | [] => []
  | x :: xs => insI x (sortI xs)
theorem insI_perm (x : Int) : ∀ ys : List Int, (insI x ys).Perm (x :: ys)
  | [] => .refl _
  | y :: ys => by
    unfold insI
    split
    · exact .refl _
    · exact ((insI_perm x ys).cons y).trans (.swap _ _ _)
theorem sortI_perm : ∀ xs : List Int, (sortI xs).Perm xs
  | [] => .refl _
  | x :: xs => (insI_perm x _).trans ((sortI_perm xs).cons x)
theorem insI_sorted (x : Int) : ∀ ys : List Int, ys.Pairwise (· ≤ ·) → (insI x ys).Pairwise (· ≤ ·)
  | [], _ => List.pairwise_singleton _ _
  | y :: ys, h => by
    obtain ⟨h1, h2⟩ := List.pairwise_cons.mp h
    unfold insI
    split
    · rename_i hxy
      refine List.pairwise_cons.mpr ⟨fun z hz => ?_, h⟩
      rcases List.mem_cons.mp hz with rfl | hz
      · exact hxy
      · exact Int.le_trans hxy (h1 z hz)
    · rename_i hxy
      refine List.pairwise_cons.mpr ⟨fun z hz => ?_, insI_sorted x ys h2⟩
      rcases List.mem_cons.mp ((insI_perm x ys).mem_iff.mp hz) with rfl | hz
      · omega
      · exact h1 z hz
theorem sortI_sorted : ∀ xs : List Int, (sortI xs).Pairwise (· ≤ ·)
  | [] => .nil
  | x :: xs => insI_sorted x _ (sortI_sorted xs)
theorem sorted_uniq {xs ys : List Int} (p : xs.Perm ys) (h1 : xs.Pairwise (· ≤ ·)) (h2 : ys.Pairwise (· ≤ ·)) : xs = ys :=
  p.eq_of_pairwise (fun a b _ _ => Int.le_antisymm) h1 h2
theorem ev_sortI {ns : List Int} (hm : X.mg "sorted" = none) (ha : Ev X ρ O a (iL (ns.map .int)) O1) (hg : Gl X "sorted" := by rfl) (hs : starEach [a] X.env = (false, eval a X.env) :: starEach [] X.env := by rfl) : Ev X ρ O (.Call (.Name "sorted" p) [a] [] pos) (iL ((sortI ns).map .int)) O1 :=
  ew_callB cr_sortedI hm b_sorted (ea_cons ha ea_nil hs) (fun F H vs Q ok iv k => by
    obtain ⟨v, rfl, i1⟩ := pair1 iv
    obtain ⟨l, xs, rfl, h1, q1⟩ := imL i1
    rw [q1.ints] at h1
    refine ⟨l, ns, rfl, SqL.of (ok.same _ _ h1), fun ns' p pm pw hp => ?_⟩
    have e : ns' = sortI ns := sorted_uniq (pm.trans (sortI_perm ns).symm) pw (sortI_sorted ns)
    subst e
    exact k _ _ _ _ _ ⟨rfl, rfl⟩ (ok.lay hp) (Ext.lay ok hp) (mL upd_same (DtAll.of_ints _))) hg (hs := hs)
/-- len(set(xs)) of unlike ints -/
theorem ev_lenSet {ns : List Int} {p2 q : Pos} (hc : X.calm = true) (hm : X.mg "len" = none) (hm2 : X.mg "set" = none) (ha : Ev X ρ O a (iL (ns.map .int)) O1) (hz : ns.length ≤ 4000) (hn : ns.Nodup) (hg : Gl X "len" := by rfl) (hg2 : Gl X "set" := by rfl)
    (hs : starEach [a] X.env = (false, eval a X.env) :: starEach [] X.env := by rfl) : Ev X ρ O (.Call (.Name "len" p) [.Call (.Name "set" p2) [a] [] q] [] pos) (iI ns.length) O1 := by
  obtain ⟨t, pa, k⟩ := (ha).out
  refine EW.mk ⟨_, RZ.pe_lenSetI hg hm hg2 hm2 pa hc hs, fun σ F H Q ok rho z => k σ F H _ ok rho fun it O' v F1 H1 e ok1 x1 i1 => ?_⟩
  obtain ⟨rfl, rfl⟩ := e
  obtain ⟨l, xs, rfl, h1, q1⟩ := imL i1
  rw [q1.ints] at h1
  exact ⟨l, ns, rfl, SqL.of (ok1.same _ _ h1), hn, hz, z _ _ _ F1 H1 ⟨rfl, rfl⟩ ok1 x1 mI⟩
/-! ### isinstance -/
def tyD : PyData → Value
  | .none => .type "NoneType"
  | .bool _ => .type "bool"
  | .int _ => .type "int"
  | .str _ => .type "str"
  | .list _ => .type "list"
  | .tuple _ => .type "tuple"
  | .dict _ => .type "dict"
theorem tyD_ok {K : PySem.W.Frag} {F : Hp} {v : V} {d : PyData} (h : Dt F v d) : TyX K F v (tyD d) := by
  cases h with
  | non => exact .base .non
  | bl b => exact .base (.bl b)
  | int i => exact .base (.int i)
  | str x => exact .base (.str x)
  | lst h _ => exact .base (.lst h)
  | tup h _ => exact .base (.tup h)
theorem ev_isi {d : PyData} {n : String} {c : Bool} (hm : X.mg "isinstance" = none) (ha : Ev X ρ O a (.d d) O1) (hb : Ev X ρ O1 b (.v (.ty n)) O2) (hk : PySem.W.kitOne X.K (tyD d) (.type n) = some c) (hg : Gl X "isinstance" := by rfl)
    (hs : starEach [a, b] X.env = (false, eval a X.env) :: starEach [b] X.env := by rfl) (hs2 : starEach [b] X.env = (false, eval b X.env) :: starEach [] X.env := by rfl) (hpl : (backTo pos (starEach [b] X.env)).any (·.1) = false := by rfl) : Ev X ρ O (.Call (.Name "isinstance" p) [a, b] [] pos) (iB c) O2 :=
  ew_callB call_isi hm b_isinstance (ea_cons ha (ea_cons hb ea_nil hs2) hs) (fun F H vs Q ok iv k => by
    obtain ⟨v, w, rfl, i1, i2⟩ := pair2 iv
    have e2 : w = .ty n := of_imv i2
    subst e2
    exact ⟨v, .ty n, _, _, c, rfl, .ty n, tyD_ok (Dt.mono ok.same (of_imd i1)), hk, k _ _ _ F H ⟨rfl, rfl⟩ ok Ext.refl mB⟩) hg (hs := hs) (hplain := hpl)
end
end AL

/-! AL3: what is walked; comprehensions; targets; statements; loops. -/
namespace AL
open PySem PySem.Spec PyProof.Rows L2
/-! ### what a loop walks -/
/-- iter gives the items xs, one by one; while it is walked, need must hold of the owned cells -/
def Itr (X : Cx) (ρ : Ro) (O : Own) (tg iter : Expr) (xs : List Im) (O1 : Own) (need : Own → Prop) : Prop :=
  ∃ wi, PI X tg iter wi ∧ ∀ (σ : L2.St) (F H : Hp) (R : L2.It → Hp → Prop), Ok X.K F H O → Rho X.K F ρ σ →
    (∀ (J : L2.It) (G : Hp → Prop) (Y : Nat → Hp → V → Hp → Prop) (F1 H1 : Hp), Ok X.K F1 H1 O1 → Ext F H O F1 H1 O1 → Walk J xs.length G Y →
      (∀ F2 H2 O2, Same F1 F2 → Ok X.K F2 H2 O2 → need O2 → G H2) →
      (∀ i it F2 H2 O2 x H3, xs[i]? = some it → Same F1 F2 → Ok X.K F2 H2 O2 → need O2 → Y i H2 x H3 → ∃ F3, Ok X.K F3 H3 O2 ∧ Ext F2 H2 O2 F3 H3 O2 ∧ ImOk X.K F3 it x) → R J H1) → wi σ H R
abbrev nd0 : Own → Prop := fun _ => True
section
variable {X : Cx} {ρ : Ro} {O O1 O2 O3 : Own} {pos p : Pos} {tg a b e : Expr} {es : List Expr}
theorem walk_n {J : L2.It} {n m : Nat} {G : Hp → Prop} {Y : Nat → Hp → V → Hp → Prop} (w : Walk J n G Y) (h : m = n) : Walk J m G Y := by rw [h]; exact w
theorem itr_list {ds : List PyData} (ha : Ev X ρ O a (iL ds) O1) : Itr X ρ O tg a (ds.map .d) O1 nd0 := by
  obtain ⟨t, p, k⟩ := ha.out
  refine ⟨_, pi_list p, fun σ F H R ok rho z => k σ F H _ ok rho fun it O' v F1 H1 e ok1 x1 i1 => ?_⟩
  obtain ⟨rfl, rfl⟩ := e
  obtain ⟨l, xs, rfl, h1, q1⟩ := imL i1
  refine ⟨l, rfl, ⟨xs, SqL.of (ok1.same _ _ h1)⟩, z _ _ _ F1 H1 ok1 x1 (walk_n (walk_list (xs := xs)) (by simp [q1.len])) (fun F2 H2 O2 s ok2 _ => SqL.of (ok2.same _ _ (s _ _ h1))) ?_⟩
  rintro i it F2 H2 O2 x H3 hi s ok2 _ ⟨rfl, y⟩
  obtain ⟨w, h2, h3⟩ := PairedIm.get (K := X.K) (DtAll.im q1) hi
  rw [h2] at y; cases y
  exact ⟨F2, ok2, Ext.refl, h3.mono s⟩
theorem itr_tup {ds : List PyData} (ha : Ev X ρ O a (iT ds) O1) : Itr X ρ O tg a (ds.map .d) O1 nd0 := by
  obtain ⟨t, p, k⟩ := ha.out
  refine ⟨_, pi_tup p, fun σ F H R ok rho z => k σ F H _ ok rho fun it O' v F1 H1 e ok1 x1 i1 => ?_⟩
  obtain ⟨rfl, rfl⟩ := e
  obtain ⟨l, xs, rfl, h1, q1⟩ := imT i1
  refine ⟨l, rfl, ⟨xs, SqT.of (ok1.same _ _ h1)⟩, z _ _ _ F1 H1 ok1 x1 (walk_n (walk_tup (xs := xs)) (by simp [q1.len])) (fun F2 H2 O2 s ok2 _ => SqT.of (ok2.same _ _ (s _ _ h1))) ?_⟩
  rintro i it F2 H2 O2 x H3 hi s ok2 _ ⟨rfl, y⟩
  obtain ⟨w, h2, h3⟩ := PairedIm.get (K := X.K) (DtAll.im q1) hi
  rw [h2] at y; cases y
  exact ⟨F2, ok2, Ext.refl, h3.mono s⟩
/-- a list of items that was laid -/
theorem itr_l {is : List Im} (ha : Ev X ρ O a (.l is) O1) : Itr X ρ O tg a is O1 nd0 := by
  obtain ⟨t, p, k⟩ := ha.out
  refine ⟨_, pi_list p, fun σ F H R ok rho z => k σ F H _ ok rho fun it O' v F1 H1 e ok1 x1 i1 => ?_⟩
  obtain ⟨rfl, rfl⟩ := e
  obtain ⟨l, xs, rfl, h1, q1⟩ := of_iml i1
  refine ⟨l, rfl, ⟨xs, SqL.of (ok1.same _ _ h1)⟩, z _ _ _ F1 H1 ok1 x1 (walk_n (walk_list (xs := xs)) q1.length) (fun F2 H2 O2 s ok2 _ => SqL.of (ok2.same _ _ (s _ _ h1))) ?_⟩
  rintro i it F2 H2 O2 x H3 hi s ok2 _ ⟨rfl, y⟩
  obtain ⟨w, h2, h3⟩ := PairedIm.get q1 hi
  rw [h2] at y; cases y
  exact ⟨F2, ok2, Ext.refl, h3.mono s⟩
/-- an owned list, which must stay as it is -/
theorem itr_listP {l : Addr} {is : List Im} (ha : Ev X ρ O a (iP l) O1) (hl : O1 l = some (.lst is)) : Itr X ρ O tg a is O1 (fun O2 => O2 l = some (.lst is)) := by
  obtain ⟨t, p, k⟩ := ha.out
  have cell : ∀ {F2 H2 : Hp} {O2 : Own}, Ok X.K F2 H2 O2 → O2 l = some (.lst is) → ∃ xs, H2 l = some (.lst xs) ∧ Paired (ImOk X.K F2) is xs := fun {F2 H2 O2} ok2 n => by
    obtain ⟨_, o, h1, q1⟩ := ok2.cell _ _ n
    cases o <;> try exact q1.elim
    exact ⟨_, h1, q1⟩
  refine ⟨_, pi_list p, fun σ F H R ok rho z => k σ F H _ ok rho fun it O' v F1 H1 e ok1 x1 i1 => ?_⟩
  obtain ⟨rfl, rfl⟩ := e
  have e1 : v = .ref l := of_imv i1
  subst e1
  obtain ⟨xs, h1, q1⟩ := cell ok1 hl
  refine ⟨l, rfl, ⟨xs, SqL.of h1⟩, z _ (fun H => ∃ ys : List V, ys.length = is.length ∧ SqL X.K H l ys) (fun i H x H' => H' = H ∧ ∀ ys : List V, SqL X.K H l ys → ys[i]? = some x) F1 H1 ok1 x1 ?_ (fun F2 H2 O2 s ok2 n => ?_) ?_⟩
  · exact ⟨fun i H hi ⟨ys, q, h⟩ => ⟨ys, ys[i], h, by simp [show i < ys.length by omega]⟩, fun H ⟨ys, q, h⟩ => ⟨ys, h, by omega⟩, fun i H x H' _ _ y => y⟩
  · obtain ⟨ys, h2, q2⟩ := cell ok2 n
    exact ⟨ys, q2.length.symm, SqL.of h2⟩
  · rintro i it F2 H2 O2 x H3 hi s ok2 n ⟨rfl, y⟩
    obtain ⟨ys, h2, q2⟩ := cell ok2 n
    obtain ⟨w, h3, h4⟩ := PairedIm.get q2 hi
    have := y ys (SqL.of h2)
    rw [h3] at this; cases this
    exact ⟨F2, ok2, Ext.refl, h4⟩
theorem itr_script {ns : List Int} (ha : Ev X ρ O a (.s ns) O1) : Itr X ρ O tg a (ns.map iI) O1 nd0 := by
  obtain ⟨t, p, k⟩ := ha.out
  refine ⟨_, pi_list p, fun σ F H R ok rho z => k σ F H _ ok rho fun it O' v F1 H1 e ok1 x1 i1 => ?_⟩
  obtain ⟨rfl, rfl⟩ := e
  obtain ⟨l, rfl, h1⟩ := of_ims i1
  refine ⟨l, rfl, ⟨_, ok1.same.seq h1⟩, z _ _ _ F1 H1 ok1 x1 (walk_n (walk_list (xs := ns.map V.int)) (by simp)) (fun F2 H2 O2 s ok2 _ => ok2.same.seq (s.seq h1)) ?_⟩
  rintro i it F2 H2 O2 x H3 hi s ok2 _ ⟨rfl, y⟩
  rw [List.getElem?_map] at hi y
  cases h : ns[i]? with
  | none => rw [h] at hi; cases hi
  | some n =>
    rw [h] at hi y
    cases hi; cases y
    exact ⟨F2, ok2, Ext.refl, mI⟩
/-- lo, lo + 1, .. below hi -/
def rangeI (lo hi : Int) : List Int := (List.range (hi - lo).toNat).map fun i : Nat => lo + i
theorem rangeI_len (lo hi : Int) : (rangeI lo hi).length = (hi - lo).toNat := by unfold rangeI; simp
theorem mem_rangeI {lo hi x : Int} : x ∈ rangeI lo hi ↔ lo ≤ x ∧ x < hi := by
  unfold rangeI
  constructor
  · intro h
    obtain ⟨i, h1, h2⟩ := List.mem_map.mp h
    have := List.mem_range.mp h1
    omega
  · intro h
    exact List.mem_map.mpr ⟨(x - lo).toNat, List.mem_range.mpr (by omega), by omega⟩
theorem rangeI_get {lo hi : Int} {i : Nat} (h : i < (hi - lo).toNat) : (rangeI lo hi)[i]? = some (lo + i) := by
  unfold rangeI
  rw [List.getElem?_map, List.getElem?_range h]; rfl
theorem itr_rg {wi : TI} {lo hi : Int} (h : ∀ (σ : L2.St) (F H : Hp) (R : L2.It → Hp → Prop), Ok X.K F H O → Rho X.K F ρ σ → (∀ F1 H1, Ok X.K F1 H1 O1 → Ext F H O F1 H1 O1 → R (L2.Itr lo (hi - lo).toNat) H1) → wi σ H R) (p : PI X tg e wi) : Itr X ρ O tg e ((rangeI lo hi).map iI) O1 nd0 := by
  refine ⟨wi, p, fun σ F H R ok rho z => h σ F H R ok rho fun F1 H1 ok1 x1 => z _ _ _ F1 H1 ok1 x1 (walk_n walk_range (by rw [List.length_map, rangeI_len])) (fun _ _ _ _ _ _ => trivial) ?_⟩
  rintro i it F2 H2 O2 x H3 hi' s ok2 _ ⟨rfl, rfl⟩
  rw [List.getElem?_map] at hi'
  by_cases hlt : i < (hi - lo).toNat
  · rw [rangeI_get hlt] at hi'
    cases hi'
    exact ⟨F2, ok2, Ext.refl, mI⟩
  · rw [List.getElem?_eq_none (by rw [rangeI_len]; omega)] at hi'
    cases hi'
theorem itr_range1 {n : Int} (hm : X.mg "range" = none) (ha : Ev X ρ O a (iI n) O1) (hb : -(2 ^ 62) ≤ n ∧ n < 2 ^ 62) (hg : Gl X "range" := by rfl) (hs : starEach [a] X.env = [(false, eval a X.env)] := by rfl) : Itr X ρ O tg (.Call (.Name "range" p) [a] [] pos) ((rangeI 0 n).map iI) O1 nd0 := by
  obtain ⟨t, pa, k⟩ := (ea_cons ha ea_nil hs).out
  refine itr_rg (fun σ F H R ok rho z => ?_) (pi_range1 hg hm pa hs)
  refine k σ F H _ ok rho fun is O' vs F1 H1 e ok1 x1 i1 => ?_
  obtain ⟨rfl, rfl⟩ := e
  obtain ⟨v, rfl, j1⟩ := pair1 i1
  rw [imI j1]
  have q := z F1 H1 ok1 x1
  rw [Int.sub_zero] at q
  exact ⟨n, rfl, hb.1, hb.2, q⟩
theorem itr_range2 {lo hi : Int} (hm : X.mg "range" = none) (ha : Ev X ρ O a (iI lo) O1) (hb : Ev X ρ O1 b (iI hi) O2) (hl : -(2 ^ 62) ≤ lo ∧ lo < 2 ^ 62) (hh : -(2 ^ 62) ≤ hi ∧ hi < 2 ^ 62) (hg : Gl X "range" := by rfl)
    (hs : starEach [a, b] X.env = [(false, eval a X.env), (false, eval b X.env)] := by rfl) (hs2 : starEach [b] X.env = [(false, eval b X.env)] := by rfl) : Itr X ρ O tg (.Call (.Name "range" p) [a, b] [] pos) ((rangeI lo hi).map iI) O2 nd0 := by
  obtain ⟨t, pa, k⟩ := (ea_cons ha (ea_cons hb ea_nil hs2) (by rw [hs2]; exact hs)).out
  refine itr_rg (fun σ F H R ok rho z => ?_) (pi_range2 hg hm pa hs hs2)
  refine k σ F H _ ok rho fun is O' vs F1 H1 e ok1 x1 i1 => ?_
  obtain ⟨rfl, rfl⟩ := e
  obtain ⟨v, w, rfl, j1, j2⟩ := pair2 i1
  rw [imI j1, imI j2]
  exact ⟨lo, hi, rfl, ⟨hl.1, hl.2, hh.1, hh.2⟩, z F1 H1 ok1 x1⟩
/-- a new pair of two items that stand in the heap -/
theorem lay_pair {K : PySem.W.Frag} {F H : Hp} {O : Own} {T : Addr} {x y : V} {i j : Im} (ok : Ok K F H O) (hT : H T = none) (hx : ImOk K F i x) (hy : ImOk K F j y) : ∃ F3, Ok K F3 (upd H T (.tup [x, y])) O ∧ Ext F H O F3 (upd H T (.tup [x, y])) O ∧ ImOk K F3 (.t [i, j]) (.ref T) :=
  ⟨_, ok.lay hT, Ext.lay ok hT, imt upd_same (.cons (hx.mono (same_lay ok hT)) (.cons (hy.mono (same_lay ok hT)) .nil))⟩
/-- for i, x in enumerate(xs) -/
def enumI (is : List Im) : List Im := is.mapIdx fun i x => .t [iI i, x]
theorem itr_enum {is : List Im} {elts : List Expr} {kk : Nat} {tpos : Pos} (hm : X.mg "enumerate" = none) (ha : Ev X ρ O a (.l is) O1 ∨ ∃ ds, is = ds.map .d ∧ Ev X ρ O a (iL ds) O1) (hg : Gl X "enumerate" := by rfl) (hs : starEach [a] X.env = [(false, eval a X.env)] := by rfl) :
    Itr X ρ O (.Tuple elts kk tpos) (.Call (.Name "enumerate" p) [a] [] pos) (enumI is) O1 nd0 := by
  have key : ∃ it, Ev X ρ O a it O1 ∧ ∀ F v, ImOk X.K F it v → ∃ l xs, v = .ref l ∧ F l = some (.lst xs) ∧ Paired (ImOk X.K F) is xs := by
    rcases ha with ha | ⟨ds, rfl, ha⟩
    · exact ⟨_, ha, fun F v h => of_iml h⟩
    · exact ⟨_, ha, fun F v h => by
        obtain ⟨l, xs, e, h1, q⟩ := imL h
        exact ⟨l, xs, e, h1, DtAll.im q⟩⟩
  obtain ⟨it, ha, hit⟩ := key
  obtain ⟨t, pa, k⟩ := (ea_cons ha ea_nil hs).out
  refine ⟨_, pi_enum hg hm pa hs, fun σ F H R ok rho z => k σ F H _ ok rho fun is' O' vs F1 H1 e ok1 x1 i1 => ?_⟩
  obtain ⟨rfl, rfl⟩ := e
  obtain ⟨v, rfl, j1⟩ := pair1 i1
  obtain ⟨l, xs, rfl, h1, q1⟩ := hit _ _ j1
  refine ⟨l, xs, rfl, SqL.of (ok1.same _ _ h1), z _ _ _ F1 H1 ok1 x1 (walk_n (walk_enum (xs := xs)) (by unfold enumI; rw [List.length_mapIdx]; exact q1.length)) (fun F2 H2 O2 s ok2 _ => SqL.of (ok2.same _ _ (s _ _ h1))) ?_⟩
  rintro i im F2 H2 O2 x H3 hi s ok2 _ ⟨T, u, w, rfl, hT, rfl, hu, hw⟩
  unfold enumI at hi
  rw [List.getElem?_mapIdx] at hi
  cases h : is[i]? with
  | none => rw [h] at hi; cases hi
  | some im0 =>
    rw [h] at hi
    cases hi; cases hu
    obtain ⟨w2, h3, h4⟩ := PairedIm.get q1 h
    have hw' : xs[i]? = some w := hw
    rw [h3] at hw'; cases hw'
    exact lay_pair ok2 hT mI (h4.mono s)
/-- for a, b in zip(xs, ys) -/
def zipI (is js : List Im) : List Im := List.zipWith (fun x y => .t [x, y]) is js
/-- a list that may be read by a walk: laid, or owned and kept as it is -/
inductive Lst (X : Cx) (ρ : Ro) (O : Own) (a : Expr) (is : List Im) (O1 : Own) : (Own → Prop) → Prop
  | d {ds : List PyData} (e : is = ds.map .d) (h : Ev X ρ O a (iL ds) O1) : Lst X ρ O a is O1 nd0
  | l (h : Ev X ρ O a (.l is) O1) : Lst X ρ O a is O1 nd0
  | p {l : Addr} (h : Ev X ρ O a (iP l) O1) (hl : O1 l = some (.lst is)) : Lst X ρ O a is O1 fun O2 => O2 l = some (.lst is)
theorem Lst.key {is : List Im} {need : Own → Prop} (h : Lst X ρ O a is O1 need) : ∃ it, Ev X ρ O a it O1 ∧ need O1 ∧ ∀ F v, ImOk X.K F it v → ∃ l, v = .ref l ∧ ∀ F2 H2 O2, Same F F2 → Ok X.K F2 H2 O2 → need O2 → ∃ xs, H2 l = some (.lst xs) ∧ Paired (ImOk X.K F2) is xs := by
  cases h with
  | d e h =>
    subst e
    refine ⟨_, h, trivial, fun F v i => ?_⟩
    obtain ⟨l, xs, e, h1, q⟩ := imL i
    exact ⟨l, e, fun F2 H2 O2 s ok _ => ⟨xs, ok.same _ _ (s _ _ h1), DtAll.im (DtAll.mono s q)⟩⟩
  | l h =>
    refine ⟨_, h, trivial, fun F v i => ?_⟩
    obtain ⟨l, xs, e, h1, q⟩ := of_iml i
    exact ⟨l, e, fun F2 H2 O2 s ok _ => ⟨xs, ok.same _ _ (s _ _ h1), PairedIm.mono s q⟩⟩
  | p h hl =>
    refine ⟨_, h, hl, fun F v i => ⟨_, of_imv i, fun F2 H2 O2 s ok n => ?_⟩⟩
    obtain ⟨_, o, h1, q1⟩ := ok.cell _ _ n
    cases o <;> try exact q1.elim
    exact ⟨_, h1, q1⟩
theorem itr_zip {is js : List Im} {n1 n2 : Own → Prop} {elts : List Expr} {kk : Nat} {tpos : Pos} (hm : X.mg "zip" = none) (ha : Lst X ρ O a is O1 n1) (hb : Lst X ρ O1 b js O2 n2) (hn : n1 O2) (hg : Gl X "zip" := by rfl)
    (hs : starEach [a, b] X.env = [(false, eval a X.env), (false, eval b X.env)] := by rfl) (hs2 : starEach [b] X.env = [(false, eval b X.env)] := by rfl) :
    Itr X ρ O (.Tuple elts kk tpos) (.Call (.Name "zip" p) [a, b] [] pos) (zipI is js) O2 (fun O3 => n1 O3 ∧ n2 O3) := by
  obtain ⟨it, ha, _, hit⟩ := ha.key
  obtain ⟨jt, hb, hn2, hjt⟩ := hb.key
  obtain ⟨t, pa, k⟩ := (ea_cons ha (ea_cons hb ea_nil hs2) (by rw [hs2]; exact hs)).out
  refine ⟨_, pi_zip hg hm pa (hs := by rw [hs2]; exact hs) (hpl := by rw [hs2]; rfl), fun σ F H R ok rho z => k σ F H _ ok rho fun is' O' vs F1 H1 e ok1 x1 i1 => ?_⟩
  obtain ⟨rfl, rfl⟩ := e
  obtain ⟨v, w, rfl, j1, j2⟩ := pair2 i1
  obtain ⟨l, rfl, hl⟩ := hit _ _ j1
  obtain ⟨m, rfl, hm'⟩ := hjt _ _ j2
  obtain ⟨xs, h1, q1⟩ := hl F1 H1 O' (Same.refl _) ok1 hn
  obtain ⟨ys, h2, q2⟩ := hm' F1 H1 O' (Same.refl _) ok1 hn2
  refine ⟨l, m, xs, ys, rfl, SqL.of h1, SqL.of h2, z _ (fun H => ∃ as bs : List V, as.length = is.length ∧ bs.length = js.length ∧ SqL X.K H l as ∧ SqL X.K H m bs)
    (fun i H v H' => ∃ T x y, v = .ref T ∧ H T = none ∧ H' = upd H T (.tup [x, y]) ∧ (∀ as : List V, SqL X.K H l as → as[i]? = some x) ∧ ∀ bs : List V, SqL X.K H m bs → bs[i]? = some y) F1 H1 ok1 x1 ?_ (fun F2 H2 O2 s ok2 n => ?_) ?_⟩
  · have hlen : (zipI is js).length = min is.length js.length := by unfold zipI; rw [List.length_zipWith]
    refine ⟨fun i H hi ⟨as, bs, e1, e2, q1, q2⟩ => ?_, fun H ⟨as, bs, e1, e2, q1, q2⟩ => ⟨as, bs, q1, q2, by omega⟩, fun i H x H' _ _ y => ?_⟩
    · have a1 : i < as.length := by omega
      have a2 : i < bs.length := by omega
      exact ⟨as, bs, as[i], bs[i], q1, q2, by simp [a1], by simp [a2]⟩
    · obtain ⟨T, x, y, e1, e2, e3, e4, e5⟩ := y
      exact ⟨T, x, y, e1, e2, e3, e4, e5⟩
  · obtain ⟨as, h3, q3⟩ := hl F2 H2 O2 s ok2 n.1
    obtain ⟨bs, h4, q4⟩ := hm' F2 H2 O2 s ok2 n.2
    exact ⟨as, bs, q3.length.symm, q4.length.symm, SqL.of h3, SqL.of h4⟩
  · rintro i im F2 H2 O2 x H3 hi s ok2 n ⟨T, u, w, rfl, hT, rfl, hu, hw⟩
    obtain ⟨as, h3, q3⟩ := hl F2 H2 O2 s ok2 n.1
    obtain ⟨bs, h4, q4⟩ := hm' F2 H2 O2 s ok2 n.2
    unfold zipI at hi
    rw [List.getElem?_zipWith] at hi
    cases e1 : is[i]? with
    | none => rw [e1] at hi; simp at hi
    | some i0 =>
      cases e2 : js[i]? with
      | none => rw [e1, e2] at hi; simp at hi
      | some j0 =>
        rw [e1, e2] at hi
        simp only [Option.some.injEq] at hi
        subst hi
        obtain ⟨u2, h5, h6⟩ := PairedIm.get q3 e1
        obtain ⟨w2, h7, h8⟩ := PairedIm.get q4 e2
        have a1 := hu as (SqL.of h3)
        have a2 := hw bs (SqL.of h4)
        rw [h5] at a1; cases a1
        rw [h7] at a2; cases a2
        exact lay_pair ok2 hT h6 h8

/-! ### targets: names, tuples of names; vs are the slots that may change -/
def TgN (X : Cx) (vs : List Nat) (ρ : Ro) (O : Own) (tg : Expr) (it : Im) (R : Ro → Own → Prop) : Prop :=
  ∀ (v : V) (σ : L2.St) (F H : Hp) (Q : L2.St → Hp → Prop), Ok X.K F H O → Rho X.K F ρ σ → ImOk X.K F it v →
    (∀ ρ' O' σ' F' H', R ρ' O' → Ok X.K F' H' O' → Ext F H O F' H' O' → Rho X.K F' ρ' σ' → σ'.length = σ.length → (∀ j, j ∉ vs → σ'[j]? = σ[j]?) → Q σ' H') → TGw X tg v σ H Q
theorem TgN.mk {vs : List Nat} {it : Im} {R : Ro → Own → Prop} (h : ∃ g, PG X tg g ∧ ∀ (v : V) (σ : L2.St) (F H : Hp) (Q : L2.St → Hp → Prop), Ok X.K F H O → Rho X.K F ρ σ → ImOk X.K F it v →
    (∀ ρ' O' σ' F' H', R ρ' O' → Ok X.K F' H' O' → Ext F H O F' H' O' → Rho X.K F' ρ' σ' → σ'.length = σ.length → (∀ j, j ∉ vs → σ'[j]? = σ[j]?) → Q σ' H') → g v σ H Q) : TgN X vs ρ O tg it R := by
  obtain ⟨t, p, k⟩ := h
  exact fun v σ F H Q ok rho iv z pins s u I r => p.run pins s σ H v u Q I r (k v σ F H Q ok rho iv z)
theorem TgN.tgt {vs : List Nat} {it : Im} {R : Ro → Own → Prop} (h : TgN X vs ρ O tg it R) : Tgt X ρ O tg it R := fun v σ F H Q ok rho iv z => h v σ F H Q ok rho iv fun a b c d e r1 r2 r3 r4 _ _ => z a b c d e r1 r2 r3 r4
abbrev Eg (X : Cx) (vs : List Nat) (ρ : Ro) (O : Own) (tg : Expr) (it : Im) (ρ' : Ro) : Prop := TgN X vs ρ O tg it fun r o => r = ρ' ∧ o = O
theorem eg_name (i : Nat) {x : Str} {it : Im} (hN : X.N.Nodup) (hi : X.N[i]? = some x := by rfl) (hx : Loc X.env.scope x := by first | exact Or.inl rfl | exact Or.inr rfl) (hf : X.fn x = true ∨ X.env.scope.names.lookup x = some .local := by first | exact .inl rfl | exact .inr rfl | assumption) : Eg X [i] ρ O (.Name x pos) it (ρ.set i (some it)) :=
  TgN.mk ⟨gName i, pg_name hN hi hx hf, fun v σ F H Q ok rho iv z => z _ _ _ F H ⟨rfl, rfl⟩ ok Ext.refl (rho.set iv i) (by simp) fun j hj => by
    rw [List.getElem?_set_ne (by intro e; exact hj (by simp [e]))]⟩
/-- a, b = a pair -/
theorem eg_pair (i j : Nat) {x y : Str} {a0 b0 : Im} {px py : Pos} {kk : Nat} (hc : X.calm = true) (hN : X.N.Nodup) (hi : X.N[i]? = some x := by rfl) (hj : X.N[j]? = some y := by rfl) (hx : Loc X.env.scope x := by first | exact Or.inl rfl | exact Or.inr rfl) (hy : Loc X.env.scope y := by first | exact Or.inl rfl | exact Or.inr rfl)
    (hf : X.fn x = true ∨ X.env.scope.names.lookup x = some .local := by first | exact .inl rfl | exact .inr rfl | assumption) (hf2 : X.fn y = true ∨ X.env.scope.names.lookup y = some .local := by first | exact .inl rfl | exact .inr rfl | assumption) :
    Eg X [i, j] ρ O (.Tuple [.Name x px, .Name y py] kk pos) (.t [a0, b0]) ((ρ.set i (some a0)).set j (some b0)) :=
  TgN.mk ⟨_, pg_tup hc (pgs_cons (pg_name hN hi hx hf) (pgs_cons (pg_name hN hj hy hf2) pgs_nil rfl) rfl) rfl rfl, fun v σ F H Q ok rho iv z => by
    obtain ⟨T, vs, rfl, h1, q1⟩ := of_imt iv
    obtain ⟨u, w, rfl, i1, i2⟩ := pair2 q1
    refine ⟨T, [u, w], rfl, SqT.of (ok.same _ _ h1), rfl, u, [w], rfl, w, [], rfl, rfl, z _ _ _ F H ⟨rfl, rfl⟩ ok Ext.refl ((rho.set i1 i).set i2 j) (by simp) fun l hl => ?_⟩
    rw [List.getElem?_set_ne (by intro e; exact hl (by simp [e])), List.getElem?_set_ne (by intro e; exact hl (by simp [e]))]⟩
/-- an item that is a tuple of data, as a tuple of items -/
theorem im_dt {K : PySem.W.Frag} {F : Hp} {ds : List PyData} {v : V} (h : ImOk K F (iT ds) v) : ImOk K F (.t (ds.map .d)) v := by
  obtain ⟨a, xs, rfl, h1, q⟩ := imT h
  exact imt h1 (DtAll.im q)
theorem TgN.data {vs : List Nat} {ds : List PyData} {R : Ro → Own → Prop} (h : TgN X vs ρ O tg (.t (ds.map .d)) R) : TgN X vs ρ O tg (iT ds) R := fun v σ F H Q ok rho iv z => h v σ F H Q ok rho (im_dt iv) z
theorem eg_pairD (i j : Nat) {x y : Str} {a0 b0 : PyData} {px py : Pos} {kk : Nat} (hc : X.calm = true) (hN : X.N.Nodup) (hi : X.N[i]? = some x := by rfl) (hj : X.N[j]? = some y := by rfl) (hx : Loc X.env.scope x := by first | exact Or.inl rfl | exact Or.inr rfl) (hy : Loc X.env.scope y := by first | exact Or.inl rfl | exact Or.inr rfl)
    (hf : X.fn x = true ∨ X.env.scope.names.lookup x = some .local := by first | exact .inl rfl | exact .inr rfl | assumption) (hf2 : X.fn y = true ∨ X.env.scope.names.lookup y = some .local := by first | exact .inl rfl | exact .inr rfl | assumption) :
    Eg X [i, j] ρ O (.Tuple [.Name x px, .Name y py] kk pos) (iT [a0, b0]) ((ρ.set i (some (.d a0))).set j (some (.d b0))) := TgN.data (eg_pair i j hc hN hi hj hx hy hf hf2)
/-- a, b, c = three -/
theorem eg_three (i j k : Nat) {x y w : Str} {a0 b0 c0 : Im} {px py pw : Pos} {kk : Nat} (hc : X.calm = true) (hN : X.N.Nodup) (hi : X.N[i]? = some x := by rfl) (hj : X.N[j]? = some y := by rfl) (hk : X.N[k]? = some w := by rfl)
    (hx : Loc X.env.scope x := by first | exact Or.inl rfl | exact Or.inr rfl) (hy : Loc X.env.scope y := by first | exact Or.inl rfl | exact Or.inr rfl) (hw : Loc X.env.scope w := by first | exact Or.inl rfl | exact Or.inr rfl)
    (hf : X.fn x = true ∨ X.env.scope.names.lookup x = some .local := by first | exact .inl rfl | exact .inr rfl | assumption) (hf2 : X.fn y = true ∨ X.env.scope.names.lookup y = some .local := by first | exact .inl rfl | exact .inr rfl | assumption)
    (hf3 : X.fn w = true ∨ X.env.scope.names.lookup w = some .local := by first | exact .inl rfl | exact .inr rfl | assumption) :
    Eg X [i, j, k] ρ O (.Tuple [.Name x px, .Name y py, .Name w pw] kk pos) (.t [a0, b0, c0]) (((ρ.set i (some a0)).set j (some b0)).set k (some c0)) :=
  TgN.mk ⟨_, pg_tup hc (pgs_cons (pg_name hN hi hx hf) (pgs_cons (pg_name hN hj hy hf2) (pgs_cons (pg_name hN hk hw hf3) pgs_nil rfl) rfl) rfl) rfl rfl, fun v σ F H Q ok rho iv z => by
    obtain ⟨T, vs, rfl, h1, q1⟩ := of_imt iv
    cases q1 with
    | cons i1 t => cases t with
      | cons i2 t => cases t with
        | cons i3 t =>
          cases t
          refine ⟨T, _, rfl, SqT.of (ok.same _ _ h1), rfl, _, _, rfl, _, _, rfl, _, _, rfl, rfl, z _ _ _ F H ⟨rfl, rfl⟩ ok Ext.refl (((rho.set i1 i).set i2 j).set i3 k) (by simp) fun l hl => ?_⟩
          rw [List.getElem?_set_ne (by intro e; exact hl (by simp [e])), List.getElem?_set_ne (by intro e; exact hl (by simp [e])), List.getElem?_set_ne (by intro e; exact hl (by simp [e]))]⟩
theorem eg_threeD (i j k : Nat) {x y w : Str} {a0 b0 c0 : PyData} {px py pw : Pos} {kk : Nat} (hc : X.calm = true) (hN : X.N.Nodup) (hi : X.N[i]? = some x := by rfl) (hj : X.N[j]? = some y := by rfl) (hk : X.N[k]? = some w := by rfl)
    (hx : Loc X.env.scope x := by first | exact Or.inl rfl | exact Or.inr rfl) (hy : Loc X.env.scope y := by first | exact Or.inl rfl | exact Or.inr rfl) (hw : Loc X.env.scope w := by first | exact Or.inl rfl | exact Or.inr rfl)
    (hf : X.fn x = true ∨ X.env.scope.names.lookup x = some .local := by first | exact .inl rfl | exact .inr rfl | assumption) (hf2 : X.fn y = true ∨ X.env.scope.names.lookup y = some .local := by first | exact .inl rfl | exact .inr rfl | assumption)
    (hf3 : X.fn w = true ∨ X.env.scope.names.lookup w = some .local := by first | exact .inl rfl | exact .inr rfl | assumption) :
    Eg X [i, j, k] ρ O (.Tuple [.Name x px, .Name y py, .Name w pw] kk pos) (iT [a0, b0, c0]) (((ρ.set i (some (.d a0))).set j (some (.d b0))).set k (some (.d c0))) := TgN.data (eg_three i j k hc hN hi hj hk hx hy hw hf hf2 hf3)
end
end AL

/-! AL4: comprehensions, statements, loops. -/
namespace AL
open PySem PySem.Spec PyProof.Rows L2
/-! ### slots forgotten -/
def wipeR (ρ : Ro) : List Nat → Ro
  | [] => ρ
  | v :: vs => (wipeR ρ vs).set v none
section
variable {K : PySem.W.Frag} {F F1 F2 H H1 H2 : Hp} {O O1 O2 : Own}
theorem Rho.unset : ∀ {ρ : Ro} {σ : L2.St} (i : Nat), Rho K F ρ σ → Rho K F (ρ.set i none) (σ.set i none)
  | _, _, _, .nil => .nil
  | _, _, 0, .cons _ t => .cons (fun _ e => nomatch e) t
  | _, _, i + 1, .cons q t => .cons q (Rho.unset i t)
theorem Rho.wipe {ρ : Ro} {σ : L2.St} (h : Rho K F ρ σ) : ∀ vs : List Nat, Rho K F (wipeR ρ vs) (L2.wipe σ vs)
  | [] => h
  | v :: vs => Rho.unset v (Rho.wipe h vs)
theorem wipe_in {σ : L2.St} {i : Nat} : ∀ {vs : List Nat}, i ∈ vs → i < σ.length → (L2.wipe σ vs)[i]? = some none
  | v :: vs, h, hl => by
    unfold L2.wipe
    by_cases e : v = i
    · subst e
      rw [List.getElem?_set_self (by rw [wipe_length]; exact hl)]
    · rw [List.getElem?_set_ne e]
      exact wipe_in ((List.mem_cons.mp h).resolve_left fun z => e z.symm) hl
theorem wipe_eq {σ σ2 : L2.St} {vs : List Nat} (hl : σ2.length = (L2.wipe σ vs).length) (h : ∀ j, j ∉ vs → σ2[j]? = (L2.wipe σ vs)[j]?) : L2.wipe σ2 vs = L2.wipe σ vs := by
  apply List.ext_getElem?
  intro j
  by_cases hj : j ∈ vs
  · by_cases hlt : j < σ2.length
    · rw [wipe_in hj hlt, wipe_in hj (by rw [hl, wipe_length] at hlt; exact hlt)]
    · rw [List.getElem?_eq_none (by rw [wipe_length]; omega), List.getElem?_eq_none (by omega)]
  · rw [wipe_out hj, h j hj]
theorem Ext.updFresh {D : Addr} {o : HO} (e : Ext F H O F1 H1 O1) (hD : H D = none) : Ext F H O F1 (upd H1 D o) O1 :=
  ⟨e.f, fun b u q n => by rw [upd_ne (ne_of_none q hD)]; exact e.h b u q n, e.n, e.o, fun b q => e.g b (upd_none q)⟩
/-- an object that is neither laid nor owned is written -/
theorem Ok.foreign (ok : Ok K F H O) {D : Addr} {o : HO} (f : F D = none) (n : O D = none) : Ok K F (upd H D o) O := by
  refine ⟨fun b u e => ?_, fun a c e => ?_⟩
  · have : b ≠ D := fun z => by rw [z, f] at e; cases e
    rw [upd_ne this]; exact ok.same b u e
  · have : a ≠ D := fun z => by rw [z, n] at e; cases e
    rw [upd_ne this]; exact ok.cell a c e
/-- .. is laid -/
theorem Ok.adopt (ok : Ok K F H O) {D : Addr} {o : HO} (f : F D = none) (n : O D = none) (h : H D = some o) : Ok K (upd F D o) H O := by
  have s : Same F (upd F D o) := fun b x y => by rw [upd_ne (ne_of_none y f)]; exact y
  refine ⟨fun b u e => ?_, fun a c e => ?_⟩
  · by_cases hb : b = D
    · subst hb; rw [upd_same] at e; rw [h]; exact e
    · rw [upd_ne hb] at e; exact ok.same b u e
  · have : a ≠ D := fun z => by rw [z, n] at e; cases e
    obtain ⟨f1, u, hu, k⟩ := ok.cell a c e
    exact ⟨by rw [upd_ne this]; exact f1, u, hu, k.mono s⟩
theorem Ext.adopt {D : Addr} {o : HO} (e : Ext F H O F1 H1 O1) (hD : H D = none) (f : F1 D = none) : Ext F H O (upd F1 D o) H1 O1 :=
  ⟨fun b x y => by
    have q := e.f b x y
    rw [upd_ne (ne_of_none q f)]; exact q, e.h, fun b q n z => by
    have : b ≠ D := fun w => n (by rw [w]; exact hD)
    rw [upd_ne this]; exact e.n b q n z, e.o, e.g⟩
end
section
variable {X : Cx} {ρ : Ro} {O O1 O2 O3 : Own} {pos p : Pos} {tg iter elt a b e : Expr} {ifs es : List Expr} {scope : Scope} {own : List (Str × Nat)}
/-! ### comprehensions -/
/-- in every block of the comprehension -/
abbrev Blk (X : Cx) (scope : Scope) (P : Cx → Prop) : Prop := ∀ (s : Shared) (H : Hp) (C : Addr) (cl : List (Str × Addr)) (fp : List Addr), P (X.blk s H scope (compEnvC scope cl C X.env) fp)
def TIsw (X : Cx) (ifs : List Expr) : TT := fun σ H Q => ∀ (pins : List (Addr × Obj)) (s : Shared), Inv X pins σ H s →
  wpAny (model X.prog X.w) X.A (forIn ifs true fun c r => if r = true then do let ok ← isTrue c X.env (eval c X.env); pure (ForInStep.yield ok) else pure (ForInStep.yield r)) (TP X pins σ Q) X.xe s
def IW (X : Cx) (ρ : Ro) (O : Own) (ifs : List Expr) (b : Bool) : Prop :=
  ∀ (σ : L2.St) (F H : Hp) (Q : Bool → Hp → Prop), Ok X.K F H O → Rho X.K F ρ σ → (∀ F' H', Ok X.K F' H' O → Ext F H O F' H' O → Q b H') → TIsw X ifs σ H Q
theorem iw_nil : IW X ρ O [] true := fun σ F H Q ok rho z pins s I => pts_nil.run pins s σ H Q I (z F H ok Ext.refl)
theorem iw_one {c : Expr} {b : Bool} (h : Et X ρ O c b O) : IW X ρ O [c] b := fun σ F H Q ok rho z pins s I => (pts_one (pt_self X c)).run pins s σ H Q I (h σ F H Q ok rho fun b' O' F' H' e ok' x' => by
  obtain ⟨rfl, rfl⟩ := e
  exact z F' H' ok' x')
/-- one turn: the item x comes, the cells are O, it gives y (none: left out) and leaves the cells O' -/
def CTurn (X : Cx) (scope : Scope) (vs : List Nat) (ρ : Ro) (O : Own) (tg : Expr) (ifs : List Expr) (elt : Expr) (x : Im) (y : Option Im) (O' : Own) : Prop :=
  ∃ ρ2 b, (Blk X scope fun X' => Eg X' vs (wipeR ρ vs) O tg x ρ2) ∧ (Blk X scope fun X' => IW X' ρ2 O ifs b) ∧ (b = false → y = none ∧ O' = O) ∧ (b = true → ∃ z, y = some z ∧ Blk X scope fun X' => Ev X' ρ2 O elt z O')
def gB (X : Cx) (scope : Scope) (tg : Expr) : TG := fun v σ H Q => ∀ s0 H0 C cl fp, TGw (X.blk s0 H0 scope (compEnvC scope cl C X.env) fp) tg v σ H Q
def ttB (X : Cx) (scope : Scope) (ifs : List Expr) : TT := fun σ H Q => ∀ s0 H0 C cl fp, TIsw (X.blk s0 H0 scope (compEnvC scope cl C X.env) fp) ifs σ H Q
def teB (X : Cx) (scope : Scope) (elt : Expr) : TE := fun σ H Q => ∀ s0 H0 C cl fp, TEw (X.blk s0 H0 scope (compEnvC scope cl C X.env) fp) elt σ H Q
theorem gB_ok (tg : Expr) : Blk X scope fun X' => PG X' tg (gB X scope tg) := fun s0 H0 C cl fp => ⟨fun pins s σ H v u Q I r h => h s0 H0 C cl fp pins s u I r⟩
theorem ttB_ok (ifs : List Expr) : Blk X scope fun X' => PTs X' ifs (ttB X scope ifs) := fun s0 H0 C cl fp => ⟨fun pins s σ H Q I h => h s0 H0 C cl fp pins s I⟩
theorem teB_ok (elt : Expr) : Blk X scope fun X' => PE X' elt (teB X scope elt) := fun s0 H0 C cl fp => ⟨fun pins s σ H Q I h => h s0 H0 C cl fp pins s I⟩
theorem filterMap_succ {α : Type} (ys : Nat → Option α) (k : Nat) : (List.range (k + 1)).filterMap ys = (List.range k).filterMap ys ++ (ys k).toList := by
  rw [List.range_succ, List.filterMap_append]
  cases h : ys k <;> simp [h]
/-- how the finished list is handed on -/
theorem lc_read {xs : List Im} {need : Own → Prop} (hi : Itr X ρ O tg iter xs O1 need) (Os : Nat → Own) (ys : Nat → Option Im) (h0 : Os 0 = O1) (hn : ∀ k, k ≤ xs.length → need (Os k)) (hz : xs.length ≤ sizeLine)
    (turn : ∀ k x, xs[k]? = some x → CTurn X scope (own.map (·.2)) ρ (Os k) tg ifs elt x (ys k) (Os (k + 1))) :
    ∃ wi, PI X tg iter wi ∧ ∀ (σ : L2.St) (F H : Hp) (Q : VK), Ok X.K F H O → Rho X.K F ρ σ →
      (∀ D xs' F' H', Ok X.K F' H' (Os xs.length) → Ext F H O F' H' (Os xs.length) → F' D = some (.lst xs') → Paired (ImOk X.K F') ((List.range xs.length).filterMap ys) xs' → Q (.ref D) H') →
      tLc wi (gB X scope tg) (ttB X scope ifs) (teB X scope elt) (own.map (·.2)) σ H Q := by
  obtain ⟨wi, pi, ki⟩ := hi
  refine ⟨wi, pi, fun σ F H Q ok rho z => ki σ F H _ ok rho fun J G Y F1 H1 ok1 x1 w hG hY D hD => ?_⟩
  have fD : F1 D = none := ok1.same.free hD
  refine lc_it w (fun k H2 => ∃ F2 acc, Ok X.K F2 H2 (Os k) ∧ Ext F1 H1 O1 F2 H2 (Os k) ∧ H2 D = some (.lst acc) ∧ F2 D = none ∧ (Os k) D = none ∧ acc.length ≤ k ∧ Paired (ImOk X.K F2) ((List.range k).filterMap ys) acc) ?_ ?_ ?_ ?_
  · refine ⟨F1, [], ?_, ?_, upd_same, fD, by rw [h0]; exact ok1.fresh hD, Nat.le_refl _, .nil⟩
    · rw [h0]; exact ok1.foreign fD (ok1.fresh hD)
    · rw [h0]; exact Ext.refl.updFresh hD
  · rintro k H2 hk ⟨F2, acc, ok2, x2, _⟩
    exact hG F2 H2 _ x2.f ok2 (hn k hk)
  · rintro k x H2 H3 hk ⟨F2, acc, ok2, x2, hD2, fD2, oD2, hl, hp⟩ hy
    have hx : xs[k]? = some xs[k] := by simp [hk]
    obtain ⟨F3, ok3, x3, i3⟩ := hY k xs[k] F2 H2 _ x H3 hx x2.f ok2 (hn k (Nat.le_of_lt hk)) hy
    have dD : ∀ {F' H' : Hp} {O' : Own}, Ext F2 H2 (Os k) F' H' O' → H' D = some (.lst acc) ∧ F' D = none ∧ O' D = none := fun {F' H' O'} ex => by
      refine ⟨ex.h D _ hD2 oD2, ex.n D fD2 (by rw [hD2]; simp) oD2, ?_⟩
      cases q : O' D with
      | none => rfl
      | some c =>
        rcases ex.o D (by rw [q]; simp) with z | z
        · exact absurd oD2 z
        · rw [hD2] at z; cases z
    obtain ⟨ρ2, b, tgt, tst, hb0, hb1⟩ := turn k _ hx
    have rho' : Rho X.K F3 (wipeR ρ (own.map (·.2))) (L2.wipe σ (own.map (·.2))) := (rho.mono ((x1.trans x2).trans x3).f).wipe _
    intro s0 H0 C cl fp
    refine tgt s0 H0 C cl fp x (L2.wipe σ (own.map (·.2))) F3 H3 _ ok3 rho' i3 fun r o σ2 F4 H4 hr ok4 x4 rho4 hlen hsame => ?_
    obtain ⟨rfl, rfl⟩ := hr
    refine ⟨wipe_eq hlen hsame, ?_⟩
    intro s0 H0 C cl fp
    refine tst s0 H0 C cl fp σ2 F4 H4 _ ok4 rho4 fun F5 H5 ok5 x5 => ?_
    have xk := (x3.trans x4).trans x5
    cases b with
    | false =>
      obtain ⟨e1, e2⟩ := hb0 rfl
      refine iteF ?_
      obtain ⟨d1, d2, d3⟩ := dD xk
      refine ⟨F5, acc, by rw [e2]; exact ok5, by rw [e2]; exact x2.trans xk, d1, d2, by rw [e2]; exact d3, by omega, ?_⟩
      rw [filterMap_succ, e1]
      simp only [Option.toList, List.append_nil]
      exact PairedIm.mono xk.f hp
    | true =>
      obtain ⟨y, e1, ev⟩ := hb1 rfl
      refine iteT ?_
      intro s0 H0 C cl fp
      refine ev s0 H0 C cl fp σ2 F5 H5 _ ok5 (rho4.mono x5.f) fun it O' v F6 H6 he ok6 x6 i6 => ?_
      obtain ⟨rfl, rfl⟩ := he
      have xk2 := xk.trans x6
      obtain ⟨d1, d2, d3⟩ := dD xk2
      refine ⟨acc, d1, by omega, F6, acc ++ [v], ok6.foreign d2 d3, (x2.trans xk2).updFresh hD, upd_same, d2, d3, by simp; omega, ?_⟩
      rw [filterMap_succ, e1]
      exact PairedIm.app (PairedIm.mono xk2.f hp) (.cons i6 .nil)
  · rintro H2 ⟨F2, acc, ok2, x2, hD2, fD2, oD2, hl, hp⟩
    exact z D acc _ H2 (ok2.adopt fD2 oD2 hD2) ((x1.trans x2).adopt (x1.g D hD) fD2) upd_same (PairedIm.mono (fun b u e => by rw [upd_ne (ne_of_none e fD2)]; exact e) hp)
/-- the list is data -/
theorem DtAll.of_im2 {K : PySem.W.Frag} {F : Hp} {ds : List PyData} {is : List Im} {vs : List V} (e : is = ds.map .d) (h : Paired (ImOk K F) is vs) : DtAll F vs ds := by
  subst e
  exact DtAll.of_im h
theorem ev_lc {xs : List Im} {need : Own → Prop} {ds : List PyData} (hc : X.calm = true) (hN : X.N.Nodup) (bk : BlkOk X.N X.env.scope scope own) (hi : Itr X ρ O tg iter xs O1 need) (Os : Nat → Own) (ys : Nat → Option Im) (h0 : Os 0 = O1) (hn : ∀ k, k ≤ xs.length → need (Os k)) (hz : xs.length ≤ sizeLine)
    (turn : ∀ k x, xs[k]? = some x → CTurn X scope (own.map (·.2)) ρ (Os k) tg ifs elt x (ys k) (Os (k + 1))) (hd : (List.range xs.length).filterMap ys = ds.map .d) (hs : ∀ x, foldedSetIterable iter X.env x = pure x := by intro _; rfl) :
    Ev X ρ O (.ListComp elt [⟨tg, iter, ifs, 0⟩] scope pos) (iL ds) (Os xs.length) := by
  obtain ⟨wi, pi, k⟩ := lc_read (own := own) (scope := scope) hi Os ys h0 hn hz turn
  refine EW.mk ⟨_, pe_lc hc hN pi bk (gB_ok tg) (ttB_ok ifs) (teB_ok elt) hs, fun σ F H Q ok rho z => k σ F H _ ok rho fun D xs' F' H' ok' x' hD hp => ?_⟩
  exact z _ _ _ F' H' ⟨rfl, rfl⟩ ok' x' (mL hD (DtAll.of_im2 hd hp))
theorem filterMap_range_get {α β : Type} (f : α → Option β) : ∀ as : List α, (List.range as.length).filterMap (fun k => as[k]?.bind f) = as.filterMap f
  | [] => rfl
  | a :: as => by
    rw [List.length_cons, List.range_succ_eq_map, List.filterMap_cons, List.filterMap_map]
    have ih := filterMap_range_get f as
    have e : ((fun k => (a :: as)[k]?.bind f) ∘ Nat.succ) = fun k => as[k]?.bind f := by
      funext k
      simp [Function.comp]
    rw [e, ih, List.filterMap_cons]
    rfl
theorem filterMap_keep {α : Type} (keep : α → Bool) (g : α → PyData) (as : List α) : as.filterMap (fun a => if keep a = true then some (Im.d (g a)) else none) = ((as.filter keep).map g).map Im.d := by
  induction as with
  | nil => rfl
  | cons a as ih =>
    rw [List.filterMap_cons, List.filter_cons]
    cases h : keep a <;> simp [ih]
/-- the turns of a comprehension over typed items that changes no cell -/
def CPure (X : Cx) (scope : Scope) (vs : List Nat) (ρ : Ro) (O : Own) (tg : Expr) (ifs : List Expr) (elt : Expr) (x : Im) (keep : Bool) (y : PyData) : Prop :=
  ∃ ρ2, (Blk X scope fun X' => Eg X' vs (wipeR ρ vs) O tg x ρ2) ∧ (Blk X scope fun X' => IW X' ρ2 O ifs keep) ∧ (keep = true → Blk X scope fun X' => Ev X' ρ2 O elt (.d y) O)
theorem pure_turn {α : Type} {as : List α} {enc : α → Im} {keep : α → Bool} {g : α → PyData} {vs : List Nat} (turn : ∀ a, a ∈ as → CPure X scope vs ρ O tg ifs elt (enc a) (keep a) (g a)) :
    ∀ (k : Nat) (x : Im), (as.map enc)[k]? = some x → CTurn X scope vs ρ O tg ifs elt x ((fun k : Nat => as[k]?.bind fun a => if keep a = true then some (Im.d (g a)) else none) k) O := by
  intro k x hx
  rw [List.getElem?_map] at hx
  cases h : as[k]? with
  | none => rw [h] at hx; cases hx
  | some a =>
    rw [h] at hx; cases hx
    obtain ⟨ρ2, t1, t2, t3⟩ := turn a (List.mem_of_getElem? h)
    refine ⟨ρ2, keep a, t1, t2, fun q => ⟨?_, rfl⟩, fun q => ⟨.d (g a), ?_, t3 q⟩⟩
    · show (as[k]?.bind _) = none
      rw [h]; simp [q]
    · show (as[k]?.bind _) = some _
      rw [h]; simp [q]
theorem ev_lcF {α : Type} {as : List α} {enc : α → Im} {need : Own → Prop} (keep : α → Bool) (g : α → PyData) (hc : X.calm = true) (hN : X.N.Nodup) (bk : BlkOk X.N X.env.scope scope own) (hi : Itr X ρ O tg iter (as.map enc) O1 need) (hz : as.length ≤ sizeLine)
    (turn : ∀ a, a ∈ as → CPure X scope (own.map (·.2)) ρ O1 tg ifs elt (enc a) (keep a) (g a)) (hn : need O1 := by trivial) (hs : ∀ x, foldedSetIterable iter X.env x = pure x := by intro _; rfl) :
    Ev X ρ O (.ListComp elt [⟨tg, iter, ifs, 0⟩] scope pos) (iL ((as.filter keep).map g)) O1 :=
  ev_lc (own := own) hc hN bk hi (fun _ => O1) (fun k => as[k]?.bind fun a => if keep a = true then some (Im.d (g a)) else none) rfl (fun _ _ => hn) (by rw [List.length_map]; exact hz) (pure_turn turn) (by rw [List.length_map, filterMap_range_get, filterMap_keep]) hs
theorem ev_lcM {α : Type} {as : List α} {enc : α → Im} {need : Own → Prop} (g : α → PyData) (hc : X.calm = true) (hN : X.N.Nodup) (bk : BlkOk X.N X.env.scope scope own) (hi : Itr X ρ O tg iter (as.map enc) O1 need) (hz : as.length ≤ sizeLine)
    (turn : ∀ a, a ∈ as → ∃ ρ2, (Blk X scope fun X' => Eg X' (own.map (·.2)) (wipeR ρ (own.map (·.2))) O1 tg (enc a) ρ2) ∧ Blk X scope fun X' => Ev X' ρ2 O1 elt (.d (g a)) O1) (hn : need O1 := by trivial) (hs : ∀ x, foldedSetIterable iter X.env x = pure x := by intro _; rfl) :
    Ev X ρ O (.ListComp elt [⟨tg, iter, [], 0⟩] scope pos) (iL (as.map g)) O1 := by
  have h := ev_lcF (own := own) (pos := pos) (ifs := []) (fun _ => true) g hc hN bk hi hz (fun a ha => by
    obtain ⟨ρ2, t1, t2⟩ := turn a ha
    exact ⟨ρ2, t1, fun _ _ _ _ _ => iw_nil, fun _ => t2⟩) hn hs
  rw [List.filter_eq_self.mpr (fun _ _ => rfl)] at h
  exact h

/-! ### statements -/
variable {st : Stmt} {sts : List Stmt} {R : Out → Own → Prop}
theorem wps_nil (h : R (.nx ρ) O) : Wps X ρ O [] R := Wps.mk ⟨_, pss_nil, fun σ F H D ok rho z => z.nx _ _ σ F H h ok Ext.refl rho⟩
/-- what follows a statement -/
def thenR (X : Cx) (rest : List Stmt) (R : Out → Own → Prop) : Out → Own → Prop
  | .nx ρ, O => Wps X ρ O rest R
  | o, O => R o O
theorem wps_cons (h : Wp X ρ O st (thenR X sts R)) : Wps X ρ O (st :: sts) R := by
  obtain ⟨t, p, k⟩ := h.out
  refine Wps.mk ⟨_, pss_cons p (pss_self X sts), fun σ F H D ok rho z => k σ F H _ ok rho ⟨?_, ?_, ?_, ?_⟩⟩
  · intro ρ' O' σ' F' H' r ok' x' rho'
    exact (show Wps X ρ' O' sts R from r) σ' F' H' D ok' rho' (z.after x')
  · intro it O' v F' H' r ok' x' iv
    exact z.rt it O' v F' H' r ok' x' iv
  · intro ρ' O' σ' F' H' r ok' x' rho'
    exact z.bk ρ' O' σ' F' H' r ok' x' rho'
  · intro ρ' O' σ' F' H' r ok' x' rho'
    exact z.ct ρ' O' σ' F' H' r ok' x' rho'
theorem wps_one (h : Wp X ρ O st R) : Wps X ρ O [st] R := by
  obtain ⟨t, p, k⟩ := h.out
  exact Wps.mk ⟨_, pss_one p, k⟩
theorem wp_pass (h : R (.nx ρ) O) : Wp X ρ O (.Pass pos) R := Wp.mk ⟨_, ps_pass, fun σ F H D ok rho z => z.nx _ _ σ F H h ok Ext.refl rho⟩
theorem wp_break (h : R (.bk ρ) O) : Wp X ρ O (.Break pos) R := Wp.mk ⟨_, ps_break, fun σ F H D ok rho z => z.bk _ _ σ F H h ok Ext.refl rho⟩
theorem wp_continue (h : R (.ct ρ) O) : Wp X ρ O (.Continue pos) R := Wp.mk ⟨_, ps_continue, fun σ F H D ok rho z => z.ct _ _ σ F H h ok Ext.refl rho⟩
theorem wp_ret (h : EW X ρ O e fun it O' => R (.rt it) O') : Wp X ρ O (.Return (some e) pos) R := by
  obtain ⟨t, p, k⟩ := h.out
  exact Wp.mk ⟨_, ps_ret p, fun σ F H D ok rho z => k σ F H _ ok rho fun it O' v F' H' r ok' x' iv => z.rt it O' v F' H' r ok' x' iv⟩
theorem wp_retN (h : R (.rt iN) O) : Wp X ρ O (.Return none pos) R := Wp.mk ⟨_, ps_retN, fun σ F H D ok rho z => z.rt _ _ _ F H h ok Ext.refl mN⟩
theorem wp_expr (h : EW X ρ O e fun _ O' => R (.nx ρ) O') (hs : swapsWith e none pos.line X.env = pure false := by rfl) : Wp X ρ O (.Expr e pos) R := by
  obtain ⟨t, p, k⟩ := h.out
  exact Wp.mk ⟨_, ps_expr p hs, fun σ F H D ok rho z => k σ F H _ ok rho fun it O' v F' H' r ok' x' iv => z.nx _ _ σ F' H' r ok' x' (rho.mono x'.f)⟩
theorem wp_set (i : Nat) {x : Str} {pos' : Pos} (hN : X.N.Nodup) (h : EW X ρ O e fun it O' => R (.nx (ρ.set i (some it))) O') (hi : X.N[i]? = some x := by rfl) (hx : Loc X.env.scope x := by first | exact Or.inl rfl | exact Or.inr rfl) (hs : swapsWith e (some (.Name x pos')) pos.line X.env = pure false := by rfl)
    (hf : X.fn x = true ∨ X.env.scope.names.lookup x = some .local := by first | exact .inl rfl | exact .inr rfl) : Wp X ρ O (.Assign [.Name x pos'] e pos) R := by
  obtain ⟨t, p, k⟩ := h.out
  exact Wp.mk ⟨_, ps_set hN hi hx p hs hf, fun σ F H D ok rho z => k σ F H _ ok rho fun it O' v F' H' r ok' x' iv => z.nx _ _ _ F' H' r ok' x' ((rho.mono x'.f).set iv i)⟩
theorem wp_asg (h : EW X ρ O e fun it O' => Tgt X ρ O' tg it fun ρ' O'' => R (.nx ρ') O'') (hs : swapsWithSole [tg] e pos.line X.env = pure false := by rfl) (hw : swappedStores [tg] e X.env = pure none := by rfl) (h1 : (assignEach [tg] X.env).map (·.2) = [assign tg X.env] := by rfl) : Wp X ρ O (.Assign [tg] e pos) R := by
  obtain ⟨t, p, k⟩ := h.out
  exact Wp.mk ⟨_, ps_asg p (pg_self X tg) hs hw h1, fun σ F H D ok rho z => k σ F H _ ok rho fun it O' v F' H' r ok' x' iv =>
    r v σ F' H' _ ok' (rho.mono x'.f) iv fun ρ' O'' σ' F2 H2 r2 ok2 x2 rho2 => z.nx _ _ σ' F2 H2 r2 ok2 (x'.trans x2) rho2⟩
/-- a, b = x, y -/
theorem wp_par (i j : Nat) {x y : Str} {px py pt : Pos} {kt k2 : Nat} {pt2 : Pos} (hc : X.calm = true) (hN : X.N.Nodup) (h : AW X ρ O [a, b] fun is O' => ∃ v w, is = [v, w] ∧ R (.nx ((ρ.set i (some v)).set j (some w))) O')
    (hw : swappedStores [.Tuple [.Name x px, .Name y py] kt pt] (.Tuple [a, b] k2 pt2) X.env = pure (some [x, y]) := by rfl) (hi : X.N[i]? = some x := by rfl) (hj : X.N[j]? = some y := by rfl) (hij : i ≠ j := by decide) (hx : X.env.scope.names.lookup x = some .local := by rfl) (hy : X.env.scope.names.lookup y = some .local := by rfl)
    (hs : swapsWithSole [.Tuple [.Name x px, .Name y py] kt pt] (.Tuple [a, b] k2 pt2) pos.line X.env = pure false := by rfl) : Wp X ρ O (.Assign [.Tuple [.Name x px, .Name y py] kt pt] (.Tuple [a, b] k2 pt2) pos) R := by
  obtain ⟨t, p, k⟩ := h.out
  refine Wp.mk ⟨_, ps_par hc hN hi hj hij hx hy p hw hs, fun σ F H D ok rho z => k σ F H _ ok rho fun is O' vs F' H' r ok' x' iv => ?_⟩
  obtain ⟨i1, i2, rfl, r⟩ := r
  obtain ⟨v, w, rfl, j1, j2⟩ := pair2 iv
  exact ⟨v, w, rfl, z.nx _ _ _ F' H' r ok' x' (((rho.mono x'.f).set j1 i).set j2 j)⟩
/-- y = [..] on one line -/
theorem wp_setLc (i : Nat) {y : Str} {py spos : Pos} {xs : List Im} {need : Own → Prop} {ds : List PyData} (hc : X.calm = true) (hN : X.N.Nodup) (hsw : swapsWith (.ListComp elt [⟨tg, iter, ifs, 0⟩] scope pos) (some (.Name y py)) spos.line X.env = pure true) (bk : BlkOk X.N X.env.scope scope own)
    (hi : Itr X ρ O tg iter xs O1 need) (Os : Nat → Own) (ys : Nat → Option Im) (h0 : Os 0 = O1) (hn : ∀ k, k ≤ xs.length → need (Os k)) (hz : xs.length ≤ sizeLine)
    (turn : ∀ k x, xs[k]? = some x → CTurn X scope (own.map (·.2)) ρ (Os k) tg ifs elt x (ys k) (Os (k + 1))) (hd : (List.range xs.length).filterMap ys = ds.map .d) (hR : R (.nx (ρ.set i (some (iL ds)))) (Os xs.length))
    (hy : X.N[i]? = some y := by rfl) (hyl : X.env.scope.names.lookup y = some .local := by rfl) (hs : ∀ x, foldedSetIterable iter X.env x = pure x := by intro _; rfl) : Wp X ρ O (.Assign [.Name y py] (.ListComp elt [⟨tg, iter, ifs, 0⟩] scope pos) spos) R := by
  obtain ⟨wi, pi, k⟩ := lc_read (own := own) (scope := scope) hi Os ys h0 hn hz turn
  refine Wp.mk ⟨_, ps_setLc hc hN hy hyl hsw pi bk (gB_ok tg) (ttB_ok ifs) (teB_ok elt) hs, fun σ F H D ok rho z => k σ F H _ ok rho fun L xs' F' H' ok' x' hD hp => ?_⟩
  exact z.nx _ _ _ F' H' hR ok' x' ((rho.mono x'.f).set (mL hD (DtAll.of_im2 hd hp)) i)
theorem wp_setLcF {α : Type} {as : List α} {enc : α → Im} {need : Own → Prop} (i : Nat) {y : Str} {py spos : Pos} (keep : α → Bool) (g : α → PyData) (hc : X.calm = true) (hN : X.N.Nodup) (hsw : swapsWith (.ListComp elt [⟨tg, iter, ifs, 0⟩] scope pos) (some (.Name y py)) spos.line X.env = pure true) (bk : BlkOk X.N X.env.scope scope own)
    (hi : Itr X ρ O tg iter (as.map enc) O1 need) (hz : as.length ≤ sizeLine) (turn : ∀ a, a ∈ as → CPure X scope (own.map (·.2)) ρ O1 tg ifs elt (enc a) (keep a) (g a)) (hR : R (.nx (ρ.set i (some (iL ((as.filter keep).map g))))) O1)
    (hn : need O1 := by trivial) (hy : X.N[i]? = some y := by rfl) (hyl : X.env.scope.names.lookup y = some .local := by rfl) (hs : ∀ x, foldedSetIterable iter X.env x = pure x := by intro _; rfl) : Wp X ρ O (.Assign [.Name y py] (.ListComp elt [⟨tg, iter, ifs, 0⟩] scope pos) spos) R :=
  wp_setLc (own := own) i hc hN hsw bk hi (fun _ => O1) (fun k => as[k]?.bind fun a => if keep a = true then some (Im.d (g a)) else none) rfl (fun _ _ => hn) (by rw [List.length_map]; exact hz) (pure_turn turn) (by rw [List.length_map, filterMap_range_get, filterMap_keep]) hR hy hyl hs
theorem wp_setLcM {α : Type} {as : List α} {enc : α → Im} {need : Own → Prop} (i : Nat) {y : Str} {py spos : Pos} (g : α → PyData) (hc : X.calm = true) (hN : X.N.Nodup) (hsw : swapsWith (.ListComp elt [⟨tg, iter, [], 0⟩] scope pos) (some (.Name y py)) spos.line X.env = pure true) (bk : BlkOk X.N X.env.scope scope own)
    (hi : Itr X ρ O tg iter (as.map enc) O1 need) (hz : as.length ≤ sizeLine) (turn : ∀ a, a ∈ as → ∃ ρ2, (Blk X scope fun X' => Eg X' (own.map (·.2)) (wipeR ρ (own.map (·.2))) O1 tg (enc a) ρ2) ∧ Blk X scope fun X' => Ev X' ρ2 O1 elt (.d (g a)) O1)
    (hR : R (.nx (ρ.set i (some (iL (as.map g))))) O1)
    (hn : need O1 := by trivial) (hy : X.N[i]? = some y := by rfl) (hyl : X.env.scope.names.lookup y = some .local := by rfl) (hs : ∀ x, foldedSetIterable iter X.env x = pure x := by intro _; rfl) : Wp X ρ O (.Assign [.Name y py] (.ListComp elt [⟨tg, iter, [], 0⟩] scope pos) spos) R :=
  wp_setLcF (own := own) i (fun _ => true) g hc hN hsw bk hi hz (fun a ha => by
    obtain ⟨ρ2, t1, t2⟩ := turn a ha
    exact ⟨ρ2, t1, fun _ _ _ _ _ => iw_nil, fun _ => t2⟩) (by rw [List.filter_eq_self.mpr (fun _ _ => rfl)]; exact hR) hn hy hyl hs
theorem wp_if {t : Expr} {A B : List Stmt} {c : Bool} (h : Et X ρ O t c O1) (h1 : c = true → Wps X ρ O1 A R) (h2 : c = false → Wps X ρ O1 B R) : Wp X ρ O (.If t A B pos) R := by
  obtain ⟨tt, p, k⟩ := h.out
  refine Wp.mk ⟨_, ps_if p (pss_self X A) (pss_self X B), fun σ F H D ok rho z => k σ F H _ ok rho fun c' O' F1 H1 e ok1 x1 => ?_⟩
  obtain ⟨rfl, rfl⟩ := e
  cases c' with
  | true => exact iteT (h1 rfl σ F1 H1 D ok1 (rho.mono x1.f) (z.after x1))
  | false => exact iteF (h2 rfl σ F1 H1 D ok1 (rho.mono x1.f) (z.after x1))
/-- what a turn of a loop must reach -/
def turnR (Inv : Nat → Ro → Own → Prop) (k : Nat) (R : Out → Own → Prop) : Out → Own → Prop
  | .nx ρ, O => ∃ ρ', Le ρ' ρ ∧ Inv (k + 1) ρ' O
  | .ct ρ, O => ∃ ρ', Le ρ' ρ ∧ Inv (k + 1) ρ' O
  | .bk ρ, O => R (.nx ρ) O
  | .rt it, O => R (.rt it) O
theorem wp_for {xs : List Im} {need : Own → Prop} {body : List Stmt} (Iv : Nat → Ro → Own → Prop) (hp : PassesOwn (model X.prog X.w) X.A X.env X.xe) (hc : X.calm = true) (hi : Itr X ρ O tg iter xs O1 need) (h0 : ∃ ρ', Le ρ' ρ ∧ Iv 0 ρ' O1) (hn : ∀ k ρ O, k ≤ xs.length → Iv k ρ O → need O)
    (step : ∀ k x ρ O, xs[k]? = some x → Iv k ρ O → Tgt X ρ O tg x fun ρ' O' => Wps X ρ' O' body (turnR Iv k R)) (hd : ∀ ρ O, Iv xs.length ρ O → R (.nx ρ) O) (hs : ∀ x, foldedSetIterable iter X.env x = pure x := by intro _; rfl) : Wp X ρ O (.For tg iter body [] pos) R := by
  obtain ⟨wi, pi, ki⟩ := hi
  refine Wp.mk ⟨_, ps_for hp hc pi (pg_self X tg) (pss_self X body) hs, fun σ F H D ok rho z => ki σ F H _ ok rho fun J G Y F1 H1 ok1 x1 w hG hY => ?_⟩
  refine for_it w (fun k σ2 H2 => ∃ F2 ρ2 O2, Ok X.K F2 H2 O2 ∧ Ext F1 H1 O1 F2 H2 O2 ∧ Rho X.K F2 ρ2 σ2 ∧ Iv k ρ2 O2) ?_ ?_ ?_ ?_
  · obtain ⟨ρ', le, i0⟩ := h0
    exact ⟨F1, ρ', O1, ok1, Ext.refl, Rho.le le (rho.mono x1.f), i0⟩
  · rintro k σ2 H2 hk ⟨F2, ρ2, O2, ok2, x2, rho2, iv⟩
    exact hG F2 H2 _ x2.f ok2 (hn k _ _ hk iv)
  · rintro k x σ2 H2 H3 hk ⟨F2, ρ2, O2, ok2, x2, rho2, iv⟩ hy
    have hx : xs[k]? = some xs[k] := by simp [hk]
    obtain ⟨F3, ok3, x3, i3⟩ := hY k xs[k] F2 H2 _ x H3 hx x2.f ok2 (hn k _ _ (Nat.le_of_lt hk) iv) hy
    have x03 := (x1.trans x2).trans x3
    refine step k _ ρ2 O2 hx iv x σ2 F3 H3 _ ok3 (rho2.mono x3.f) i3 fun ρ4 O4 σ4 F4 H4 r4 ok4 x4 rho4 => ?_
    refine r4 σ4 F4 H4 _ ok4 rho4 ⟨?_, ?_, ?_, ?_⟩
    · rintro ρ5 O5 σ5 F5 H5 ⟨ρ6, le, iv6⟩ ok5 x5 rho5
      exact ⟨F5, ρ6, O5, ok5, ((x2.trans x3).trans x4).trans x5, Rho.le le rho5, iv6⟩
    · intro it O5 v F5 H5 r5 ok5 x5 iv5
      exact z.rt _ _ v F5 H5 r5 ok5 ((x03.trans x4).trans x5) iv5
    · intro ρ5 O5 σ5 F5 H5 r5 ok5 x5 rho5
      exact z.nx _ _ σ5 F5 H5 r5 ok5 ((x03.trans x4).trans x5) rho5
    · rintro ρ5 O5 σ5 F5 H5 ⟨ρ6, le, iv6⟩ ok5 x5 rho5
      exact ⟨F5, ρ6, O5, ok5, ((x2.trans x3).trans x4).trans x5, Rho.le le rho5, iv6⟩
  · rintro σ2 H2 ⟨F2, ρ2, O2, ok2, x2, rho2, iv⟩
    exact z.nx _ _ σ2 F2 H2 (hd _ _ iv) ok2 (x1.trans x2) rho2
/-- a while, by a word and a measure -/
def whileR (Iv : Nat → Ro → Own → Prop) (m : Nat) (R : Out → Own → Prop) : Out → Own → Prop
  | .nx ρ, O => ∃ m' ρ', m' < m ∧ Le ρ' ρ ∧ Iv m' ρ' O
  | .ct ρ, O => ∃ m' ρ', m' < m ∧ Le ρ' ρ ∧ Iv m' ρ' O
  | .bk ρ, O => R (.nx ρ) O
  | .rt it, O => R (.rt it) O
theorem wp_while {t : Expr} {body : List Stmt} (Iv : Nat → Ro → Own → Prop) (hp : PassesOwn (model X.prog X.w) X.A X.env X.xe) (h0 : ∃ m ρ', Le ρ' ρ ∧ Iv m ρ' O)
    (step : ∀ m ρ O, Iv m ρ O → ∃ b O', Et X ρ O t b O' ∧ (b = true → Wps X ρ O' body (whileR Iv m R)) ∧ (b = false → R (.nx ρ) O')) : Wp X ρ O (.While t body [] pos) R := by
  refine Wp.mk ⟨_, ps_while hp (pt_self X t) (pss_self X body), fun σ F H D ok rho z => ?_⟩
  obtain ⟨m0, ρ0, le0, iv0⟩ := h0
  refine ⟨fun m σ2 H2 => ∃ F2 ρ2 O2, Ok X.K F2 H2 O2 ∧ Ext F H O F2 H2 O2 ∧ Rho X.K F2 ρ2 σ2 ∧ Iv m ρ2 O2, ⟨m0, F, ρ0, O, ok, Ext.refl, Rho.le le0 rho, iv0⟩, ?_⟩
  rintro m σ2 H2 ⟨F2, ρ2, O2, ok2, x2, rho2, iv⟩
  obtain ⟨b, O', et, hb1, hb2⟩ := step m ρ2 O2 iv
  refine et σ2 F2 H2 _ ok2 rho2 fun b' O3 F3 H3 e ok3 x3 => ?_
  obtain ⟨rfl, rfl⟩ := e
  cases b' with
  | true =>
    refine iteT ⟨fun σ' H' => ∃ m', m' < m ∧ ∃ F2 ρ2 O2, Ok X.K F2 H' O2 ∧ Ext F H O F2 H' O2 ∧ Rho X.K F2 ρ2 σ' ∧ Iv m' ρ2 O2, fun σ' H' h => h, ?_⟩
    refine hb1 rfl σ2 F3 H3 _ ok3 (rho2.mono x3.f) ⟨?_, ?_, ?_, ?_⟩
    · rintro ρ5 O5 σ5 F5 H5 ⟨m', ρ6, hm, le, iv6⟩ ok5 x5 rho5
      exact ⟨m', hm, F5, ρ6, O5, ok5, (x2.trans x3).trans x5, Rho.le le rho5, iv6⟩
    · intro it O5 v F5 H5 r5 ok5 x5 iv5
      exact z.rt _ _ v F5 H5 r5 ok5 ((x2.trans x3).trans x5) iv5
    · intro ρ5 O5 σ5 F5 H5 r5 ok5 x5 rho5
      exact z.nx _ _ σ5 F5 H5 r5 ok5 ((x2.trans x3).trans x5) rho5
    · rintro ρ5 O5 σ5 F5 H5 ⟨m', ρ6, hm, le, iv6⟩ ok5 x5 rho5
      exact ⟨m', hm, F5, ρ6, O5, ok5, (x2.trans x3).trans x5, Rho.le le rho5, iv6⟩
  | false => exact iteF (z.nx _ _ σ2 F3 H3 (hb2 rfl) ok3 (x2.trans x3) (rho2.mono x3.f))
/-! ### owned lists change -/
theorem wp_append {l : Addr} {is : List Im} {apos cpos : Pos} (ha : Ev X ρ O a (iP l) O1) (hb : EW X ρ O1 b fun it O2 => ∃ is : List Im, O2 l = some (.lst is) ∧ is.length < sizeLine ∧ R (.nx ρ) (setO O2 l (.lst (is ++ [it])))) (hl : O1 l = some (.lst is))
    (hbase : attributeBase a "append" X.env (eval a X.env) = eval a X.env := by rfl)
    (hfew : ((backTo cpos (starEach [b] X.env)).all (fun x => !x.1) && (backToKw cpos (keywordEach [] X.env)).all (fun x => x.1.isSome) && decide ([b].length + ([] : List Keyword).length + (if ([] : List Keyword).isEmpty then 0 else 1) < 30)) = true := by rfl)
    (hline : (apos.endLine == cpos.line) = true := by rfl) (hs : starEach [b] X.env = (false, eval b X.env) :: starEach [] X.env := by rfl) (hplain : (backTo cpos (starEach [] X.env)).any (·.1) = false := by rfl)
    (hsw : swapsWith (.Call (.Attribute a "append" apos) [b] [] cpos) none pos.line X.env = pure false := by rfl) : Wp X ρ O (.Expr (.Call (.Attribute a "append" apos) [b] [] cpos) pos) R := by
  obtain ⟨t, p, k⟩ := ha.out
  obtain ⟨t2, p2, k2⟩ := hb.out
  refine Wp.mk ⟨_, ps_expr (pe_bm PySem.F.plainAttrs_list PySem.F.slot_list_append PySem.F.type_list_append mt_append p (pa_cons p2 pa_nil hs) hbase hfew hline hs hplain) hsw, fun σ F H D ok rho z => k σ F H _ ok rho fun it O' v F1 H1 e ok1 x1 i1 => ?_⟩
  obtain ⟨rfl, rfl⟩ := e
  have e1 : v = .ref l := of_imv i1
  subst e1
  obtain ⟨_, o, h1, q1⟩ := ok1.cell _ _ hl
  cases o <;> try exact q1.elim
  refine ⟨.inl ⟨rfl, _, SqL.of h1⟩, k2 σ F1 H1 _ ok1 (rho.mono x1.f) fun it O2 w F2 H2 r ok2 x2 i2 => ?_⟩
  obtain ⟨js, hl2, hz, r⟩ := r
  obtain ⟨_, o, h2, q2⟩ := ok2.cell _ _ hl2
  cases o <;> try exact q2.elim
  rename_i ws
  have q2' : Paired (ImOk X.K F2) js ws := q2
  refine ⟨l, ws, w, rfl, rfl, h2, by rw [← q2'.length]; exact hz, ?_⟩
  exact z.nx _ _ σ F2 _ r (ok2.set hl2 (show CellHO X.K F2 (.lst (js ++ [it])) (.lst (ws ++ [w])) from PairedIm.app q2' (.cons i2 .nil))) ((x1.trans x2).trans (Ext.set hl2)) (rho.mono (x1.trans x2).f)
theorem wp_extend {l : Addr} {is : List Im} {ds : List PyData} {apos cpos : Pos} (ha : Ev X ρ O a (iP l) O1) (hb : Ev X ρ O1 b (iL ds) O2) (hl : O1 l = some (.lst is)) (hl2 : O2 l = some (.lst is)) (hz : is.length + ds.length ≤ sizeLine) (hR : R (.nx ρ) (setO O2 l (.lst (is ++ ds.map .d))))
    (hbase : attributeBase a "extend" X.env (eval a X.env) = eval a X.env := by rfl)
    (hfew : ((backTo cpos (starEach [b] X.env)).all (fun x => !x.1) && (backToKw cpos (keywordEach [] X.env)).all (fun x => x.1.isSome) && decide ([b].length + ([] : List Keyword).length + (if ([] : List Keyword).isEmpty then 0 else 1) < 30)) = true := by rfl)
    (hline : (apos.endLine == cpos.line) = true := by rfl) (hs : starEach [b] X.env = (false, eval b X.env) :: starEach [] X.env := by rfl) (hplain : (backTo cpos (starEach [] X.env)).any (·.1) = false := by rfl)
    (hsw : swapsWith (.Call (.Attribute a "extend" apos) [b] [] cpos) none pos.line X.env = pure false := by rfl) : Wp X ρ O (.Expr (.Call (.Attribute a "extend" apos) [b] [] cpos) pos) R := by
  obtain ⟨t, p, k⟩ := ha.out
  obtain ⟨t2, p2, k2⟩ := hb.out
  refine Wp.mk ⟨_, ps_expr (pe_bm PySem.F.plainAttrs_list PySem.F.slot_list_extend PySem.F.type_list_extend mt_extend p (pa_cons p2 pa_nil hs) hbase hfew hline hs hplain) hsw, fun σ F H D ok rho z => k σ F H _ ok rho fun it O' v F1 H1 e ok1 x1 i1 => ?_⟩
  obtain ⟨rfl, rfl⟩ := e
  have e1 : v = .ref l := of_imv i1
  subst e1
  obtain ⟨_, o, h1, q1⟩ := ok1.cell _ _ hl
  cases o <;> try exact q1.elim
  refine ⟨.inl ⟨rfl, _, SqL.of h1⟩, k2 σ F1 H1 _ ok1 (rho.mono x1.f) fun it O3 w F2 H2 e ok2 x2 i2 => ?_⟩
  obtain ⟨rfl, rfl⟩ := e
  obtain ⟨m, ys, rfl, h3, q3⟩ := imL i2
  obtain ⟨_, o, h2, q2⟩ := ok2.cell _ _ hl2
  cases o <;> try exact q2.elim
  rename_i ws
  have q2' : Paired (ImOk X.K F2) is ws := q2
  refine ⟨l, m, ws, ys, rfl, rfl, h2, ok2.same _ _ h3, by rw [← q2'.length, q3.len]; exact hz, ?_⟩
  exact z.nx _ _ σ F2 _ hR (ok2.set hl2 (show CellHO X.K F2 (.lst (is ++ ds.map .d)) (.lst (ws ++ ys)) from PairedIm.app q2' (DtAll.im q3))) ((x1.trans x2).trans (Ext.set hl2)) (rho.mono (x1.trans x2).f)
/-- o[i] = .., o an owned list -/
theorem tgt_sub {l : Addr} {is : List Im} {i : Int} {j : Nat} {it : Im} {Q : Ro → Own → Prop} (ha : Ev X ρ O a (iP l) O1) (hb : Ev X ρ O1 b (iI i) O2) (hl : O2 l = some (.lst is)) (hj : ixN is.length i = some j) (hQ : Q ρ (setO O2 l (.lst (is.set j it))))
    (hsub : ∀ v, assign (.Subscript a b pos) X.env v = (do
      let ov ← holding [v] (eval a X.env)
      let iv ← holding [v, ov] (eval b X.env)
      standAt pos
      holding [v, ov, iv] (setItem ov iv v)
      release [v, ov, iv] []) := by intro _; rfl) : Tgt X ρ O (.Subscript a b pos) it Q := by
  obtain ⟨t, p, k⟩ := ha.out
  obtain ⟨t2, p2, k2⟩ := hb.out
  refine Tgt.mk ⟨_, pg_sub p p2 set_list hsub, fun v σ F H Q' ok rho iv z => k σ F H _ ok rho fun it' O' u F1 H1 e ok1 x1 i1 => ?_⟩
  obtain ⟨rfl, rfl⟩ := e
  refine k2 σ F1 H1 _ ok1 (rho.mono x1.f) fun it2 O3 w F2 H2 e ok2 x2 i2 => ?_
  obtain ⟨rfl, rfl⟩ := e
  have e1 : u = .ref l := of_imv i1
  subst e1
  rw [imI i2]
  obtain ⟨_, o, h2, q2⟩ := ok2.cell _ _ hl
  cases o <;> try exact q2.elim
  rename_i ws
  have q2' : Paired (ImOk X.K F2) is ws := q2
  refine ⟨l, ws, i, j, rfl, rfl, h2, by rw [← q2'.length]; exact hj, ?_⟩
  exact z _ _ σ F2 _ hQ (ok2.set hl (show CellHO X.K F2 (.lst (is.set j it)) (.lst (ws.set j v)) from PairedIm.set (iv.mono (x1.trans x2).f) j q2')) ((x1.trans x2).trans (Ext.set hl)) (rho.mono (x1.trans x2).f)
/-- an owned list of data is laid for good: from here on its name stands for data -/
theorem wps_freeze {i : Nat} {l : Addr} {ds : List PyData} (hl : O l = some (.lst (ds.map .d))) (hi : ρ[i]? = some (some (iP l))) (h : Wps X (ρ.set i (some (iL ds))) (delO O l) sts R) : Wps X ρ O sts R := by
  intro σ F H D ok rho z
  obtain ⟨o, hH, hc, ok', x', s⟩ := ok.freeze hl
  cases o <;> try exact hc.elim
  rename_i ws
  have q : Paired (ImOk X.K F) (ds.map .d) ws := hc
  obtain ⟨v, hv, iv⟩ := rho.get hi
  have e1 : v = .ref l := of_imv iv
  subst e1
  have rho' : Rho X.K (upd F l (.lst ws)) (ρ.set i (some (iL ds))) (σ.set i (some (.ref l))) := (rho.mono s).set (mL upd_same (DtAll.mono s (DtAll.of_im q))) i
  have e2 : σ.set i (some (.ref l)) = σ := by
    apply List.ext_getElem?
    intro j
    by_cases hj : j = i
    · subst hj
      have hlt : j < σ.length := (List.getElem?_eq_some_iff.mp hv).1
      rw [List.getElem?_set_self hlt, hv]
    · rw [List.getElem?_set_ne (Ne.symm hj)]
  rw [e2] at rho'
  exact h σ _ H D ok' rho' (z.after x')
/-- the same at an expression: an owned list of data, read as data -/
theorem ew_freeze {l : Addr} {ds : List PyData} {R : EQ} (ha : Ev X ρ O e (iP l) O1) (hl : O1 l = some (.lst (ds.map .d))) (hR : R (iL ds) (delO O1 l)) : EW X ρ O e R := by
  intro σ F H Q ok rho z
  refine ha σ F H Q ok rho fun it O' v F1 H1 e ok1 x1 i1 => ?_
  obtain ⟨rfl, rfl⟩ := e
  obtain ⟨o, hH, hc, ok', x', s⟩ := ok1.freeze hl
  cases o <;> try exact hc.elim
  rename_i ws
  have q : Paired (ImOk X.K F1) (ds.map .d) ws := hc
  have e1 : v = .ref l := of_imv i1
  subst e1
  exact z _ _ _ _ _ hR ok' (x1.trans x') (mL upd_same (DtAll.mono s (DtAll.of_im q)))
end
end AL

/-! AL5: defs, calls, methods, properties, fields, instances. -/
namespace AL
open PySem PySem.Spec PyProof.Rows L2
/-- what a def promises: called with such items and cells, what it gives and leaves has what is wanted -/
abbrev Pr := List Im → Own → (Im → Own → Prop) → Prop
def spA (K : PySem.W.Frag) (p : Pr) : Sp := fun vs H Q _ => ∃ F O is R, Ok K F H O ∧ Paired (ImOk K F) is vs ∧ p is O R ∧ ∀ it O' v F' H', R it O' → Ok K F' H' O' → Ext F H O F' H' O' → ImOk K F' it v → Q v H'
section
variable (P : Program) (w : World) (K : PySem.W.Frag) (mg : Str → Option Value) (base : Heap) (k : Nat)
structure Fn (x : Str) (p : Pr) : Prop where
  ex : ∃ f, FnR P w K mg base CX0 k f (spA K p) ∧ PySem.W.keepIn K (.ref f) = true ∧ mg x = some (.ref f)
structure Mt (C : Addr) (m : Str) (p : Pr) : Prop where
  ex : ∃ f, FnR P w K mg base CX0 k f (spA K p) ∧ Meth K C m f
structure Pp (C : Addr) (m : Str) (p : Pr) : Prop where
  ex : ∃ q g, FnR P w K mg base CX0 k g (spA K p) ∧ PropOf K C m q g
structure Mr (x : Str) (C : Addr) (p : Pr) : Prop where
  ex : ∃ f, FnR P w K mg base CX0 k f (spA K p) ∧ Mk K C f ∧ mg x = some (.ref C)
end
section
variable {P : Program} {w : World} {K : PySem.W.Frag} {mg : Str → Option Value} {base : Heap} {k j : Nat} {x : Str} {p : Pr} {C : Addr}
theorem Fn.mono (h : Fn P w K mg base k x p) (l : k ≤ j) : Fn P w K mg base j x p := by
  obtain ⟨f, a, b⟩ := h.ex
  exact ⟨f, a.mono l, b⟩
theorem Mt.mono (h : Mt P w K mg base k C x p) (l : k ≤ j) : Mt P w K mg base j C x p := by
  obtain ⟨f, a, b⟩ := h.ex
  exact ⟨f, a.mono l, b⟩
theorem Pp.mono (h : Pp P w K mg base k C x p) (l : k ≤ j) : Pp P w K mg base j C x p := by
  obtain ⟨q, f, a, b⟩ := h.ex
  exact ⟨q, f, a.mono l, b⟩
theorem Mr.mono (h : Mr P w K mg base k x C p) (l : k ≤ j) : Mr P w K mg base j x C p := by
  obtain ⟨f, a, b⟩ := h.ex
  exact ⟨f, a.mono l, b⟩
theorem spA_imp {p q : Pr} (h : ∀ is O R, q is O R → p is O R) (vs : List V) (H : Hp) (Q : VK) (E : XK) (s : spA K q vs H Q E) : spA K p vs H Q E := by
  obtain ⟨F, O, is, R, ok, iv, hp, z⟩ := s
  exact ⟨F, O, is, R, ok, iv, h _ _ _ hp, z⟩
theorem Fn.imp {q : Pr} (f : Fn P w K mg base k x p) (h : ∀ is O R, q is O R → p is O R) : Fn P w K mg base k x q := by
  obtain ⟨f, a, b⟩ := f.ex
  exact ⟨f, a.imp (spA_imp h), b⟩
theorem Mt.imp {q : Pr} (f : Mt P w K mg base k C x p) (h : ∀ is O R, q is O R → p is O R) : Mt P w K mg base k C x q := by
  obtain ⟨f, a, b⟩ := f.ex
  exact ⟨f, a.imp (spA_imp h), b⟩
/-! ### a def keeps its promise by its body -/
/-- how the body's end is handed on -/
def bodyR (R : Im → Own → Prop) : Out → Own → Prop
  | .nx _, O => R iN O
  | .rt it, O => R it O
  | _, _ => False
/-- the slots at a def's start -/
def beg (N : List Str) (is : List Im) : Ro := is.map some ++ List.replicate (N.length - is.length) none
abbrev cx (P : Program) (w : World) (K : PySem.W.Frag) (mg : Str → Option Value) (base : Heap) (N : List Str) (qual : Str) (scope : Scope) (f : Addr) (cd : Value) (A : Around) (outer : List Env) (s : Shared) (H : Hp) (E : XK) : Cx :=
  (cxOf CX0 P w K mg base N qual scope f cd A outer s H E).nox
theorem fnr_def {name qual : Str} {params : Arguments} {body : List Stmt} {scope : Scope} {f : Addr} {fd : FuncData} {N ps : List Str} (F : FunD K name qual params body scope [] [] f fd) (S : FnScope N ps scope)
    (hb : ∀ (kV doc pm : Value) (an : Option Addr) (cdv ct : Value) (us : List Value), us.length = ps.length → bindArgs (PySem.W.fnOf name qual params body scope .none kV doc pm an cdv ct) ⟨us, []⟩ = pure (ps.zip us))
    (len : ∀ is O R, p is O R → is.length = ps.length)
    (hbody : ∀ cdv A outer s H E is O R, Room k (A.deeper (envOfC qual scope s.heap.objs.size f cdv)) → p is O R → Wps (cx P w K mg base N qual scope f cdv A outer s H E) (beg N is) O body (bodyR R)) : FnR P w K mg base CX0 (k + 1) f (spA K p) := by
  have h : FnOk P w K mg base CX0 (k + 1) f fd ps (spA K p) := by
    refine F.ok S (fun vs H Q E h => ?_) (fun cdv A outer s H vs Q E hr h => ?_)
    · obtain ⟨F0, O, is, R, ok, iv, hp, _⟩ := h
      rw [← iv.length]
      exact len _ _ _ hp
    · obtain ⟨F0, O, is, R, ok, iv, hp, z⟩ := h
      obtain ⟨t, pt, kt⟩ := (hbody cdv A outer s H E is O R hr hp).out
      refine ⟨t, pt.nox, kt _ F0 H _ ok (Rho.start iv) ⟨?_, ?_, ?_, ?_⟩⟩
      · intro ρ' O' σ' F' H' r ok' x' _
        exact z _ _ _ F' H' r ok' x' mN
      · intro it O' v F' H' r ok' x' iv
        exact z _ _ _ F' H' r ok' x' iv
      · intro ρ' O' σ' F' H' r _ _ _
        exact r.elim
      · intro ρ' O' σ' F' H' r _ _ _
        exact r.elim
  have b := F.bindsN hb
  refine (h.raw (ds := []) (dvs := []) b .nil).imp fun vs H Q E q => ?_
  rw [List.append_nil]
  exact q
/-- def f(a, .., *v) -/
theorem fnr_star {name qual : Str} {params : Arguments} {body : List Stmt} {scope : Scope} {f : Addr} {fd : FuncData} {N ps : List Str} {pv : Str} (F : FunD K name qual params body scope [] [] f fd) (S : FnScope N (ps ++ [pv]) scope)
    (hb : ∀ (kV doc pm : Value) (an : Option Addr) (cdv ct : Value) (us rest : List Value), us.length = ps.length → bindArgs (PySem.W.fnOf name qual params body scope .none kV doc pm an cdv ct) ⟨us ++ rest, []⟩ = (newTuple rest >>= fun t => pure (ps.zip us ++ [(pv, t)])))
    (len : ∀ is O R, p is O R → ps.length ≤ is.length ∧ is.length ≤ sizeLine)
    (hbody : ∀ cdv A outer s H E is rest O R, Room k (A.deeper (envOfC qual scope s.heap.objs.size f cdv)) → is.length = ps.length → p (is ++ rest) O R → Wps (cx P w K mg base N qual scope f cdv A outer s H E) (beg N (is ++ [.t rest])) O body (bodyR R)) : FnR P w K mg base CX0 (k + 1) f (spA K p) := by
  obtain ⟨oc, od, dV, kV, doc, pm, an, cdv, ct, osl, rfl, lk, hcd, hD, _⟩ := F.ex
  rcases hD with ⟨_, rfl⟩ | ⟨e, _⟩
  · refine (StX.fn_star (sp := fun vs H Q E => ∃ F0 O is rest R, Ok K F0 H O ∧ is.length = ps.length ∧ Paired (ImOk K F0) (is ++ [.t rest]) vs ∧ p (is ++ rest) O R ∧ ∀ it O' v F' H', R it O' → Ok K F' H' O' → Ext F0 H O F' H' O' → ImOk K F' it v → Q v H') lk hcd S StX.cxUp_none (hb kV doc pm an cdv ct) (fun A outer s H vs Q E hr h => ?_)).imp fun vs H Q E h => ?_
    · obtain ⟨F0, O, is, rest, R, ok, hl, iv, hp, z⟩ := h
      obtain ⟨t, pt, kt⟩ := (hbody cdv A outer s H E is rest O R hr hl hp).out
      refine ⟨t, pt.nox, kt _ F0 H _ ok (Rho.start iv) ⟨?_, ?_, ?_, ?_⟩⟩
      · intro ρ' O' σ' F' H' r ok' x' _
        exact z _ _ _ F' H' r ok' x' mN
      · intro it O' v F' H' r ok' x' iv
        exact z _ _ _ F' H' r ok' x' iv
      · intro ρ' O' σ' F' H' r _ _ _
        exact r.elim
      · intro ρ' O' σ' F' H' r _ _ _
        exact r.elim
    · obtain ⟨F0, O, is, R, ok, iv, hp, z⟩ := h
      obtain ⟨l1, l2⟩ := len _ _ _ hp
      have lv := iv.length
      have split : ∀ {n : Nat} {is : List Im} {vs : List V}, Paired (ImOk K F0) is vs → Paired (ImOk K F0) (is.take n) (vs.take n) ∧ Paired (ImOk K F0) (is.drop n) (vs.drop n) := by
        intro n
        induction n with
        | zero => intro is vs h; exact ⟨by simp; exact .nil, h⟩
        | succ n ih =>
          intro is vs h
          cases h with
          | nil => exact ⟨.nil, .nil⟩
          | cons a t => exact ⟨.cons a (ih t).1, (ih t).2⟩
      obtain ⟨i1, i2⟩ := split (n := ps.length) iv
      refine ⟨vs.take ps.length, vs.drop ps.length, (List.take_append_drop _ _).symm, by rw [List.length_take]; omega, by rw [List.length_drop]; omega, fun q hq => ?_⟩
      refine ⟨_, O, is.take ps.length, is.drop ps.length, R, ok.lay hq, by rw [List.length_take]; omega, PairedIm.app (PairedIm.mono (same_lay ok hq) i1) (.cons (imt upd_same (PairedIm.mono (same_lay ok hq) i2)) .nil), by rw [List.take_append_drop]; exact hp, fun it O' v F' H' r ok' x' iv' => ?_⟩
      exact z it O' v F' H' r ok' ((Ext.lay ok hq).trans x') iv'
  · exact absurd rfl e
end
section
variable {X : Cx} {ρ : Ro} {O O1 O2 O3 : Own} {pos pp apos : Pos} {a b e o : Expr} {es : List Expr} {k : Nat} {x m f : Str} {p : Pr} {C : Addr} {R : EQ}
/-! ### calls -/
/-- what comes back from a callee -/
theorem spA_run {F H : Hp} {is : List Im} {vs : List V} {Q : VK} {E : XK} {K : PySem.W.Frag} (ok : Ok K F H O) (iv : Paired (ImOk K F) is vs) (hp : p is O R) (z : ∀ it O' v F' H', R it O' → Ok K F' H' O' → Ext F H O F' H' O' → ImOk K F' it v → Q v H') : spA K p vs H Q E :=
  ⟨F, O, is, R, ok, iv, hp, z⟩
theorem ew_call (g : Fn X.prog X.w X.K X.mg X.base k x p) (hr : Room k X.A) (ha : AW X ρ O (e :: es) fun is O1 => p is O1 R) (hg : Gl X x := by rfl) (hd : (x == ("__debug__" : Str)) = false := by decide)
    (he : starEach (e :: es) X.env = (false, eval e X.env) :: starEach es X.env := by rfl) (hpl : (backTo pos (starEach es X.env)).any (·.1) = false := by rfl) : EW X ρ O (.Call (.Name x pp) (e :: es) [] pos) R := by
  obtain ⟨f, F, hk, hm⟩ := g.ex
  obtain ⟨t, pa, kt⟩ := ha.out
  have hx : Passes CX0 X E0 := pass0
  refine EW.mk ⟨fun σ H Q => t σ H fun vs H1 => spA X.K p vs H1 Q E0, ⟨fun pins s σ H Q I h => ?_⟩, fun σ F0 H Q ok rho z => kt σ F0 H _ ok rho fun is O1 vs F1 H1 r ok1 x1 i1 => ?_⟩
  · refine wpAny_Call_Name_kw (ld_glob I hg hm ?_ hd)
    refine PySem.W.callWith_K (h₀ := X.base) I.ok.mod.kin hk (thn (pa.run pos pins s σ H _ I h) fun us s1 ⟨vs, H1, I1, r, q⟩ => ⟨I1.kIn, ?_⟩) he hpl
    exact wpAny_call (run_fnR F hr hx I1 r q)
  · exact spA_run ok1 i1 r fun it O' v F' H' r' ok' x' iv' => z it O' v F' H' r' ok' (x1.trans x') iv'
/-- a def without parameters -/
theorem ew_call0 (g : Fn X.prog X.w X.K X.mg X.base k x p) (hr : Room k X.A) (hp : p [] O R) (hg : Gl X x := by rfl) (hd : (x == ("__debug__" : Str)) = false := by decide) : EW X ρ O (.Call (.Name x pp) [] [] pos) R := by
  obtain ⟨f, F, hk, hm⟩ := g.ex
  have hx : Passes CX0 X E0 := pass0
  refine EW.mk ⟨fun σ H Q => spA X.K p [] H Q E0, ⟨fun pins s σ H Q I h => ?_⟩, fun σ F0 H Q ok rho z => spA_run ok .nil hp fun it O' v F' H' r' ok' x' iv' => z it O' v F' H' r' ok' x' iv'⟩
  refine wpAny_Call_Name_kw (ld_glob I hg hm ?_ hd)
  exact PySem.W.callWith_K0 I.kIn hk (wpAny_call (run_fnR (us := []) F hr hx I .nil h))
/-! ### instances -/
theorem insP {K : PySem.W.Frag} {F H : Hp} {l dx : Addr} {fs : List (Str × Im)} (ok : Ok K F H O) (h : O l = some (.ins C dx fs)) : ∃ gs, H l = some (.ins C dx gs) ∧ Paired (fun (p : Str × Im) (q : Str × V) => p.1 = q.1 ∧ ImOk K F p.2 q.2) fs gs := by
  obtain ⟨_, o, h1, q⟩ := ok.cell _ _ h
  cases o <;> try exact q.elim
  obtain ⟨rfl, rfl, q⟩ := q
  exact ⟨_, h1, q⟩
theorem pair_lookup {K : PySem.W.Frag} {F : Hp} : ∀ {fs : List (Str × Im)} {gs : List (Str × V)} {m : Str}, Paired (fun (p : Str × Im) (q : Str × V) => p.1 = q.1 ∧ ImOk K F p.2 q.2) fs gs → (fs.lookup m = none → gs.lookup m = none) ∧ ∀ it, fs.lookup m = some it → ∃ v, gs.lookup m = some v ∧ ImOk K F it v
  | _, _, _, .nil => ⟨fun _ => rfl, fun _ h => by cases h⟩
  | (n, i) :: fs, (n', v) :: gs, m, .cons ⟨e, h⟩ t => by
    have e' : n = n' := e
    subst e'
    obtain ⟨i1, i2⟩ := pair_lookup (m := m) t
    cases q : (m == n) with
    | true => exact ⟨fun z => by simp [List.lookup, q] at z, fun it z => by
        simp only [List.lookup, q] at z ⊢
        cases z
        exact ⟨v, rfl, h⟩⟩
    | false => exact ⟨fun z => by simp only [List.lookup, q] at z ⊢; exact i1 z, fun it z => by simp only [List.lookup, q] at z ⊢; exact i2 it z⟩
def putI (f : Str) (v : Im) : List (Str × Im) → List (Str × Im)
  | [] => [(f, v)]
  | (g, x) :: r => if g = f then (g, v) :: r else (g, x) :: putI f v r
theorem pair_put {K : PySem.W.Frag} {F : Hp} {f : Str} {i : Im} {v : V} (h : ImOk K F i v) : ∀ {fs : List (Str × Im)} {gs : List (Str × V)}, Paired (fun (p : Str × Im) (q : Str × V) => p.1 = q.1 ∧ ImOk K F p.2 q.2) fs gs → Paired (fun (p : Str × Im) (q : Str × V) => p.1 = q.1 ∧ ImOk K F p.2 q.2) (putI f i fs) (putF f v gs)
  | _, _, .nil => .cons ⟨rfl, h⟩ .nil
  | (n, x) :: fs, (n', y) :: gs, .cons ⟨e, q⟩ t => by
    have e' : n = n' := e
    subst e'
    unfold putI putF
    by_cases z : n = f
    · rw [if_pos z, if_pos z]; exact .cons ⟨rfl, h⟩ t
    · rw [if_neg z, if_neg z]; exact .cons ⟨rfl, q⟩ (pair_put h t)
theorem ev_fld {l dx : Addr} {fs : List (Str × Im)} {it : Im} (ho : Ev X ρ O o (iP l) O1) (c : Cls X.K C) (n : NoAttr X.K C f) (hl : O1 l = some (.ins C dx fs)) (h : fs.lookup f = some it) (hb : attributeBase o f X.env (eval o X.env) = eval o X.env := by rfl) : Ev X ρ O (.Attribute o f pos) it O1 := by
  obtain ⟨t, pt, kt⟩ := ho.out
  refine EW.mk ⟨_, pe_fld pt hb, fun σ F H Q ok rho z => kt σ F H _ ok rho fun it' O' v F1 H1 e ok1 x1 i1 => ?_⟩
  obtain ⟨rfl, rfl⟩ := e
  have e1 : v = .ref l := of_imv i1
  subst e1
  obtain ⟨gs, h1, q1⟩ := insP ok1 hl
  obtain ⟨u, h2, q2⟩ := (pair_lookup q1).2 _ h
  exact ⟨l, C, dx, gs, u, rfl, h1, c, n, h2, z _ _ _ F1 H1 ⟨rfl, rfl⟩ ok1 x1 q2⟩
/-- o.f = e -/
theorem wp_fld {l dx : Addr} {pos' : Pos} {R : Out → Own → Prop} (hv : EW X ρ O e fun it O1 => Ev X ρ O1 o (iP l) O1 ∧ ∃ fs : List (Str × Im), O1 l = some (.ins C dx fs) ∧ fs.length < 1000 ∧ R (.nx ρ) (setO O1 l (.ins C dx (putI f it fs)))) (c : Cls X.K C) (n : NoAttr X.K C f)
    (hs : swapsWith e (some (.Attribute o f pos')) pos.line X.env = pure false := by rfl) : Wp X ρ O (.Assign [.Attribute o f pos'] e pos) R := by
  obtain ⟨t, pt, kt⟩ := hv.out
  refine Wp.mk ⟨_, ps_fld (pe_self X o) pt hs, fun σ F H D ok rho z => kt σ F H _ ok rho fun it O1 v F1 H1 r ok1 x1 i1 => ?_⟩
  obtain ⟨ho, fs, hl, hz, r⟩ := r
  refine ho σ F1 H1 _ ok1 (rho.mono x1.f) fun it' O2 w F2 H2 e ok2 x2 i2 => ?_
  obtain ⟨rfl, rfl⟩ := e
  have e1 : w = .ref l := of_imv i2
  subst e1
  obtain ⟨gs, h1, q1⟩ := insP ok2 hl
  have hlen : gs.length = fs.length := q1.length.symm
  refine ⟨l, C, dx, gs, rfl, h1, c, n, by omega, ?_⟩
  exact z.nx _ _ σ F2 _ r (ok2.set hl (show CellHO X.K F2 (.ins C dx (putI f it fs)) (.ins C dx (putF f v gs)) from ⟨rfl, rfl, pair_put (i1.mono x2.f) q1⟩)) ((x1.trans x2).trans (Ext.set hl)) (rho.mono (x1.trans x2).f)
/-- o.m(e, ..) -/
theorem ew_meth {l dx : Addr} {fs : List (Str × Im)} {pl : Sem Bool} (g : Mt X.prog X.w X.K X.mg X.base k C m p) (c : Cls X.K C) (hr : Room k X.A) (ho : Ev X ρ O o (iP l) O1) (hl : O1 l = some (.ins C dx fs)) (hm : fs.lookup m = none) (ha : AW X ρ O1 (e :: es) fun is O2 => p (iP l :: is) O2 R)
    (hst : starEach (e :: es) X.env = (false, eval e X.env) :: starEach es X.env := by rfl) (hpl : (backTo pos (starEach es X.env)).any (·.1) = false := by rfl)
    (ht : eval (.Call (.Attribute o m apos) (e :: es) [] pos) X.env = (do
      let ov ← eval o X.env
      standAt apos.atName
      let (f, first) ← holding [ov] (getMethod ov m pl)
      callWith pos f first (backTo pos (starEach (e :: es) X.env)) (backToKw pos (keywordEach [] X.env))) := by rfl) : EW X ρ O (.Call (.Attribute o m apos) (e :: es) [] pos) R := by
  obtain ⟨f, F, M⟩ := g.ex
  obtain ⟨t, pt, kt⟩ := ho.out
  obtain ⟨t2, pt2, kt2⟩ := ha.out
  have hx : Passes CX0 X E0 := pass0
  refine EW.mk ⟨_, pe_methR pt c M F hr hx pt2 hst hpl ht, fun σ F0 H Q ok rho z => kt σ F0 H _ ok rho fun it' O' v F1 H1 e ok1 x1 i1 => ?_⟩
  obtain ⟨rfl, rfl⟩ := e
  have e1 : v = .ref l := of_imv i1
  subst e1
  obtain ⟨gs, h1, q1⟩ := insP ok1 hl
  refine ⟨l, dx, gs, rfl, h1, (pair_lookup q1).1 hm, kt2 σ F1 H1 _ ok1 (rho.mono x1.f) fun is O2 vs F2 H2 r ok2 x2 i2 => ?_⟩
  exact spA_run ok2 (.cons imv i2) r fun it O' v F' H' r' ok' x' iv' => z it O' v F' H' r' ok' ((x1.trans x2).trans x') iv'
theorem ew_meth0 {l dx : Addr} {fs : List (Str × Im)} {pl : Sem Bool} (g : Mt X.prog X.w X.K X.mg X.base k C m p) (c : Cls X.K C) (hr : Room k X.A) (ho : Ev X ρ O o (iP l) O1) (hl : O1 l = some (.ins C dx fs)) (hm : fs.lookup m = none) (hp : p [iP l] O1 R)
    (ht : eval (.Call (.Attribute o m apos) [] [] pos) X.env = (do
      let ov ← eval o X.env
      standAt apos.atName
      let (f, first) ← holding [ov] (getMethod ov m pl)
      callWith pos f first (backTo pos (starEach [] X.env)) (backToKw pos (keywordEach [] X.env))) := by rfl) : EW X ρ O (.Call (.Attribute o m apos) [] [] pos) R := by
  obtain ⟨f, F, M⟩ := g.ex
  obtain ⟨t, pt, kt⟩ := ho.out
  have hx : Passes CX0 X E0 := pass0
  refine EW.mk ⟨fun σ H Q => t σ H fun x H1 => ∃ a dx fs, x = .ref a ∧ H1 a = some (.ins C dx fs) ∧ fs.lookup m = none ∧ spA X.K p [x] H1 Q E0, ⟨fun pins s σ H Q I h => ?_⟩, fun σ F0 H Q ok rho z => kt σ F0 H _ ok rho fun it' O' v F1 H1 e ok1 x1 i1 => ?_⟩
  · refine PySem.W.methodCall_KW (pl := pl) (thn (pt.run pins s σ H _ I h) fun u s1 ⟨x, H1, I1, rx, a, dx, fs, ex, ea, l, q⟩ => ?_) ht
    subst ex
    obtain rfl : u = Value.ref a := rx
    refine getmeth_ok I1 ea c M l ?_
    exact PySem.W.callWith_K0 (first := [.ref a]) I1.kIn M.kp (wpAny_call (run_fnR (us := [.ref a]) (vs := [.ref a]) F hr hx I1 (.cons rfl .nil) q))
  · obtain ⟨rfl, rfl⟩ := e
    have e1 : v = .ref l := of_imv i1
    subst e1
    obtain ⟨gs, h1, q1⟩ := insP ok1 hl
    exact ⟨l, dx, gs, rfl, h1, (pair_lookup q1).1 hm, spA_run ok1 (.cons imv .nil) hp fun it O' v F' H' r' ok' x' iv' => z it O' v F' H' r' ok' (x1.trans x') iv'⟩
/-- o.f, a property -/
theorem ew_prop {l dx : Addr} {fs : List (Str × Im)} (g : Pp X.prog X.w X.K X.mg X.base k C f p) (c : Cls X.K C) (hr : Room (k + 1) X.A) (ho : Ev X ρ O o (iP l) O1) (hl : O1 l = some (.ins C dx fs)) (hp : p [iP l] O1 R) (hb : attributeBase o f X.env (eval o X.env) = eval o X.env := by rfl) : EW X ρ O (.Attribute o f pos) R := by
  obtain ⟨q0, gf, F, M⟩ := g.ex
  obtain ⟨t, pt, kt⟩ := ho.out
  have hx : Passes CX0 X.nox E0 := pass0
  refine EW.mk ⟨fun σ H Q => t σ H fun x H1 => ∃ a dx fs, x = .ref a ∧ H1 a = some (.ins C dx fs) ∧ spA X.K p [.ref a] H1 Q E0, ⟨fun pins s σ H Q I h => ?_⟩, fun σ F0 H Q ok rho z => kt σ F0 H _ ok rho fun it' O' v F1 H1 e ok1 x1 i1 => ?_⟩
  · refine attr_of hb (thn (pt.run pins s σ H _ I h) fun u s1 ⟨x, H1, I1, rx, a, dx, fs, ex, ea, q⟩ => ?_)
    subst ex
    obtain rfl : u = Value.ref a := rx
    obtain ⟨mA, Ob, _, _, _, _⟩ := ins_get I1.hok ea
    obtain ⟨od, J, _⟩ := Ob.look
    obtain ⟨rest, hrec⟩ := M.rec_
    have I2 := I1.tok (s1.toks + 1)
    have hc : (PySem.W.clsIn X.K C).isSome = true := by
      obtain ⟨cd, hc, _⟩ := PySem.W.any_some c.hd
      rw [hc]; rfl
    refine PySem.W.get_bind I1.kIn J (PySem.W.plainGet_of (c.get f)).1 (PySem.W.findObj_data hc M.at_ M.get M.tak) (PySem.W.plainGet_of (c.get f)).2 (wpAny_call (PySem.W.prop_get (s := { s1 with toks := s1.toks + 1 }) I1.kIn hrec ?_))
    refine codeAny_mono (F X.A.in1 X.stack { s1 with toks := s1.toks + 1 } H1 [.ref a] [.ref a] Q E0 hr.in1 I2.env0.in1 (.cons rfl .nil) q) fun r s' hq => ?_
    cases r with
    | error er => exact False.elim (hx pins σ H1 { s1 with toks := s1.toks + 1 } er s' (I2.wish _) hq)
    | ok fl =>
      cases fl with
      | ret u =>
        obtain ⟨v, H', I3, rv, q3⟩ := I2.after hq
        show wpAny _ _ (handedOut u) _ _ _
        rw [PySem.W.handedOut_of (handed_of rv)]
        exact wpAny_pure ⟨v, H', I3, rv, q3⟩
      | next => exact False.elim hq
      | brk => exact False.elim hq
      | cont => exact False.elim hq
  · obtain ⟨rfl, rfl⟩ := e
    have e1 : v = .ref l := of_imv i1
    subst e1
    obtain ⟨gs, h1, q1⟩ := insP ok1 hl
    exact ⟨l, dx, gs, rfl, h1, spA_run ok1 (.cons imv .nil) hp fun it O' v F' H' r' ok' x' iv' => z it O' v F' H' r' ok' (x1.trans x') iv'⟩
/-- C(e, ..): a new instance, owned; its __init__ -/
theorem ew_make (g : Mr X.prog X.w X.K X.mg X.base k x C p) (hr : Room (k + 1) X.A) (ha : AW X ρ O (e :: es) fun is O1 => ∀ l dx, O1 l = none → p (iP l :: is) (setO O1 l (.ins C dx [])) fun it O' => it = iN ∧ R (iP l) O') (hg : Gl X x := by rfl) (hd : (x == ("__debug__" : Str)) = false := by decide)
    (he : starEach (e :: es) X.env = (false, eval e X.env) :: starEach es X.env := by rfl) (hpl : (backTo pos (starEach es X.env)).any (·.1) = false := by rfl) : EW X ρ O (.Call (.Name x pp) (e :: es) [] pos) R := by
  obtain ⟨f, F, M, hm⟩ := g.ex
  obtain ⟨t, pa, kt⟩ := ha.out
  have hx : Passes CX0 X E0 := pass0
  refine EW.mk ⟨fun σ H Q => t σ H fun vs H1 => ∀ y dx, H1 y = none → H1 dx = none → dx ≠ y → spA X.K p (.ref y :: vs) (upd (upd H1 dx (.own y)) y (.ins C dx [])) (fun v H2 => v = .non ∧ Q (.ref y) H2) E0, ⟨fun pins s σ H Q I h => ?_⟩, fun σ F0 H Q ok rho z => kt σ F0 H _ ok rho fun is O1 vs F1 H1 r ok1 x1 i1 => ?_⟩
  · refine wpAny_Call_Name_kw (ld_glob I hg hm ?_ hd)
    refine PySem.W.callWith_K (h₀ := X.base) I.ok.mod.kin M.kp (thn (pa.run pos pins s σ H _ I h) fun us s1 ⟨vs, H1, I1, r, q⟩ => ⟨I1.kIn, ?_⟩) he hpl
    have hq := q (s1.heap.objs.size + 1) s1.heap.objs.size (I1.hok.fresh (Nat.le_succ _)) (I1.hok.fresh (Nat.le_refl _)) (Nat.ne_of_lt (Nat.lt_succ_self _))
    have I2 := Inv.made (C := C) I1
    refine wpAny_call (make_map (f := f) I1.kIn M.makes M.init (beq_iff_eq.mp M.fn) (codeAny_mono (F _ X.stack _ _ (Value.ref (s1.heap.objs.size + 1) :: us) (V.ref (s1.heap.objs.size + 1) :: vs) _ E0 (hr.make C us []) (I2.env0.make C us []) (.cons rfl r) hq) fun r s' hq' => ?_))
    cases r with
    | error e => exact hx pins σ _ _ e s' I2 hq'
    | ok fl =>
      cases fl with
      | ret u =>
        obtain ⟨v, H', I3, rv, ev, q3⟩ := I2.after hq'
        subst ev
        exact ⟨rv, ⟨V.ref (s1.heap.objs.size + 1), H', I3, rfl, q3⟩⟩
      | next => exact False.elim hq'
      | brk => exact False.elim hq'
      | cont => exact False.elim hq'
  · intro y dx hy hdx hne
    have r' := r y dx (ok1.fresh hy)
    have hy2 : upd H1 dx (.own y) y = none := by rw [upd_ne (Ne.symm hne)]; exact hy
    have ok2 : Ok X.K F1 (upd H1 dx (.own y)) O1 := by
      refine ⟨fun b u q => by rw [upd_ne (ne_of_none q (ok1.same.free hdx))]; exact ok1.same b u q, fun a' c q => ?_⟩
      obtain ⟨f1, u, hu, z⟩ := ok1.cell a' c q
      exact ⟨f1, u, by rw [upd_ne (ne_of_none hu hdx)]; exact hu, z⟩
    have ok3 : Ok X.K F1 (upd (upd H1 dx (.own y)) y (.ins C dx [])) (setO O1 y (.ins C dx [])) := ok2.new hy2 ⟨rfl, rfl, .nil⟩
    have x2 : Ext F1 H1 O1 F1 (upd H1 dx (.own y)) O1 := Ext.refl.updFresh hdx
    refine spA_run ok3 (.cons imv i1) r' fun it O' v F' H' r2 ok' x' iv' => ?_
    obtain ⟨rfl, r2⟩ := r2
    exact ⟨imN iv', z _ _ _ F' H' r2 ok' (x1.trans ((x2.trans (Ext.new hy2)).trans x')) imv⟩
theorem ew_make0 (g : Mr X.prog X.w X.K X.mg X.base k x C p) (hr : Room (k + 1) X.A) (ha : ∀ l dx, O l = none → p [iP l] (setO O l (.ins C dx [])) fun it O' => it = iN ∧ R (iP l) O') (hg : Gl X x := by rfl) (hd : (x == ("__debug__" : Str)) = false := by decide) : EW X ρ O (.Call (.Name x pp) [] [] pos) R := by
  obtain ⟨f, F, M, hm⟩ := g.ex
  have hx : Passes CX0 X E0 := pass0
  refine EW.mk ⟨fun σ H Q => ∀ y dx, H y = none → H dx = none → dx ≠ y → spA X.K p [.ref y] (upd (upd H dx (.own y)) y (.ins C dx [])) (fun v H2 => v = .non ∧ Q (.ref y) H2) E0, ⟨fun pins s σ H Q I q => ?_⟩, fun σ F1 H1 Q ok1 rho z => ?_⟩
  · refine wpAny_Call_Name_kw (ld_glob I hg hm ?_ hd)
    refine PySem.W.callWith_K0 I.kIn M.kp ?_
    have hq := q (s.heap.objs.size + 1) s.heap.objs.size (I.hok.fresh (Nat.le_succ _)) (I.hok.fresh (Nat.le_refl _)) (Nat.ne_of_lt (Nat.lt_succ_self _))
    have I2 := Inv.made (C := C) I
    refine wpAny_call (make_map (f := f) I.kIn M.makes M.init (beq_iff_eq.mp M.fn) (codeAny_mono (F _ X.stack _ _ [Value.ref (s.heap.objs.size + 1)] [V.ref (s.heap.objs.size + 1)] _ E0 (hr.make C [] []) (I2.env0.make C [] []) (.cons rfl .nil) hq) fun r s' hq' => ?_))
    cases r with
    | error e => exact hx pins σ _ _ e s' I2 hq'
    | ok fl =>
      cases fl with
      | ret u =>
        obtain ⟨v, H', I3, rv, ev, q3⟩ := I2.after hq'
        subst ev
        exact ⟨rv, ⟨V.ref (s.heap.objs.size + 1), H', I3, rfl, q3⟩⟩
      | next => exact False.elim hq'
      | brk => exact False.elim hq'
      | cont => exact False.elim hq'
  · intro y dx hy hdx hne
    have r' := ha y dx (ok1.fresh hy)
    have hy2 : upd H1 dx (.own y) y = none := by rw [upd_ne (Ne.symm hne)]; exact hy
    have ok2 : Ok X.K F1 (upd H1 dx (.own y)) O := by
      refine ⟨fun b u q => by rw [upd_ne (ne_of_none q (ok1.same.free hdx))]; exact ok1.same b u q, fun a' c q => ?_⟩
      obtain ⟨f1, u, hu, z⟩ := ok1.cell a' c q
      exact ⟨f1, u, by rw [upd_ne (ne_of_none hu hdx)]; exact hu, z⟩
    have ok3 : Ok X.K F1 (upd (upd H1 dx (.own y)) y (.ins C dx [])) (setO O y (.ins C dx [])) := ok2.new hy2 ⟨rfl, rfl, .nil⟩
    have x2 : Ext F1 H1 O F1 (upd H1 dx (.own y)) O := Ext.refl.updFresh hdx
    refine spA_run ok3 (.cons imv .nil) r' fun it O' v F' H' r2 ok' x' iv' => ?_
    obtain ⟨rfl, r2⟩ := r2
    exact ⟨imN iv', z _ _ _ F' H' r2 ok' ((x2.trans (Ext.new hy2)).trans x') imv⟩
/-- len(o), an instance with its own __len__ -/
theorem ew_lenI {l dx : Addr} {fs : List (Str × Im)} {R : EQ} (hmg : X.mg "len" = none) (g : Mt X.prog X.w X.K X.mg X.base k C "__len__" p) (hr : Room (k + 1) X.A) (ha : Ev X ρ O a (iP l) O1) (hl : O1 l = some (.ins C dx fs)) (hp : p [iP l] O1 fun it O2 => ∃ n : Int, it = iI n ∧ (0 ≤ n ∧ n < 2 ^ 63) ∧ R (iI n) O2)
    (hg : Gl X "len" := by rfl) (hs : starEach [a] X.env = (false, eval a X.env) :: starEach [] X.env := by rfl) : EW X ρ O (.Call (.Name "len" pp) [a] [] pos) R := by
  obtain ⟨gf, F, M⟩ := g.ex
  have hx : Passes CX0 X E0 := pass0
  have hc : CallR X (.builtin "len") (fun xs H Q => ∃ b dx fs, xs = [.ref b] ∧ H b = some (.ins C dx fs) ∧ spA X.K p [.ref b] H (fun v H' => ∃ n : Int, v = .int n ∧ (0 ≤ n ∧ n < 2 ^ 63) ∧ Q (.int n) H') E0) := by
    intro pins s σ H xs us Q I r h
    obtain ⟨b, dx, fs, rfl, hb, q⟩ := h
    obtain ⟨u, rfl, ru⟩ := vals1 r
    obtain rfl : u = Value.ref b := ru
    obtain ⟨mA, Ob, _, _, _, _⟩ := ins_get I.hok hb
    obtain ⟨od, J, _⟩ := Ob.look
    obtain ⟨m0, hF⟩ := I.fr
    refine PySem.W.len_K hF I.ok.mod.kin J M.at_ M.fn (wpAny_call (codeAny_mono (F X.A.in1 X.stack s H [.ref b] [.ref b] _ E0 hr.in1 I.env0.in1 (.cons rfl .nil) q) fun r s' hq => ?_))
    cases r with
    | error e => exact hx pins σ H s e s' I hq
    | ok fl =>
      cases fl with
      | ret u =>
        obtain ⟨v, H', I3, rv, n, rfl, hn, q3⟩ := I.after hq
        obtain ⟨t, rfl⟩ := rv
        exact ⟨hn, ⟨.int n, H', I3.tok _, ⟨_, rfl⟩, q3⟩⟩
      | next => exact False.elim hq
      | brk => exact False.elim hq
      | cont => exact False.elim hq
  refine ew_callB hc hmg b_len (ea_cons ha ea_nil hs) (fun F1 H1 vs Q ok1 iv z => ?_) hg (hs := hs)
  obtain ⟨v, rfl, i1⟩ := pair1 iv
  have e1 : v = .ref l := of_imv i1
  subst e1
  obtain ⟨gs, h1, q1⟩ := insP ok1 hl
  refine ⟨l, dx, gs, rfl, h1, spA_run ok1 (.cons imv .nil) hp fun it O' v F' H' r' ok' x' iv' => ?_⟩
  obtain ⟨n, rfl, hn, r⟩ := r'
  exact ⟨n, imI iv', hn, z _ _ _ F' H' r ok' x' mI⟩
/-- o == u, instances of one class with its own __eq__ -/
theorem cw_eqI {l l2 dx dy : Addr} {fs gs : List (Str × Im)} {R : Bool → Own → Prop} (g : Mt X.prog X.w X.K X.mg X.base k C "__eq__" p) (hr : Room k X.A) (ha : Ev X ρ O a (iP l) O1) (hb : Ev X ρ O1 b (iP l2) O2) (hl : O2 l = some (.ins C dx fs)) (hl2 : O2 l2 = some (.ins C dy gs))
    (hp : p [iP l, iP l2] O2 fun it O3 => ∃ c : Bool, it = iB c ∧ R c O3) : CW X ρ O .Eq a b R := by
  obtain ⟨gf, F, M⟩ := g.ex
  have hx : Passes CX0 X E0 := pass0
  have ho : OpR X (compareOp .Eq) (fun x y H Q => ∃ a b dx dy fs gs, x = .ref a ∧ y = .ref b ∧ H a = some (.ins C dx fs) ∧ H b = some (.ins C dy gs) ∧ spA X.K p [.ref a, .ref b] H (fun v H' => ∃ c : Bool, v = .bl c ∧ Q (.bl c) H') E0) := by
    intro pins s σ H x y v u Q I rx ry h
    obtain ⟨a, b, dx, dy, fs, gs, rfl, rfl, ha, hb, q⟩ := h
    obtain rfl : v = Value.ref a := rx
    obtain rfl : u = Value.ref b := ry
    obtain ⟨mA, J, _⟩ := ins_get I.hok ha
    obtain ⟨mB, J', _⟩ := ins_get I.hok hb
    obtain ⟨od, J, _⟩ := J.look
    obtain ⟨od', J', _⟩ := J'.look
    obtain ⟨m0, hF⟩ := I.fr
    show wpAny (model X.prog X.w) X.A (richCompare .Eq (.ref a) (.ref b)) (EP X pins σ Q) X.xe s
    refine PySem.W.cmp_K (op := .Eq) (tb := .ref C) hr.units0 hF I.ok.mod.kin J J'.type (by simp [PySem.W.notFirst]) M.at_ M.fn (wpAny_call (codeAny_mono (F X.A X.stack s H [.ref a, .ref b] [.ref a, .ref b] _ E0 hr I.env0 (.cons rfl (.cons rfl .nil)) q) fun r s' hq => ?_))
    cases r with
    | error e => exact hx pins σ H s e s' I hq
    | ok fl =>
      cases fl with
      | ret u =>
        obtain ⟨v, H', I3, rv, c, rfl, q3⟩ := I.after hq
        obtain rfl : u = Value.bool c := rv
        exact ⟨.bl c, H', I3, rfl, q3⟩
      | next => exact False.elim hq
      | brk => exact False.elim hq
      | cont => exact False.elim hq
  refine cw_op ho ha hb fun F1 H1 v w' Q ok1 iv iw z => ?_
  have e1 : v = .ref l := of_imv iv
  have e2 : w' = .ref l2 := of_imv iw
  subst e1; subst e2
  obtain ⟨us, h1, q1⟩ := insP ok1 hl
  obtain ⟨ws, h2, q2⟩ := insP ok1 hl2
  refine ⟨l, l2, dx, dy, us, ws, rfl, rfl, h1, h2, spA_run ok1 (.cons imv (.cons imv .nil)) hp fun it O' v F' H' r' ok' x' iv' => ?_⟩
  obtain ⟨c, rfl, r⟩ := r'
  exact ⟨c, imB iv', z _ _ F' H' r ok' x'⟩
end
end AL

/-! AL6: typed rules: lists of ints, tables; promises of pure defs. -/
namespace AL
open PySem PySem.Spec PyProof.Rows L2
abbrev L (ns : List Int) : PyData := .list (ns.map .int)
abbrev Tb (t : List (List Int)) : PyData := .list (t.map L)
def pu (spec : List Im → Im → Prop) : Pr := fun is O R => ∃ z, spec is z ∧ R z O
section
variable {X : Cx} {ρ : Ro} {O O1 O2 O3 : Own} {pos pp apos p : Pos} {a b e o : Expr} {es : List Expr} {k : Nat} {x m f : Str} {C : Addr} {R : EQ}
theorem Ea.w {is : List Im} {O' : Own} {R : List Im → Own → Prop} (h : Ea X ρ O es is O') (r : R is O') : AW X ρ O es R := fun σ F H Q ok rho z => h σ F H Q ok rho fun i o vs F' H' e => by
  obtain ⟨rfl, rfl⟩ := e
  exact z _ _ vs F' H' r
theorem AW.mono {R R' : List Im → Own → Prop} (h : AW X ρ O es R) (k : ∀ i o, R i o → R' i o) : AW X ρ O es R' := fun σ F H Q ok rho z => h σ F H Q ok rho fun is O' v F' H' r => z is O' v F' H' (k _ _ r)
theorem ev_pu {spec : List Im → Im → Prop} {is : List Im} {z : Im} (g : Fn X.prog X.w X.K X.mg X.base k x (pu spec)) (hr : Room k X.A) (ha : Ea X ρ O (e :: es) is O1) (hs : spec is z) (hg : Gl X x := by rfl) (hd : (x == ("__debug__" : Str)) = false := by decide)
    (he : starEach (e :: es) X.env = (false, eval e X.env) :: starEach es X.env := by rfl) (hpl : (backTo pos (starEach es X.env)).any (·.1) = false := by rfl) : Ev X ρ O (.Call (.Name x pp) (e :: es) [] pos) z O1 :=
  ew_call g hr (Ea.w ha ⟨z, hs, rfl, rfl⟩) hg hd he hpl
/-- arguments with effects -/
theorem aw_nil {R : List Im → Own → Prop} (h : R [] O) : AW X ρ O [] R := Ea.w ea_nil h
theorem aw_cons {R : List Im → Own → Prop} (ha : EW X ρ O e fun it O1 => AW X ρ O1 es fun is O2 => R (it :: is) O2) (hs : starEach (e :: es) X.env = (false, eval e X.env) :: starEach es X.env := by rfl) : AW X ρ O (e :: es) R := by
  obtain ⟨ta, pa, ka⟩ := ha.out
  refine AW.mk ⟨_, pa_cons pa (pa_self X es) hs, fun σ F H Q ok rho k => ka σ F H _ ok rho fun it O' v F1 H1 r ok1 x1 i1 => ?_⟩
  refine r σ F1 H1 _ ok1 (rho.mono x1.f) fun is O2 vs F2 H2 r2 ok2 x2 i2 => ?_
  exact k _ _ _ F2 H2 r2 ok2 (x1.trans x2) (.cons (i1.mono x2.f) i2)
end
section
variable {P : Program} {w : World} {K : PySem.W.Frag} {mg : Str → Option Value} {base : Heap} {k : Nat} {x : Str} {p : Pr}
theorem fn_def {name qual : Str} {params : Arguments} {body : List Stmt} {scope : Scope} {f : Addr} {N ps : List Str} (hm : mg x = some (.ref f)) (F : ∃ fd, FunD K name qual params body scope [] [] f fd) (S : FnScope N ps scope)
    (hb : ∀ (kV doc pm : Value) (an : Option Addr) (cdv ct : Value) (us : List Value), us.length = ps.length → bindArgs (PySem.W.fnOf name qual params body scope .none kV doc pm an cdv ct) ⟨us, []⟩ = pure (ps.zip us))
    (len : ∀ is O R, p is O R → is.length = ps.length)
    (hbody : ∀ cdv A outer s H E is O R, Room k (A.deeper (envOfC qual scope s.heap.objs.size f cdv)) → p is O R → Wps (cx P w K mg base N qual scope f cdv A outer s H E) (beg N is) O body (bodyR R)) : Fn P w K mg base (k + 1) x p := by
  obtain ⟨fd, F⟩ := F
  exact ⟨f, fnr_def F S hb len hbody, F.kp, hm⟩
theorem fn_pu {spec : List Im → Im → Prop} {name qual : Str} {params : Arguments} {body : List Stmt} {scope : Scope} {f : Addr} {N ps : List Str} (hm : mg x = some (.ref f)) (F : ∃ fd, FunD K name qual params body scope [] [] f fd) (S : FnScope N ps scope)
    (hb : ∀ (kV doc pm : Value) (an : Option Addr) (cdv ct : Value) (us : List Value), us.length = ps.length → bindArgs (PySem.W.fnOf name qual params body scope .none kV doc pm an cdv ct) ⟨us, []⟩ = pure (ps.zip us))
    (len : ∀ is z, spec is z → is.length = ps.length)
    (hbody : ∀ cdv A outer s H E is O z, Room k (A.deeper (envOfC qual scope s.heap.objs.size f cdv)) → spec is z → Wps (cx P w K mg base N qual scope f cdv A outer s H E) (beg N is) O body (bodyR fun i o => i = z ∧ o = O)) : Fn P w K mg base (k + 1) x (pu spec) := by
  refine fn_def hm F S hb (fun is O R ⟨z, h, _⟩ => len is z h) (fun cdv A outer s H E is O R hr ⟨z, h, r⟩ => ?_)
  refine Wps.mono (hbody cdv A outer s H E is O z hr h) fun i o q => ?_
  cases i <;> first | exact q.elim | (obtain ⟨rfl, rfl⟩ := q; exact r)
end
/-! ### places in lists -/
def InB (n : Nat) (i : Int) : Prop := -(n : Int) ≤ i ∧ i < n
def atL (ns : List Int) (i : Int) : Int := (atI ns i).getD 0
def atR (t : List (List Int)) (i : Int) : List Int := (atI t i).getD []
def ent (t : List (List Int)) (i j : Int) : Int := atL (atR t i) j
theorem atI_map {α β : Type} (f : α → β) (xs : List α) (i : Int) : atI (xs.map f) i = (atI xs i).map f := by
  unfold atI
  rw [List.length_map]
  cases ixN xs.length i with
  | none => rfl
  | some j => simp
theorem ixN_some {n : Nat} {i : Int} (h : InB n i) : ∃ j, ixN n i = some j ∧ j < n ∧ (j : Int) = if i < 0 then i + n else i := by
  obtain ⟨h1, h2⟩ := h
  unfold ixN
  by_cases h0 : i < 0
  · refine ⟨(i + n).toNat, ?_, by omega, by rw [if_pos h0]; omega⟩
    rw [if_neg (by omega), if_pos (by omega)]
  · refine ⟨i.toNat, ?_, by omega, by rw [if_neg h0]; omega⟩
    rw [if_pos (by omega), if_pos (by omega)]
theorem atI_in {α : Type} {xs : List α} {i : Int} (h : InB xs.length i) : ∃ j x, xs[j]? = some x ∧ j < xs.length ∧ atI xs i = some x ∧ (j : Int) = if i < 0 then i + xs.length else i := by
  obtain ⟨j, h1, h2, h3⟩ := ixN_some h
  exact ⟨j, xs[j], by simp [h2], h2, by unfold atI; rw [h1]; simp [h2], h3⟩
theorem atL_mem {ns : List Int} {i : Int} (h : InB ns.length i) : atL ns i ∈ ns := by
  obtain ⟨j, x, h1, h2, h3, _⟩ := atI_in h
  unfold atL
  rw [h3]
  exact List.mem_of_getElem? h1
theorem atR_mem {t : List (List Int)} {i : Int} (h : InB t.length i) : atR t i ∈ t := by
  obtain ⟨j, x, h1, h2, h3, _⟩ := atI_in h
  unfold atR
  rw [h3]
  exact List.mem_of_getElem? h1
section
variable {X : Cx} {ρ : Ro} {O O1 O2 O3 : Own} {pos pp apos p : Pos} {a b e elt iter tg : Expr} {ifs es : List Expr} {scope : Scope} {own : List (Str × Nat)} {ns ms : List Int} {t : List (List Int)}
theorem Ev.eq {it it' : Im} (h : Ev X ρ O e it O1) (q : it = it') : Ev X ρ O e it' O1 := by subst q; exact h
theorem ev_lenL (hm : X.mg "len" = none) (ha : Ev X ρ O a (.d (L ns)) O1) (hg : Gl X "len" := by rfl) (hs : starEach [a] X.env = (false, eval a X.env) :: starEach [] X.env := by rfl) : Ev X ρ O (.Call (.Name "len" p) [a] [] pos) (iI ns.length) O1 :=
  (ev_len hm ha hg hs).eq (by rw [List.length_map])
theorem ev_lenTb (hm : X.mg "len" = none) (ha : Ev X ρ O a (.d (Tb t)) O1) (hg : Gl X "len" := by rfl) (hs : starEach [a] X.env = (false, eval a X.env) :: starEach [] X.env := by rfl) : Ev X ρ O (.Call (.Name "len" p) [a] [] pos) (iI t.length) O1 :=
  (ev_len hm ha hg hs).eq (by rw [List.length_map])
theorem ev_ixL {i : Int} (ha : Ev X ρ O a (.d (L ns)) O1) (hb : Ev X ρ O1 b (iI i) O2) (h : InB ns.length i) (hs : PlainIx b := by exact fun _ _ => rfl) : Ev X ρ O (.Subscript a b pos) (iI (atL ns i)) O2 := by
  obtain ⟨j, x, _, _, h3, _⟩ := atI_in h
  refine (ev_ix (d := .int x) ha hb (by rw [atI_map, h3]; rfl) hs).eq ?_
  unfold atL
  rw [h3]; rfl
theorem ev_ixTb {i : Int} (ha : Ev X ρ O a (.d (Tb t)) O1) (hb : Ev X ρ O1 b (iI i) O2) (h : InB t.length i) (hs : PlainIx b := by exact fun _ _ => rfl) : Ev X ρ O (.Subscript a b pos) (.d (L (atR t i))) O2 := by
  obtain ⟨j, x, _, _, h3, _⟩ := atI_in h
  refine (ev_ix (d := L x) ha hb (by rw [atI_map, h3]; rfl) hs).eq ?_
  unfold atR
  rw [h3]; rfl
/-- table[i][j] -/
theorem ev_ent {i j : Int} {c : Expr} (ha : Ev X ρ O a (.d (Tb t)) O1) (hb : Ev X ρ O1 b (iI i) O2) (hc : Ev X ρ O2 c (iI j) O3) (h : InB t.length i) (h2 : InB (atR t i).length j) (hs : PlainIx b := by exact fun _ _ => rfl) (hs2 : PlainIx c := by exact fun _ _ => rfl) :
    Ev X ρ O (.Subscript (.Subscript a b pos) c pp) (iI (ent t i j)) O3 := ev_ixL (ev_ixTb ha hb h hs) hc h2 hs2
theorem ev_catL (ha : Ev X ρ O a (.d (L ns)) O1) (hb : Ev X ρ O1 b (.d (L ms)) O2) (hc : ns.length + ms.length ≤ sizeLine) : Ev X ρ O (.BinOp a .Add b pos) (.d (L (ns ++ ms))) O2 :=
  (ev_cat ha hb (by rw [List.length_map, List.length_map]; exact hc)).eq (by unfold L; rw [List.map_append])
theorem cutA_map {α β : Type} (f : α → β) (xs : List α) (i j : Option Int) : cutA (xs.map f) i j = (cutA xs i j).map f := by
  unfold cutA
  rw [List.length_map, List.map_take, List.map_drop]
theorem ev_slL {lo hi : Option Expr} {i j : Option Int} {p2 : Pos} (ha : Ev X ρ O a (.d (L ns)) O1) (hl : Po X ρ O1 lo i O2) (hh : Po X ρ O2 hi j O3) : Ev X ρ O (.Subscript a (.Slice lo hi none p2) pos) (.d (L (cutA ns i j))) O3 :=
  (ev_sl ha hl hh).eq (by unfold L; rw [cutA_map])
theorem ev_revL {k0 : Nat} {p1 p2 p3 : Pos} (ha : Ev X ρ O a (.d (L ns)) O1) : Ev X ρ O (.Subscript a (.Slice none none (some (.UnaryOp .USub (.Constant (.int 1) k0 p1) p2)) p3) pos) (.d (L ns.reverse)) O1 :=
  (ev_rev ha).eq (by unfold L; rw [List.map_reverse])
/-- displays of ints -/
abbrev Ei (X : Cx) (ρ : Ro) (O : Own) (es : List Expr) (ns : List Int) (O' : Own) : Prop := Ed X ρ O es (ns.map .int) O'
theorem ei_nil : Ei X ρ O [] [] O := ed_nil
theorem ei_cons {i : Int} (ha : Ev X ρ O e (iI i) O1) (hr : Ei X ρ O1 es ns O2) (hs : starEach (e :: es) X.env = (false, eval e X.env) :: starEach es X.env := by rfl) : Ei X ρ O (e :: es) (i :: ns) O2 := ed_cons ha hr hs
theorem ei_star (ha : Ev X ρ O e (.d (L ms)) O1) (hr : Ei X ρ O1 es ns O2) (hs : starEach (.Starred e p :: es) X.env = (true, eval e X.env) :: starEach es X.env := by rfl) : Ei X ρ O (.Starred e p :: es) (ms ++ ns) O2 := by
  have h := ed_star (p := p) ha hr hs
  rw [← List.map_append] at h
  exact h
theorem ev_listI (h : Ei X ρ O es ns O1) (hz : ns.length ≤ sizeLine) : Ev X ρ O (.List es pos) (.d (L ns)) O1 := ev_list h (by rw [List.length_map]; exact hz)
abbrev Et2 (X : Cx) (ρ : Ro) (O : Own) (es : List Expr) (t : List (List Int)) (O' : Own) : Prop := Ed X ρ O es (t.map L) O'
theorem e2_nil : Et2 X ρ O [] [] O := ed_nil
theorem e2_cons (ha : Ev X ρ O e (.d (L ns)) O1) (hr : Et2 X ρ O1 es t O2) (hs : starEach (e :: es) X.env = (false, eval e X.env) :: starEach es X.env := by rfl) : Et2 X ρ O (e :: es) (ns :: t) O2 := ed_cons ha hr hs
theorem e2_star {u : List (List Int)} (ha : Ev X ρ O e (.d (Tb u)) O1) (hr : Et2 X ρ O1 es t O2) (hs : starEach (.Starred e p :: es) X.env = (true, eval e X.env) :: starEach es X.env := by rfl) : Et2 X ρ O (.Starred e p :: es) (u ++ t) O2 := by
  have h := ed_star (p := p) ha hr hs
  rw [← List.map_append] at h
  exact h
theorem ev_listTb (h : Et2 X ρ O es t O1) (hz : t.length ≤ sizeLine) : Ev X ρ O (.List es pos) (.d (Tb t)) O1 := ev_list h (by rw [List.length_map]; exact hz)
/-! ### walks -/
theorem itr_eq {xs ys : List Im} {need : Own → Prop} (h : Itr X ρ O tg iter xs O1 need) (e : xs = ys) : Itr X ρ O tg iter ys O1 need := by subst e; exact h
theorem itr_listL (ha : Ev X ρ O a (.d (L ns)) O1) : Itr X ρ O tg a (ns.map iI) O1 nd0 := itr_eq (itr_list ha) (by rw [List.map_map]; rfl)
theorem itr_listTb (ha : Ev X ρ O a (.d (Tb t)) O1) : Itr X ρ O tg a (t.map fun r => .d (L r)) O1 nd0 := itr_eq (itr_list ha) (by rw [List.map_map]; rfl)
theorem enumI_map {α : Type} (f : α → Im) (xs : List α) : enumI (xs.map f) = xs.zipIdx.map fun p => .t [iI (p.2 : Nat), f p.1] := by
  unfold enumI
  rw [List.mapIdx_eq_zipIdx_map, List.zipIdx_map, List.map_map]
  rfl
theorem itr_enumL {elts : List Expr} {kk : Nat} {tpos : Pos} (hm : X.mg "enumerate" = none) (ha : Ev X ρ O a (.d (L ns)) O1) (hg : Gl X "enumerate" := by rfl) (hs : starEach [a] X.env = [(false, eval a X.env)] := by rfl) :
    Itr X ρ O (.Tuple elts kk tpos) (.Call (.Name "enumerate" p) [a] [] pos) (ns.zipIdx.map fun p => .t [iI (p.2 : Nat), iI p.1]) O1 nd0 :=
  itr_eq (itr_enum hm (.inr ⟨_, rfl, ha⟩) hg hs) (by rw [List.map_map]; exact enumI_map _ ns)
theorem itr_enumTb {elts : List Expr} {kk : Nat} {tpos : Pos} (hm : X.mg "enumerate" = none) (ha : Ev X ρ O a (.d (Tb t)) O1) (hg : Gl X "enumerate" := by rfl) (hs : starEach [a] X.env = [(false, eval a X.env)] := by rfl) :
    Itr X ρ O (.Tuple elts kk tpos) (.Call (.Name "enumerate" p) [a] [] pos) (t.zipIdx.map fun p => .t [iI (p.2 : Nat), .d (L p.1)]) O1 nd0 :=
  itr_eq (itr_enum hm (.inr ⟨_, rfl, ha⟩) hg hs) (by rw [List.map_map]; exact enumI_map _ t)
theorem zipI_map {α β : Type} (f : α → Im) (g : β → Im) (xs : List α) (ys : List β) : zipI (xs.map f) (ys.map g) = (xs.zip ys).map fun p => .t [f p.1, g p.2] := by
  unfold zipI
  rw [List.zipWith_map, List.zip, List.map_zipWith]
/-! ### comprehensions with typed results -/
theorem ev_lcI {α : Type} {as : List α} {enc : α → Im} {need : Own → Prop} (f : α → Int) (hc : X.calm = true) (hN : X.N.Nodup) (bk : BlkOk X.N X.env.scope scope own) (hi : Itr X ρ O tg iter (as.map enc) O1 need) (hz : as.length ≤ sizeLine)
    (turn : ∀ a, a ∈ as → ∃ ρ2, (Blk X scope fun X' => Eg X' (own.map (·.2)) (wipeR ρ (own.map (·.2))) O1 tg (enc a) ρ2) ∧ Blk X scope fun X' => Ev X' ρ2 O1 elt (iI (f a)) O1) (hn : need O1 := by trivial) (hs : ∀ x, foldedSetIterable iter X.env x = pure x := by intro _; rfl) :
    Ev X ρ O (.ListComp elt [⟨tg, iter, [], 0⟩] scope pos) (.d (L (as.map f))) O1 :=
  (ev_lcM (own := own) (fun a => .int (f a)) hc hN bk hi hz turn hn hs).eq (by simp only [L, Tb, List.map_map, Function.comp_def])
theorem ev_lcB {α : Type} {as : List α} {enc : α → Im} {need : Own → Prop} (f : α → Bool) (hc : X.calm = true) (hN : X.N.Nodup) (bk : BlkOk X.N X.env.scope scope own) (hi : Itr X ρ O tg iter (as.map enc) O1 need) (hz : as.length ≤ sizeLine)
    (turn : ∀ a, a ∈ as → ∃ ρ2, (Blk X scope fun X' => Eg X' (own.map (·.2)) (wipeR ρ (own.map (·.2))) O1 tg (enc a) ρ2) ∧ Blk X scope fun X' => Ev X' ρ2 O1 elt (iB (f a)) O1) (hn : need O1 := by trivial) (hs : ∀ x, foldedSetIterable iter X.env x = pure x := by intro _; rfl) :
    Ev X ρ O (.ListComp elt [⟨tg, iter, [], 0⟩] scope pos) (iL ((as.map f).map .bool)) O1 :=
  (ev_lcM (own := own) (fun a => .bool (f a)) hc hN bk hi hz turn hn hs).eq (by simp only [L, Tb, List.map_map, Function.comp_def])
theorem ev_lcR {α : Type} {as : List α} {enc : α → Im} {need : Own → Prop} (f : α → List Int) (hc : X.calm = true) (hN : X.N.Nodup) (bk : BlkOk X.N X.env.scope scope own) (hi : Itr X ρ O tg iter (as.map enc) O1 need) (hz : as.length ≤ sizeLine)
    (turn : ∀ a, a ∈ as → ∃ ρ2, (Blk X scope fun X' => Eg X' (own.map (·.2)) (wipeR ρ (own.map (·.2))) O1 tg (enc a) ρ2) ∧ Blk X scope fun X' => Ev X' ρ2 O1 elt (.d (L (f a))) O1) (hn : need O1 := by trivial) (hs : ∀ x, foldedSetIterable iter X.env x = pure x := by intro _; rfl) :
    Ev X ρ O (.ListComp elt [⟨tg, iter, [], 0⟩] scope pos) (.d (Tb (as.map f))) O1 :=
  (ev_lcM (own := own) (fun a => L (f a)) hc hN bk hi hz turn hn hs).eq (by simp only [L, Tb, List.map_map, Function.comp_def])
theorem ev_lcFI {α : Type} {as : List α} {enc : α → Im} {need : Own → Prop} (keep : α → Bool) (f : α → Int) (hc : X.calm = true) (hN : X.N.Nodup) (bk : BlkOk X.N X.env.scope scope own) (hi : Itr X ρ O tg iter (as.map enc) O1 need) (hz : as.length ≤ sizeLine)
    (turn : ∀ a, a ∈ as → CPure X scope (own.map (·.2)) ρ O1 tg ifs elt (enc a) (keep a) (.int (f a))) (hn : need O1 := by trivial) (hs : ∀ x, foldedSetIterable iter X.env x = pure x := by intro _; rfl) :
    Ev X ρ O (.ListComp elt [⟨tg, iter, ifs, 0⟩] scope pos) (.d (L ((as.filter keep).map f))) O1 :=
  (ev_lcF (own := own) keep (fun a => .int (f a)) hc hN bk hi hz turn hn hs).eq (by simp only [L, Tb, List.map_map, Function.comp_def])
/-- isinstance(x, list), .. -/
theorem ev_isIn {i : Int} {p1 : Pos} (hm : X.mg "isinstance" = none) (hm2 : X.mg "int" = none) (ha : Ev X ρ O a (iI i) O1) (hg : Gl X "isinstance" := by rfl) (hg2 : Gl X "int" := by rfl)
    (hs : starEach [a, .Name "int" p1] X.env = (false, eval a X.env) :: starEach [.Name "int" p1] X.env := by rfl) (hs2 : starEach [.Name "int" p1] X.env = (false, eval (.Name "int" p1) X.env) :: starEach [] X.env := by rfl) (hpl : (backTo pos (starEach [.Name "int" p1] X.env)).any (·.1) = false := by rfl) : Ev X ρ O (.Call (.Name "isinstance" p) [a, .Name "int" p1] [] pos) (iB true) O1 :=
  ev_isi hm ha (ev_gty (n := "int") hm2 (hg := hg2)) rfl hg hs hs2 hpl
theorem ev_isBn {i : Int} {p1 : Pos} (hm : X.mg "isinstance" = none) (hm2 : X.mg "bool" = none) (ha : Ev X ρ O a (iI i) O1) (hg : Gl X "isinstance" := by rfl) (hg2 : Gl X "bool" := by rfl)
    (hs : starEach [a, .Name "bool" p1] X.env = (false, eval a X.env) :: starEach [.Name "bool" p1] X.env := by rfl) (hs2 : starEach [.Name "bool" p1] X.env = (false, eval (.Name "bool" p1) X.env) :: starEach [] X.env := by rfl) (hpl : (backTo pos (starEach [.Name "bool" p1] X.env)).any (·.1) = false := by rfl) : Ev X ρ O (.Call (.Name "isinstance" p) [a, .Name "bool" p1] [] pos) (iB false) O1 :=
  ev_isi hm ha (ev_gty (n := "bool") hm2 (hg := hg2)) rfl hg hs hs2 hpl
theorem ev_isL {ds : List PyData} {p1 : Pos} (hm : X.mg "isinstance" = none) (hm2 : X.mg "list" = none) (ha : Ev X ρ O a (iL ds) O1) (hg : Gl X "isinstance" := by rfl) (hg2 : Gl X "list" := by rfl)
    (hs : starEach [a, .Name "list" p1] X.env = (false, eval a X.env) :: starEach [.Name "list" p1] X.env := by rfl) (hs2 : starEach [.Name "list" p1] X.env = (false, eval (.Name "list" p1) X.env) :: starEach [] X.env := by rfl) (hpl : (backTo pos (starEach [.Name "list" p1] X.env)).any (·.1) = false := by rfl) : Ev X ρ O (.Call (.Name "isinstance" p) [a, .Name "list" p1] [] pos) (iB true) O1 :=
  ev_isi hm ha (ev_gty (n := "list") hm2 (hg := hg2)) rfl hg hs hs2 hpl
theorem ev_isT {ds : List PyData} {p1 : Pos} (hm : X.mg "isinstance" = none) (hm2 : X.mg "tuple" = none) (ha : Ev X ρ O a (iT ds) O1) (hg : Gl X "isinstance" := by rfl) (hg2 : Gl X "tuple" := by rfl)
    (hs : starEach [a, .Name "tuple" p1] X.env = (false, eval a X.env) :: starEach [.Name "tuple" p1] X.env := by rfl) (hs2 : starEach [.Name "tuple" p1] X.env = (false, eval (.Name "tuple" p1) X.env) :: starEach [] X.env := by rfl) (hpl : (backTo pos (starEach [.Name "tuple" p1] X.env)).any (·.1) = false := by rfl) : Ev X ρ O (.Call (.Name "isinstance" p) [a, .Name "tuple" p1] [] pos) (iB true) O1 :=
  ev_isi hm ha (ev_gty (n := "tuple") hm2 (hg := hg2)) rfl hg hs hs2 hpl
theorem ev_isS {s : Str} {p1 : Pos} (hm : X.mg "isinstance" = none) (hm2 : X.mg "str" = none) (ha : Ev X ρ O a (iS s) O1) (hg : Gl X "isinstance" := by rfl) (hg2 : Gl X "str" := by rfl)
    (hs : starEach [a, .Name "str" p1] X.env = (false, eval a X.env) :: starEach [.Name "str" p1] X.env := by rfl) (hs2 : starEach [.Name "str" p1] X.env = (false, eval (.Name "str" p1) X.env) :: starEach [] X.env := by rfl) (hpl : (backTo pos (starEach [.Name "str" p1] X.env)).any (·.1) = false := by rfl) : Ev X ρ O (.Call (.Name "isinstance" p) [a, .Name "str" p1] [] pos) (iB true) O1 :=
  ev_isi hm ha (ev_gty (n := "str") hm2 (hg := hg2)) rfl hg hs hs2 hpl
end
/-! ### shapes: data that may be compared -/
def Sh (n : Nat) (d : PyData) : Prop := d.canLay0 = true ∧ d.depth ≤ n
theorem Sh.mono {n m : Nat} {d : PyData} (h : Sh n d) (l : n ≤ m) : Sh m d := ⟨h.1, Nat.le_trans h.2 l⟩
theorem Sh.ok {n : Nat} {d : PyData} (h : Sh n d) (l : n ≤ 64 := by decide) : SeqAt.shaped d = true := by
  unfold SeqAt.shaped
  rw [h.1, decide_eq_true (Nat.le_trans h.2 l)]; rfl
theorem sh_int (n : Nat) (i : Int) : Sh n (.int i) := ⟨rfl, Nat.zero_le _⟩
theorem sh_bool (n : Nat) (i : Bool) : Sh n (.bool i) := ⟨rfl, Nat.zero_le _⟩
theorem sh_str (n : Nat) {x : Str} (h : PyData.strOk x = true := by decide +kernel) : Sh n (.str x) := ⟨h, Nat.zero_le _⟩
theorem sh_all {n : Nat} : ∀ {ds : List PyData}, (∀ d ∈ ds, Sh n d) → PyData.canLayAll0 ds = true ∧ PyData.depthAll ds ≤ n
  | [], _ => ⟨rfl, Nat.zero_le _⟩
  | d :: ds, h => by
    obtain ⟨h1, h2⟩ := sh_all (ds := ds) fun x hx => h x (List.mem_cons_of_mem _ hx)
    obtain ⟨h3, h4⟩ := h d (by simp)
    refine ⟨?_, ?_⟩
    · show (d.canLay0 && PyData.canLayAll0 ds) = true
      rw [h1, h3]; rfl
    · show max d.depth (PyData.depthAll ds) ≤ n
      omega
theorem sh_list {n : Nat} {ds : List PyData} (h : ∀ d ∈ ds, Sh n d) : Sh (n + 1) (.list ds) := ⟨(sh_all h).1, Nat.succ_le_succ (sh_all h).2⟩
theorem sh_tup {n : Nat} {ds : List PyData} (h : ∀ d ∈ ds, Sh n d) : Sh (n + 1) (.tuple ds) := ⟨(sh_all h).1, Nat.succ_le_succ (sh_all h).2⟩
theorem sh_L (ns : List Int) : Sh 1 (L ns) := sh_list fun d hd => by
  obtain ⟨i, _, rfl⟩ := List.mem_map.mp hd
  exact sh_int _ _
theorem sh_Tb (t : List (List Int)) : Sh 2 (Tb t) := sh_list fun d hd => by
  obtain ⟨i, _, rfl⟩ := List.mem_map.mp hd
  exact sh_L _
theorem sh_cons {n : Nat} {d : PyData} {ds : List PyData} (h : Sh n d) (t : ∀ x ∈ ds, Sh n x) : ∀ x ∈ d :: ds, Sh n x := fun x hx => by
  rcases List.mem_cons.mp hx with rfl | hx
  · exact h
  · exact t x hx
theorem sh_nil {n : Nat} : ∀ x ∈ ([] : List PyData), Sh n x := fun x hx => by cases hx
theorem Sh.refl {n : Nat} {d : PyData} (h : Sh n d) : PyData.eqv d d = true := SeqAt.eqv_refl d h.1
theorem eqvAll_L : ∀ a b : List Int, PyData.eqvAll (a.map .int) (b.map .int) = decide (a = b)
  | [], [] => rfl
  | [], _ :: _ => rfl
  | _ :: _, [] => rfl
  | x :: a, y :: b => by
    show ((x == y) && PyData.eqvAll (a.map .int) (b.map .int)) = _
    rw [eqvAll_L a b]
    by_cases h : x = y
    · by_cases h2 : a = b <;> simp [h, h2]
    · simp [h]
theorem eqv_L (a b : List Int) : PyData.eqv (L a) (L b) = decide (a = b) := eqvAll_L a b
theorem eqv_Tb : ∀ a b : List (List Int), PyData.eqv (Tb a) (Tb b) = decide (a = b) := by
  have go : ∀ a b : List (List Int), PyData.eqvAll (a.map L) (b.map L) = decide (a = b) := by
    intro a
    induction a with
    | nil => intro b; cases b <;> rfl
    | cons x a ih =>
      intro b
      cases b with
      | nil => rfl
      | cons y b =>
        show (PyData.eqv (L x) (L y) && PyData.eqvAll (a.map L) (b.map L)) = _
        rw [ih b, eqv_L]
        by_cases h : x = y
        · by_cases h2 : a = b <;> simp [h, h2]
        · simp [h]
  exact go
section
variable {X : Cx} {ρ : Ro} {O O1 O2 O3 : Own} {pos pp apos p : Pos} {a b e : Expr}
theorem ec_eqL {ns ms : List Int} (hu : X.A.units + 64 < cLine) (ha : Ev X ρ O a (.d (L ns)) O1) (hb : Ev X ρ O1 b (.d (L ms)) O2) : Ec X ρ O .Eq a b (decide (ns = ms)) O2 := by
  have h := ec_eq hu ha hb (sh_L ns).ok (sh_L ms).ok
  rw [eqv_L] at h
  exact h
theorem ec_neL {ns ms : List Int} (hu : X.A.units + 64 < cLine) (ha : Ev X ρ O a (.d (L ns)) O1) (hb : Ev X ρ O1 b (.d (L ms)) O2) : Ec X ρ O .NotEq a b (!decide (ns = ms)) O2 := by
  have h := ec_ne hu ha hb (sh_L ns).ok (sh_L ms).ok
  rw [eqv_L] at h
  exact h
theorem ec_eqTb {ns ms : List (List Int)} (hu : X.A.units + 64 < cLine) (ha : Ev X ρ O a (.d (Tb ns)) O1) (hb : Ev X ρ O1 b (.d (Tb ms)) O2) : Ec X ρ O .Eq a b (decide (ns = ms)) O2 := by
  have h := ec_eq hu ha hb (sh_Tb ns).ok (sh_Tb ms).ok
  rw [eqv_Tb] at h
  exact h
theorem ec_neTb {ns ms : List (List Int)} (hu : X.A.units + 64 < cLine) (ha : Ev X ρ O a (.d (Tb ns)) O1) (hb : Ev X ρ O1 b (.d (Tb ms)) O2) : Ec X ρ O .NotEq a b (!decide (ns = ms)) O2 := by
  have h := ec_ne hu ha hb (sh_Tb ns).ok (sh_Tb ms).ok
  rw [eqv_Tb] at h
  exact h
theorem ec_inL {i : Int} {ns : List Int} (hu : X.A.units + 65 < cLine) (ha : Ev X ρ O a (iI i) O1) (hb : Ev X ρ O1 b (.d (L ns)) O2) : Ec X ρ O .In a b (decide (i ∈ ns)) O2 := by
  have h := ec_in hu ha hb (sh_int 1 i).ok (sh_L ns).ok
  have e : ((ns.map PyData.int).any fun z => PyData.eqv z (.int i)) = decide (i ∈ ns) := by
    rw [Bool.eq_iff_iff, List.any_eq_true, decide_eq_true_iff]
    constructor
    · rintro ⟨z, hz, h⟩
      obtain ⟨j, hj, rfl⟩ := List.mem_map.mp hz
      have : j = i := by simpa [PyData.eqv] using h
      subst this; exact hj
    · intro h
      exact ⟨.int i, List.mem_map_of_mem h, by simp [PyData.eqv]⟩
  rw [e] at h
  exact h
/-- l.index(x) of ints: the first place -/
def idxI (ns : List Int) (i : Int) : Int := (ns.findIdx (· == i) : Nat)
theorem ev_index {ns : List Int} {i : Int} {cpos : Pos} (hu : X.A.units + 65 < cLine) (ha : Ev X ρ O a (.d (L ns)) O1) (hb : Ev X ρ O1 b (iI i) O2) (hi : i ∈ ns)
    (hbase : attributeBase a "index" X.env (eval a X.env) = eval a X.env := by rfl)
    (hfew : ((backTo cpos (starEach [b] X.env)).all (fun x => !x.1) && (backToKw cpos (keywordEach [] X.env)).all (fun x => x.1.isSome) && decide ([b].length + ([] : List Keyword).length + (if ([] : List Keyword).isEmpty then 0 else 1) < 30)) = true := by rfl)
    (hline : (apos.endLine == cpos.line) = true := by rfl) (hs : starEach [b] X.env = (false, eval b X.env) :: starEach [] X.env := by rfl) (hplain : (backTo cpos (starEach [] X.env)).any (·.1) = false := by rfl) :
    Ev X ρ O (.Call (.Attribute a "index" apos) [b] [] cpos) (iI (idxI ns i)) O2 := by
  obtain ⟨t, p, k⟩ := ha.out
  obtain ⟨t2, p2, k2⟩ := hb.out
  refine EW.mk ⟨_, pe_bm PySem.F.plainAttrs_list PySem.F.slot_list_index PySem.F.type_list_index (mt_indexD hu) p (pa_cons p2 pa_nil hs) hbase hfew hline hs hplain, fun σ F H Q ok rho z => k σ F H _ ok rho fun it O' v F1 H1 e ok1 x1 i1 => ?_⟩
  obtain ⟨rfl, rfl⟩ := e
  obtain ⟨l, xs, rfl, h1, q1⟩ := imL i1
  refine ⟨.inl ⟨rfl, _, SqL.of (ok1.same _ _ h1)⟩, k2 σ F1 H1 _ ok1 (rho.mono x1.f) fun it O3 w F2 H2 e ok2 x2 i2 => ?_⟩
  obtain ⟨rfl, rfl⟩ := e
  rw [imI i2]
  have hlt : ns.findIdx (· == i) < ns.length := List.findIdx_lt_length_of_exists ⟨i, hi, by simp⟩
  have hg : (ns[ns.findIdx (· == i)]) = i := by simpa using List.findIdx_getElem (p := (· == i)) (w := hlt)
  refine ⟨l, .int i, .int i, ns.map .int, ns.findIdx (· == i), .int i, rfl, rfl, Dt.dp (Dt.mono (x2.f.trans ok2.same) (.lst h1 q1)), .int i, (sh_L ns).ok, (sh_int 1 i).ok, ?_, by simp [PyData.eqv], ?_, ?_⟩
  · rw [List.getElem?_map, List.getElem?_eq_getElem hlt, hg]; rfl
  · intro m z' hm hz
    rw [List.getElem?_map] at hz
    have hml : m < ns.length := by omega
    rw [List.getElem?_eq_getElem hml] at hz
    cases hz
    have := List.not_of_lt_findIdx hm
    simpa [PyData.eqv] using this
  · exact z _ _ _ F2 H2 ⟨rfl, rfl⟩ ok2 (x1.trans x2) mI
end
end AL

/-! AL7: promises by a function of the arguments; short statement rules; tables and rings. -/
namespace AL
open PySem PySem.Spec PyProof.Rows L2
theorem u65 {k : Nat} {A : Around} (r : Room k A) : A.units + 65 < cLine := by have := r.un; omega
/-- called with enc a where pre a, it gives out a and changes nothing -/
def sp {α : Type} (enc : α → List Im) (pre : α → Prop) (out : α → Im) : List Im → Im → Prop := fun is z => ∃ a, is = enc a ∧ pre a ∧ z = out a
abbrev sc (N P : List Str) (s : Scope) : Prop := FnScope N P s
section
variable {P : Program} {w : World} {K : PySem.W.Frag} {mg : Str → Option Value} {base : Heap} {k : Nat} {x : Str} {p : Pr} {α : Type} {enc : α → List Im} {pre : α → Prop} {out : α → Im}
theorem fn_sp {name qual : Str} {params : Arguments} {body : List Stmt} {scope : Scope} {f : Addr} {N ps : List Str} (hm : mg x = some (.ref f)) (F : ∃ fd, FunD K name qual params body scope [] [] f fd) (S : FnScope N ps scope)
    (hb : ∀ (kV doc pm : Value) (an : Option Addr) (cdv ct : Value) (us : List Value), us.length = ps.length → bindArgs (PySem.W.fnOf name qual params body scope .none kV doc pm an cdv ct) ⟨us, []⟩ = pure (ps.zip us))
    (len : ∀ a, (enc a).length = ps.length)
    (hbody : ∀ cdv A outer s H E O a, Room k (A.deeper (envOfC qual scope s.heap.objs.size f cdv)) → pre a → Wps (cx P w K mg base N qual scope f cdv A outer s H E) (beg N (enc a)) O body (bodyR fun i o => i = out a ∧ o = O)) : Fn P w K mg base (k + 1) x (pu (sp enc pre out)) :=
  fn_pu hm F S hb (fun is z h => by obtain ⟨a, rfl, _, _⟩ := h; exact len a) fun cdv A outer s H E is O z hr h => by
    obtain ⟨a, rfl, h1, rfl⟩ := h
    exact hbody cdv A outer s H E O a hr h1
end
section
variable {X : Cx} {ρ : Ro} {O O1 O2 O3 : Own} {pos pp apos p : Pos} {a b e o t : Expr} {es : List Expr} {k : Nat} {x m f : Str} {C : Addr} {st : Stmt} {sts A : List Stmt} {R : Out → Own → Prop} {it : Im} {c : Bool}
theorem ev_sp {α : Type} {enc : α → List Im} {pre : α → Prop} {out : α → Im} (a : α) (g : Fn X.prog X.w X.K X.mg X.base k x (pu (sp enc pre out))) (hr : Room k X.A) (ha : Ea X ρ O (e :: es) (enc a) O1) (hs : pre a) (hz : out a = it := by rfl) (hg : Gl X x := by rfl) (hd : (x == ("__debug__" : Str)) = false := by decide)
    (he : starEach (e :: es) X.env = (false, eval e X.env) :: starEach es X.env := by rfl) (hpl : (backTo pos (starEach es X.env)).any (·.1) = false := by rfl) : Ev X ρ O (.Call (.Name x pp) (e :: es) [] pos) it O1 :=
  ev_pu g hr ha ⟨a, rfl, hs, hz.symm⟩ hg hd he hpl
/-- if test: raise .. -/
theorem wps_guard (h : Et X ρ O t c O1) (hc : c = false) (r : Wps X ρ O1 sts R) : Wps X ρ O (.If t A [] pos :: sts) R :=
  wps_cons (wp_if h (fun q => by rw [hc] at q; cases q) fun _ => wps_nil r)
theorem wps_do (h : Ev X ρ O e it O1) (r : Wps X ρ O1 sts R) (hs : swapsWith e none pos.line X.env = pure false := by rfl) : Wps X ρ O (.Expr e pos :: sts) R :=
  wps_cons (wp_expr (Ev.w h r) hs)
theorem wps_ret (h : Ev X ρ O e it O1) (r : R (.rt it) O1) : Wps X ρ O (.Return (some e) pos :: sts) R := wps_cons (wp_ret (Ev.w h r))
theorem wps_retW (h : EW X ρ O e fun it O' => R (.rt it) O') : Wps X ρ O (.Return (some e) pos :: sts) R := wps_cons (wp_ret h)
theorem wps_set (i : Nat) {y : Str} {pos' : Pos} (hN : X.N.Nodup) (h : Ev X ρ O e it O1) (r : Wps X (ρ.set i (some it)) O1 sts R) (hi : X.N[i]? = some y := by rfl) (hx : Loc X.env.scope y := by first | exact Or.inl rfl | exact Or.inr rfl) (hs : swapsWith e (some (.Name y pos')) pos.line X.env = pure false := by rfl)
    (hf : X.fn y = true ∨ X.env.scope.names.lookup y = some .local := by first | exact .inl rfl | exact .inr rfl) : Wps X ρ O (.Assign [.Name y pos'] e pos :: sts) R :=
  wps_cons (wp_set i hN (Ev.w h r) hi hx hs hf)
theorem wps_setW (i : Nat) {y : Str} {pos' : Pos} (hN : X.N.Nodup) (h : EW X ρ O e fun it O' => Wps X (ρ.set i (some it)) O' sts R) (hi : X.N[i]? = some y := by rfl) (hx : Loc X.env.scope y := by first | exact Or.inl rfl | exact Or.inr rfl) (hs : swapsWith e (some (.Name y pos')) pos.line X.env = pure false := by rfl)
    (hf : X.fn y = true ∨ X.env.scope.names.lookup y = some .local := by first | exact .inl rfl | exact .inr rfl) : Wps X ρ O (.Assign [.Name y pos'] e pos :: sts) R :=
  wps_cons (wp_set i hN h hi hx hs hf)
theorem wps_par (i j : Nat) {x y : Str} {px py pt : Pos} {kt k2 : Nat} {pt2 : Pos} {v w : Im} (hc : X.calm = true) (hN : X.N.Nodup) (h : Ea X ρ O [a, b] [v, w] O1) (r : Wps X ((ρ.set i (some v)).set j (some w)) O1 sts R)
    (hw : swappedStores [.Tuple [.Name x px, .Name y py] kt pt] (.Tuple [a, b] k2 pt2) X.env = pure (some [x, y]) := by rfl) (hi : X.N[i]? = some x := by rfl) (hj : X.N[j]? = some y := by rfl) (hij : i ≠ j := by decide) (hx : X.env.scope.names.lookup x = some .local := by rfl) (hy : X.env.scope.names.lookup y = some .local := by rfl)
    (hs : swapsWithSole [.Tuple [.Name x px, .Name y py] kt pt] (.Tuple [a, b] k2 pt2) pos.line X.env = pure false := by rfl) : Wps X ρ O (.Assign [.Tuple [.Name x px, .Name y py] kt pt] (.Tuple [a, b] k2 pt2) pos :: sts) R :=
  wps_cons (wp_par i j hc hN (Ea.w h ⟨v, w, rfl, r⟩) hw hi hj hij hx hy hs)
theorem wps_parW (i j : Nat) {x y : Str} {px py pt : Pos} {kt k2 : Nat} {pt2 : Pos} (hc : X.calm = true) (hN : X.N.Nodup) (h : AW X ρ O [a, b] fun is O' => ∃ v w, is = [v, w] ∧ Wps X ((ρ.set i (some v)).set j (some w)) O' sts R)
    (hw : swappedStores [.Tuple [.Name x px, .Name y py] kt pt] (.Tuple [a, b] k2 pt2) X.env = pure (some [x, y]) := by rfl) (hi : X.N[i]? = some x := by rfl) (hj : X.N[j]? = some y := by rfl) (hij : i ≠ j := by decide) (hx : X.env.scope.names.lookup x = some .local := by rfl) (hy : X.env.scope.names.lookup y = some .local := by rfl)
    (hs : swapsWithSole [.Tuple [.Name x px, .Name y py] kt pt] (.Tuple [a, b] k2 pt2) pos.line X.env = pure false := by rfl) : Wps X ρ O (.Assign [.Tuple [.Name x px, .Name y py] kt pt] (.Tuple [a, b] k2 pt2) pos :: sts) R :=
  wps_cons (wp_par i j hc hN h hw hi hj hij hx hy hs)
theorem wps_asg {tg : Expr} {vs : List Nat} {ρ' : Ro} (h : Ev X ρ O e it O1) (g : Eg X vs ρ O1 tg it ρ') (r : Wps X ρ' O1 sts R) (hs : swapsWithSole [tg] e pos.line X.env = pure false := by rfl) (hw : swappedStores [tg] e X.env = pure none := by rfl) (h1 : (assignEach [tg] X.env).map (·.2) = [assign tg X.env] := by rfl) : Wps X ρ O (.Assign [tg] e pos :: sts) R :=
  wps_cons (wp_asg (Ev.w h fun v σ F H Q ok rho iv z => g.tgt v σ F H Q ok rho iv fun a b c d e q => by obtain ⟨rfl, rfl⟩ := q; exact z _ _ c d e r) hs hw h1)
/-- slots forgotten -/
def mask : List Bool → Ro → Ro
  | _, [] => []
  | [], r => r
  | b :: bs, x :: r => (if b then x else none) :: mask bs r
theorem le_mask : ∀ (bs : List Bool) (ρ : Ro), Le (mask bs ρ) ρ
  | _, [] => by cases ‹List Bool› <;> exact .nil
  | [], x :: r => Le.refl _
  | true :: bs, x :: r => .cons (fun _ e => e) (le_mask bs r)
  | false :: bs, x :: r => .cons (fun _ e => nomatch e) (le_mask bs r)
theorem wps_for {α : Type} {as : List α} {enc : α → Im} {need : Own → Prop} {body : List Stmt} {tg iter : Expr} {vs : List Nat} (Iv : Nat → Ro → Own → Prop) (hc : X.calm = true) (hi : Itr X ρ O tg iter (as.map enc) O1 need) (h0 : ∃ ρ', Le ρ' ρ ∧ Iv 0 ρ' O1) (hn : ∀ k ρ O, k ≤ as.length → Iv k ρ O → need O)
    (step : ∀ k a ρ O, as[k]? = some a → Iv k ρ O → ∃ ρ', Eg X vs ρ O tg (enc a) ρ' ∧ Wps X ρ' O body (turnR Iv k (thenR X sts R))) (hd : ∀ ρ O, Iv as.length ρ O → Wps X ρ O sts R) (hp : PassesOwn (model X.prog X.w) X.A X.env X.xe := by exact PassesOwn.never) (hs : ∀ x, foldedSetIterable iter X.env x = pure x := by intro _; rfl) : Wps X ρ O (.For tg iter body [] pos :: sts) R := by
  refine wps_cons (wp_for Iv hp hc hi h0 (fun k ρ O hk => hn k ρ O (by rw [List.length_map] at hk; exact hk)) (fun k x ρ O hx hI => ?_) (fun ρ O hI => hd ρ O (by rw [List.length_map] at hI; exact hI)) hs)
  rw [List.getElem?_map] at hx
  cases e : as[k]? with
  | none => rw [e] at hx; cases hx
  | some a =>
    rw [e] at hx; cases hx
    obtain ⟨ρ', g, r⟩ := step k a ρ O e hI
    exact fun v σ F H Q ok rho iv z => g.tgt v σ F H Q ok rho iv fun a b c d e q => by obtain ⟨rfl, rfl⟩ := q; exact z _ _ c d e r
/-- y = [..] on one line, pure -/
theorem wps_lcM {α : Type} {as : List α} {enc : α → Im} {need : Own → Prop} {elt tg iter : Expr} {scope : Scope} {own : List (Str × Nat)} {d : PyData} (i : Nat) {y : Str} {py spos : Pos} (g : α → PyData) (hc : X.calm = true) (hN : X.N.Nodup) (bk : BlkOk X.N X.env.scope scope own)
    (hi : Itr X ρ O tg iter (as.map enc) O1 need) (hz : as.length ≤ sizeLine) (turn : ∀ a, a ∈ as → ∃ ρ2, (Blk X scope fun X' => Eg X' (own.map (·.2)) (wipeR ρ (own.map (·.2))) O1 tg (enc a) ρ2) ∧ Blk X scope fun X' => Ev X' ρ2 O1 elt (.d (g a)) O1)
    (r : Wps X (ρ.set i (some (.d d))) O1 sts R) (hd : .list (as.map g) = d) (hn : need O1 := by trivial) (hsw : swapsWith (.ListComp elt [⟨tg, iter, [], 0⟩] scope pos) (some (.Name y py)) spos.line X.env = pure true := by exact sw_true rfl rfl rfl (by rfl)) (hy : X.N[i]? = some y := by rfl) (hyl : X.env.scope.names.lookup y = some .local := by rfl) (hs : ∀ x, foldedSetIterable iter X.env x = pure x := by intro _; rfl) :
    Wps X ρ O (.Assign [.Name y py] (.ListComp elt [⟨tg, iter, [], 0⟩] scope pos) spos :: sts) R :=
  wps_cons (wp_setLcM (own := own) i g hc hN hsw bk hi hz turn (by subst hd; exact r) hn hy hyl hs)
theorem itr_zipRL {t : List (List Int)} {ns : List Int} {elts : List Expr} {kk : Nat} {tpos : Pos} (hm : X.mg "zip" = none) (ha : Ev X ρ O a (.d (Tb t)) O1) (hb : Ev X ρ O1 b (.d (L ns)) O2) (hg : Gl X "zip" := by rfl)
    (hs : starEach [a, b] X.env = [(false, eval a X.env), (false, eval b X.env)] := by rfl) (hs2 : starEach [b] X.env = [(false, eval b X.env)] := by rfl) :
    Itr X ρ O (.Tuple elts kk tpos) (.Call (.Name "zip" p) [a, b] [] pos) ((t.zip ns).map fun p => .t [.d (L p.1), iI p.2]) O2 (fun O3 => nd0 O3 ∧ nd0 O3) :=
  itr_eq (itr_zip hm (.d rfl ha) (.d rfl hb) trivial hg hs hs2) (by rw [List.map_map, List.map_map]; exact zipI_map _ _ t ns)
end
/-! ### the program's data -/
/-- a table of distances -/
structure Tab (t : List (List Int)) : Prop where
  lo : 1 ≤ t.length
  hi : t.length ≤ 30
  row : ∀ r ∈ t, r.length = t.length ∧ ∀ x ∈ r, 0 ≤ x ∧ x ≤ 1000000000000000000000000000000
  dg : ∀ i : Nat, i < t.length → ent t i i = 0
  sy : ∀ i j : Nat, i < t.length → j < t.length → ent t i j = ent t j i
/-- places below n -/
def Pl (n : Nat) (ns : List Int) : Prop := ∀ x ∈ ns, 0 ≤ x ∧ x < n
/-- a ring of n places -/
structure Rg (n : Nat) (r : List Int) : Prop where
  len : r.length = n
  pl : Pl n r
  nd : r.Nodup
theorem sz_le {n : Nat} (h : n ≤ 100000) : n ≤ sizeLine := Nat.le_trans h (by decide)
theorem Pl.in {n : Nat} {ns : List Int} (h : Pl n ns) {i : Int} (hi : i ∈ ns) : InB n i := by
  have := h i hi
  unfold InB; omega
theorem Tab.rlen {t : List (List Int)} (T : Tab t) {i : Int} (h : InB t.length i) : (atR t i).length = t.length := (T.row _ (atR_mem h)).1
theorem Rg.le {n : Nat} {r : List Int} (h : Rg n r) (l : n ≤ 100000) : r.length ≤ sizeLine := sz_le (by rw [h.len]; exact l)
theorem pl_len : ∀ {n : Nat} {ns : List Int}, Pl n ns → ns.Nodup → ns.length ≤ n
  | 0, [], _, _ => Nat.le_refl _
  | 0, x :: _, h, _ => by have := h x (by simp); omega
  | n + 1, ns, h, d => by
    have h2 := pl_len (n := n) (ns := ns.erase (n : Int)) (fun x hx => by
      obtain ⟨h1, h3⟩ := d.mem_erase_iff.mp hx
      have := h x h3
      omega) (d.erase _)
    rw [List.length_erase] at h2
    split at h2 <;> omega
theorem delO_setO {O : Own} {p : Addr} {c : Cell} (h : O p = none) : delO (setO O p c) p = O := by
  funext b
  unfold delO setO
  by_cases e : b = p
  · subst e; rw [if_pos rfl, h]
  · rw [if_neg e, if_neg e]
theorem take_snoc {α : Type} {as : List α} {k : Nat} {a : α} (h : as[k]? = some a) : as.take (k + 1) = as.take k ++ [a] := by
  rw [List.take_succ, h]; rfl
theorem flatMap_len {α β : Type} {f : α → List β} {c : Nat} : ∀ {as : List α}, (∀ a ∈ as, (f a).length ≤ c) → (as.flatMap f).length ≤ as.length * c
  | [], _ => by simp
  | a :: as, h => by
    have h1 := h a (by simp)
    have h2 := flatMap_len (as := as) fun x hx => h x (List.mem_cons_of_mem _ hx)
    rw [List.flatMap_cons, List.length_append, List.length_cons, Nat.add_mul]
    omega
end AL

/-! AL8: min of two lists. -/
namespace AL
open PySem PySem.Spec PyProof.Rows L2
section
variable {prog : Program} {w : World} {A : Around} {E : Value → Shared → Prop} {s : Shared}
/-- two items, walked by min: the second one against the first -/
theorem min_walk2 {R : Result → Shared → Prop} {I S : Addr} {fp wr : List Addr} {P : Nat → Value → Prop} {St : Nat → Heap → Prop} {va vb : Value} {c : Bool} {n0 : Nat} {h0 : Heap} (W : Walks prog w A.in1 I fp wr 2 P St) (u0 : ∀ v, P 0 v → v = va) (u1 : ∀ v, P 1 v → v = vb)
    (hcmp : ∀ (s' : Shared) (Q' E' : Value → Shared → Prop), (∀ x o, h0.get? x = some o → s'.heap.get? x = some o) → Q' (.bool c) s' → wpAny (model prog w) A.in1 (richCompare .Lt vb va) Q' E' s')
    (hSf : S ∉ fp) (hw0 : ∀ x o, h0.get? x = some o → x ∉ wr ∧ x ≠ S) (hst : St 0 s.heap) (hS : s.heap.get? S = some { cls := .type "list", dict := none, data := .seq #[] n0, slots := #[] }) (hk0 : ∀ x o, h0.get? x = some o → s.heap.get? x = some o)
    (hR : ∀ h' tk, (∀ x o, h0.get? x = some o → h'.get? x = some o) → R (.ok (.ret (if c then vb else va))) { s with heap := h', toks := tk }) :
    codeAny (model prog w) A (.builtin "min.loop" ⟨[.ref I, .none, .ref S], []⟩) R s := by
  have hSw : S ∉ wr := fun h => hSf (W.sub _ h)
  have hname : (toString "min" ++ toString ".loop" : String) = "min.loop" := by decide
  have fr : ∀ (i : Nat) (h : Heap) (f : Obj → Obj), St i h → St i (h.update S f) := fun i h f st => W.frame _ _ _ st fun x hx o e => (Heap.get?_update_other _ _ (fun z : S = x => hSf (by rw [z]; exact hx))).trans e
  -- the first item
  refine codeAny_builtin F.entry_min_loop ?_
  rw [Around.under_plainId F.plain_min_loop _]
  show wpAny _ A.in1 (seqItems? (.ref S) >>= _) _ _ s
  refine wpAny_bind (wpAny_seqItems hS rfl ?_)
  show wpAny _ A.in1 (tryCatch (pyNext (.ref I)) _ >>= _) _ _ s
  refine wpAny_bind (wpAny_tryCatch (W.item 0 s _ _ (by decide) hst fun v h1 t1 hP st1 k1 => ?_))
  obtain rfl := u0 v hP
  have hS1 := k1 S _ hSw hS
  show wpAny _ A.in1 (updateSeq S (fun _ => #[v, v]) >>= _) _ _ _
  refine wpAny_bind (wpAny_updateSeq hS1 rfl ?_)
  rw [hname]
  refine wpAny_pure ⟨plainId_quiet F.plain_min_loop _, ?_⟩
  have g1 : ∀ x o, h0.get? x = some o → h1.get? x = some o := fun x o e => k1 x o (hw0 x o e).1 (hk0 x o e)
  -- the second one
  refine codeAny_builtin F.entry_min_loop ?_
  rw [Around.under_plainId F.plain_min_loop _]
  show wpAny _ A.in1 (seqItems? (.ref S) >>= _) _ _ _
  refine wpAny_bind (wpAny_seqItems (Heap.get?_update_self _ hS1 rfl) rfl ?_)
  show wpAny _ A.in1 (tryCatch (pyNext (.ref I)) _ >>= _) _ _ _
  refine wpAny_bind (wpAny_tryCatch (W.item 1 _ _ _ (by decide) (fr _ _ _ st1) fun v2 h2 t2 hP2 st2 k2 => ?_))
  obtain rfl := u1 v2 hP2
  have hS2 := k2 S _ hSw (Heap.get?_update_self _ hS1 rfl)
  have g2 : ∀ x o, h0.get? x = some o → h2.get? x = some o := fun x o e => k2 x o (hw0 x o e).1 ((Heap.get?_update_other _ _ (Ne.symm (hw0 x o e).2)).trans (g1 x o e))
  show wpAny _ A.in1 (tryCatch (holding [v2, v2] (richCompare .Lt v2 v >>= _)) _ >>= _) _ _ _
  refine wpAny_bind (wpAny_tryCatch (wpAny_holding (wpAny_bind (hcmp _ _ _ g2 ?_))))
  refine wpAny_bind (wpAny_holding (wpAny_truthy_bool ?_))
  refine wpAny_bind (wpAny_letGo (wpAny_pure ?_))
  -- the end
  have fin : ∀ (vb : Value) (h3 : Heap) (t3 : Nat) (m : Nat), St 2 h3 → h3.get? S = some { cls := .type "list", dict := none, data := .seq #[vb, vb] m, slots := #[] } → (∀ x o, h0.get? x = some o → h3.get? x = some o) → vb = (if c then v2 else v) →
      codeAny (model prog w) A (.builtin "min.loop" ⟨[.ref I, .none, .ref S], []⟩) R { s with heap := h3, toks := t3 } := by
    intro vb h3 t3 m st3 hS3 g3 ev
    refine codeAny_builtin F.entry_min_loop ?_
    rw [Around.under_plainId F.plain_min_loop _]
    show wpAny _ A.in1 (seqItems? (.ref S) >>= _) _ _ _
    refine wpAny_bind (wpAny_seqItems hS3 rfl ?_)
    show wpAny _ A.in1 (tryCatch (pyNext (.ref I)) _ >>= _) _ _ _
    refine wpAny_bind (wpAny_tryCatch (W.done _ _ _ st3 fun h4 t4 k4 => ?_))
    have hS4 := k4 S _ hSw hS3
    show wpAny _ A.in1 (updateSeq S (fun _ => #[]) >>= _) _ _ _
    refine wpAny_bind (wpAny_updateSeq hS4 rfl (wpAny_bind (wpAny_letGo (wpAny_pure ?_))))
    rw [ev]
    exact hR _ t4 fun x o e => (Heap.get?_update_other _ _ (Ne.symm (hw0 x o e).2)).trans (k4 x o (hw0 x o e).1 (g3 x o e))
  cases hc : c with
  | true =>
    simp only [if_true]
    refine wpAny_bind (wpAny_updateSeq hS2 rfl (wpAny_bind (wpAny_letGo ?_)))
    rw [hname]
    refine wpAny_pure ⟨plainId_quiet F.plain_min_loop _, fin v2 _ _ _ (fr _ _ _ st2) (Heap.get?_update_self _ hS2 rfl) (fun x o e => (Heap.get?_update_other _ _ (Ne.symm (hw0 x o e).2)).trans (g2 x o e)) (by rw [hc]; rfl)⟩
  | false =>
    simp only [Bool.false_eq_true, if_false]
    refine wpAny_bind (wpAny_letGo ?_)
    rw [hname]
    exact wpAny_pure ⟨plainId_quiet F.plain_min_loop _, fin v _ _ _ st2 hS2 g2 (by rw [hc]; rfl)⟩
/-- min(a, b), where b < a answers c in each state that keeps what stands now -/
theorem min_two_any {a b : Value} {c : Bool} {Q : Value → Shared → Prop} (hh : A.handled = none)
    (hcmp : ∀ (s' : Shared) (Q' E' : Value → Shared → Prop), (∀ x o, s.heap.get? x = some o → s'.heap.get? x = some o) → Q' (.bool c) s' → wpAny (model prog w) A.in1 (richCompare .Lt b a) Q' E' s')
    (h : ∀ h' tk, (∀ x o, s.heap.get? x = some o → h'.get? x = some o) → Q (if c then b else a) { s with heap := h', toks := tk }) :
    wpAny (model prog w) A (call (.builtin "min") [a, b]) Q E s := by
  have hname : (toString "min" ++ toString ".loop" : String) = "min.loop" := by decide
  have hT : (s.heap.push { cls := .type "tuple", data := .seq #[a, b] }).IsTuple s.heap.objs.size #[a, b] := ⟨_, Heap.get?_push_size _ rfl, rfl, 0, rfl⟩
  have hsz : (s.heap.push { cls := .type "tuple", data := .seq #[a, b] }).objs.size = s.heap.objs.size + 1 := Heap.size_push ..
  refine call_function_tree F.kind_min F.plain_min F.entry_min (F.args_min2 _ _) ?_
  show wpAny _ A.in1 (Builtin.Builtins.bindParams "min" ["key", "default"] 0 ⟨[], []⟩ >>= _) _ _ s
  refine wpAny_bind (wpAny_of_eq (show Builtin.Builtins.bindParams "min" ["key", "default"] 0 ⟨[], []⟩ = pure [none, none] from rfl) ?_)
  show wpAny _ A.in1 (newTuple [a, b] >>= _) _ _ s
  refine wpAny_bind (wpAny_newObj_type ?_)
  refine wpAny_bind (wpAny_pyIter_tuple hT ?_)
  refine wpAny_bind (wpAny_newObj_type ?_)
  rw [hname]
  refine wpAny_pure ⟨plainId_quiet F.plain_min_loop _, ?_⟩
  refine min_walk2 (h0 := s.heap) (Walks.tuple (A := A.in1) hh _ s.heap.objs.size (by rw [hsz]; exact Nat.ne_of_lt (Nat.lt_succ_self _)) #[a, b]) (fun v hv => ?_) (fun v hv => ?_) hcmp ?_ (fun x o e => ?_) ⟨⟨_, Heap.get?_push_of_some _ (Heap.get?_push_size _ rfl), rfl, rfl⟩, (hT.push _).push _⟩ (Heap.get?_push_size _ rfl) (fun x o e => Heap.get?_push_of_some _ (Heap.get?_push_of_some _ (Heap.get?_push_of_some _ e))) h
  · simpa using hv.symm
  · simpa using hv.symm
  · intro hm
    rcases List.mem_cons.mp hm with z | z
    · exact absurd (((Heap.size_push _ _).trans (congrArg (· + 1) hsz)).symm.trans (z.trans hsz)) (by show ¬ (s.heap.objs.size + 1 + 1 = s.heap.objs.size + 1); omega)
    · exact absurd (((Heap.size_push _ _).trans (congrArg (· + 1) hsz)).symm.trans (List.mem_singleton.mp z)) (by show ¬ (s.heap.objs.size + 1 + 1 = s.heap.objs.size); omega)
  · have hx := Heap.lt_size e
    refine ⟨fun hm => ?_, fun z => ?_⟩
    · exact absurd ((List.mem_singleton.mp hm).trans hsz) (Nat.ne_of_lt (Nat.lt_succ_of_lt hx))
    · have z2 := z.trans ((Heap.size_push _ _).trans (congrArg (· + 1) hsz))
      exact absurd z2 (Nat.ne_of_lt (Nat.lt_succ_of_lt (Nat.lt_succ_of_lt hx)))
end
/-- min(x, y), data that can be compared: the second one if it is less -/
theorem cr_min2D {X : Cx} (hc : X.calm = true) (hu : X.A.units + 65 < cLine) : CallR X (.builtin "min") (fun xs H Q => ∃ a b da db, xs = [a, b] ∧ Dp X.K H a da ∧ Dp X.K H b db ∧ PySem.W.alike db da = true ∧ db ≠ .none ∧ db.depth ≤ 64 ∧ Q (if PySem.W.dataLt db da = true then b else a) H) := by
  intro pins s σ H xs us Q I r h
  obtain ⟨a, b, da, db, rfl, ha, hb, al, nn, dp, q⟩ := h
  obtain ⟨u, v, rfl, r1, r2⟩ := vals2 r
  refine min_two_any (c := PySem.W.dataLt db da) (I.ok.hd hc) (fun s' Q' E' k q' => ?_) fun h' tk k => ?_
  · have I' := I.kept (t' := s.toks) k
    obtain ⟨as, ra⟩ := Dp.reads I' da a u ha r1
    obtain ⟨bs, rb⟩ := Dp.reads I' db b v hb r2
    refine PySem.W.rcLt_alike db da X.A.in1 s' v u bs as rb ra al nn ?_ _ _ _ _ q'
    have : min db.depth da.depth ≤ 64 := Nat.le_trans (Nat.min_le_left _ _) dp
    show X.A.units + 1 + _ < _
    omega
  · refine ⟨_, H, I.kept k, ?_, q⟩
    cases PySem.W.dataLt db da
    · exact r1
    · exact r2
theorem alike_L : ∀ a b : List Int, PySem.W.alike (L a) (L b) = true := by
  have go : ∀ a b : List Int, PySem.W.alikeAll (a.map .int) (b.map .int) = true := by
    intro a
    induction a with
    | nil => intro b; rfl
    | cons x a ih =>
      intro b
      cases b with
      | nil => rfl
      | cons y b =>
        show (true && PySem.W.alikeAll (a.map .int) (b.map .int)) = true
        rw [ih b]; rfl
  exact go
/-- the lesser of two lists of ints -/
def minLL (a b : List Int) : List Int := if PySem.W.dataLt (L b) (L a) = true then b else a
theorem ev_minLL {X : Cx} {ρ : Ro} {O O1 O2 : Own} {pos p : Pos} {a b : Expr} {ns ms : List Int} (hc : X.calm = true) (hu : X.A.units + 65 < cLine) (hm : X.mg "min" = none) (ha : Ev X ρ O a (.d (L ns)) O1) (hb : Ev X ρ O1 b (.d (L ms)) O2) (hg : Gl X "min" := by rfl) (hs : starEach [a, b] X.env = (false, eval a X.env) :: starEach [b] X.env := by rfl) (hs2 : starEach [b] X.env = (false, eval b X.env) :: starEach [] X.env := by rfl) (hpl : (backTo pos (starEach [b] X.env)).any (·.1) = false := by rfl) :
    Ev X ρ O (.Call (.Name "min" p) [a, b] [] pos) (.d (L (minLL ns ms))) O2 :=
  ew_callB (cr_min2D hc hu) hm b_min (ea_cons ha (ea_cons hb ea_nil hs2) hs) (fun F H vs Q ok iv k => by
    obtain ⟨v, w, rfl, i1, i2⟩ := pair2 iv
    refine ⟨v, w, L ns, L ms, rfl, Dt.dp (Dt.mono ok.same (of_imd i1)), Dt.dp (Dt.mono ok.same (of_imd i2)), alike_L _ _, nofun, Nat.le_trans (sh_L ms).2 (by decide), ?_⟩
    cases hd : PySem.W.dataLt (L ms) (L ns) with
    | true => exact k _ _ _ F H ⟨by unfold minLL; rw [if_pos hd], rfl⟩ ok Ext.refl i2
    | false => exact k _ _ _ F H ⟨by unfold minLL; rw [if_neg (by rw [hd]; decide)], rfl⟩ ok Ext.refl i1) hg (hs := hs) (hplain := hpl)
end AL

/-! AL9: comprehensions with effects, tables that change, targets of lists, isinstance of instances, written dicts. -/
namespace AL
open PySem PySem.Spec PyProof.Rows L2
section
variable {X : Cx} {ρ : Ro} {O O1 O2 O3 : Own} {pos pp apos p : Pos} {tg iter elt a b c e o : Expr} {es : List Expr} {scope : Scope} {own : List (Str × Nat)} {sts : List Stmt} {R : Out → Own → Prop}
/-! ### comprehensions whose turns change cells -/
theorem lc_rel {xs : List Im} {need : Own → Prop} (hi : Itr X ρ O tg iter xs O1 need) (Iv : Nat → Own → List Im → Prop) (h0 : Iv 0 O1 []) (hn : ∀ k O acc, k ≤ xs.length → Iv k O acc → need O) (hz : xs.length ≤ sizeLine)
    (turn : ∀ k x O acc, xs[k]? = some x → Iv k O acc → ∃ ρ2, (Blk X scope fun X' => Eg X' (own.map (·.2)) (wipeR ρ (own.map (·.2))) O tg x ρ2) ∧ Blk X scope fun X' => EW X' ρ2 O elt fun it O' => Iv (k + 1) O' (acc ++ [it])) :
    ∃ wi, PI X tg iter wi ∧ ∀ (σ : L2.St) (F H : Hp) (Q : VK), Ok X.K F H O → Rho X.K F ρ σ →
      (∀ D xs' F' H' O' acc, Iv xs.length O' acc → Ok X.K F' H' O' → Ext F H O F' H' O' → F' D = some (.lst xs') → Paired (ImOk X.K F') acc xs' → Q (.ref D) H') →
      tLc wi (gB X scope tg) (ttB X scope []) (teB X scope elt) (own.map (·.2)) σ H Q := by
  obtain ⟨wi, pi, ki⟩ := hi
  refine ⟨wi, pi, fun σ F H Q ok rho z => ki σ F H _ ok rho fun J G Y F1 H1 ok1 x1 w hG hY D hD => ?_⟩
  have fD : F1 D = none := ok1.same.free hD
  refine lc_it w (fun k H2 => ∃ F2 acc accI Ok2, Iv k Ok2 accI ∧ Ok X.K F2 H2 Ok2 ∧ Ext F1 H1 O1 F2 H2 Ok2 ∧ H2 D = some (.lst acc) ∧ F2 D = none ∧ Ok2 D = none ∧ acc.length ≤ k ∧ Paired (ImOk X.K F2) accI acc) ?_ ?_ ?_ ?_
  · exact ⟨F1, [], [], O1, h0, ok1.foreign fD (ok1.fresh hD), Ext.refl.updFresh hD, upd_same, fD, ok1.fresh hD, Nat.le_refl _, .nil⟩
  · rintro k H2 hk ⟨F2, acc, accI, Ok2, iv, ok2, x2, _⟩
    exact hG F2 H2 _ x2.f ok2 (hn k _ _ hk iv)
  · rintro k x H2 H3 hk ⟨F2, acc, accI, Ok2, iv, ok2, x2, hD2, fD2, oD2, hl, hp⟩ hy
    have hx : xs[k]? = some xs[k] := by simp [hk]
    obtain ⟨F3, ok3, x3, i3⟩ := hY k xs[k] F2 H2 _ x H3 hx x2.f ok2 (hn k _ _ (Nat.le_of_lt hk) iv) hy
    have dD : ∀ {F' H' : Hp} {O' : Own}, Ext F2 H2 Ok2 F' H' O' → H' D = some (.lst acc) ∧ F' D = none ∧ O' D = none := fun {F' H' O'} ex => by
      refine ⟨ex.h D _ hD2 oD2, ex.n D fD2 (by rw [hD2]; simp) oD2, ?_⟩
      cases q : O' D with
      | none => rfl
      | some c =>
        rcases ex.o D (by rw [q]; simp) with z | z
        · exact absurd oD2 z
        · rw [hD2] at z; cases z
    obtain ⟨ρ2, tgt, ev⟩ := turn k _ Ok2 accI hx iv
    have rho' : Rho X.K F3 (wipeR ρ (own.map (·.2))) (L2.wipe σ (own.map (·.2))) := (rho.mono ((x1.trans x2).trans x3).f).wipe _
    intro s0 H0 C cl fp
    refine tgt s0 H0 C cl fp x (L2.wipe σ (own.map (·.2))) F3 H3 _ ok3 rho' i3 fun r o σ2 F4 H4 hr ok4 x4 rho4 hlen hsame => ?_
    obtain ⟨rfl, rfl⟩ := hr
    refine ⟨wipe_eq hlen hsame, ?_⟩
    intro s0 H0 C cl fp
    refine iw_nil σ2 F4 H4 _ ok4 rho4 fun F5 H5 ok5 x5 => ?_
    have xk := (x3.trans x4).trans x5
    refine iteT ?_
    intro s0 H0 C cl fp
    refine ev s0 H0 C cl fp σ2 F5 H5 _ ok5 (rho4.mono x5.f) fun it O' v F6 H6 he ok6 x6 i6 => ?_
    have xk2 := xk.trans x6
    obtain ⟨d1, d2, d3⟩ := dD xk2
    exact ⟨acc, d1, by omega, F6, acc ++ [v], accI ++ [it], O', he, ok6.foreign d2 d3, (x2.trans xk2).updFresh hD, upd_same, d2, d3, by simp; omega, PairedIm.app (PairedIm.mono xk2.f hp) (.cons i6 .nil)⟩
  · rintro H2 ⟨F2, acc, accI, Ok2, iv, ok2, x2, hD2, fD2, oD2, hl, hp⟩
    exact z D acc _ H2 Ok2 accI iv (ok2.adopt fD2 oD2 hD2) ((x1.trans x2).adopt (x1.g D hD) fD2) upd_same (PairedIm.mono (fun b u e => by rw [upd_ne (ne_of_none e fD2)]; exact e) hp)
/-- from a list of items to what it is read as -/
def As (it it' : Im) : Prop := ∀ (K : PySem.W.Frag) (F : Hp) (v : V), ImOk K F it v → ImOk K F it' v
theorem as_self {it : Im} : As it it := fun _ _ _ h => h
theorem as_data {ds : List PyData} : As (.l (ds.map .d)) (iL ds) := fun K F v h => by
  obtain ⟨a, vs, rfl, h1, q⟩ := of_iml h
  exact mL h1 (DtAll.of_im q)
theorem as_dataT {ds : List PyData} : As (.t (ds.map .d)) (iT ds) := fun K F v h => by
  obtain ⟨a, vs, rfl, h1, q⟩ := of_imt h
  exact mT h1 (DtAll.of_im q)
theorem Ev.as {it it' : Im} (h : Ev X ρ O e it O1) (q : As it it') : Ev X ρ O e it' O1 := fun σ F H Q ok rho z => h σ F H Q ok rho fun i O' v F' H' r ok' x' iv => by
  obtain ⟨rfl, rfl⟩ := r
  exact z _ _ v F' H' ⟨rfl, rfl⟩ ok' x' (q _ _ _ iv)
/-- a tuple of items, walked -/
theorem itr_t {is : List Im} (ha : Ev X ρ O a (.t is) O1) : Itr X ρ O tg a is O1 nd0 := by
  obtain ⟨t, p, k⟩ := ha.out
  refine ⟨_, pi_tup p, fun σ F H R ok rho z => k σ F H _ ok rho fun it O' v F1 H1 e ok1 x1 i1 => ?_⟩
  obtain ⟨rfl, rfl⟩ := e
  obtain ⟨l, xs, rfl, h1, q1⟩ := of_imt i1
  refine ⟨l, rfl, ⟨xs, SqT.of (ok1.same _ _ h1)⟩, z _ _ _ F1 H1 ok1 x1 (walk_n (walk_tup (xs := xs)) q1.length) (fun F2 H2 O2 s ok2 _ => SqT.of (ok2.same _ _ (s _ _ h1))) ?_⟩
  rintro i it F2 H2 O2 x H3 hi s ok2 _ ⟨rfl, y⟩
  obtain ⟨w, h2, h3⟩ := PairedIm.get q1 hi
  rw [h2] at y; cases y
  exact ⟨F2, ok2, Ext.refl, h3.mono s⟩
theorem ew_lcE {α : Type} {as : List α} {enc : α → Im} {need : Own → Prop} {Q : EQ} (Iv : Nat → Own → List Im → Prop) (hc : X.calm = true) (hN : X.N.Nodup) (bk : BlkOk X.N X.env.scope scope own) (hi : Itr X ρ O tg iter (as.map enc) O1 need) (hz : as.length ≤ sizeLine) (h0 : Iv 0 O1 []) (hn : ∀ k O acc, k ≤ as.length → Iv k O acc → need O)
    (turn : ∀ k a O acc, as[k]? = some a → Iv k O acc → ∃ ρ2, (Blk X scope fun X' => Eg X' (own.map (·.2)) (wipeR ρ (own.map (·.2))) O tg (enc a) ρ2) ∧ Blk X scope fun X' => EW X' ρ2 O elt fun it O' => Iv (k + 1) O' (acc ++ [it]))
    (r : ∀ O' acc, Iv as.length O' acc → ∃ it, As (.l acc) it ∧ Q it O') (hs : ∀ x, foldedSetIterable iter X.env x = pure x := by intro _; rfl) : EW X ρ O (.ListComp elt [⟨tg, iter, [], 0⟩] scope pos) Q := by
  obtain ⟨wi, pi, k⟩ := lc_rel (own := own) (scope := scope) hi Iv h0 (fun k O acc hk => hn k O acc (by rw [List.length_map] at hk; exact hk)) (by rw [List.length_map]; exact hz) (fun k x O acc hx iv => by
    rw [List.getElem?_map] at hx
    cases e : as[k]? with
    | none => rw [e] at hx; cases hx
    | some a => rw [e] at hx; cases hx; exact turn k a O acc e iv)
  refine EW.mk ⟨_, pe_lc hc hN pi bk (gB_ok tg) (ttB_ok []) (teB_ok elt) hs, fun σ F H Q ok rho z => k σ F H _ ok rho fun D xs' F' H' O' acc iv ok' x' hD hp => ?_⟩
  rw [List.length_map] at iv
  obtain ⟨it, as', r⟩ := r O' acc iv
  exact z it O' _ F' H' r ok' x' (as' _ _ _ (iml hD hp))
theorem wps_lcE {α : Type} {as : List α} {enc : α → Im} {need : Own → Prop} (i : Nat) {y : Str} {py spos : Pos} (Iv : Nat → Own → List Im → Prop) (hc : X.calm = true) (hN : X.N.Nodup) (bk : BlkOk X.N X.env.scope scope own) (hi : Itr X ρ O tg iter (as.map enc) O1 need) (hz : as.length ≤ sizeLine) (h0 : Iv 0 O1 []) (hn : ∀ k O acc, k ≤ as.length → Iv k O acc → need O)
    (turn : ∀ k a O acc, as[k]? = some a → Iv k O acc → ∃ ρ2, (Blk X scope fun X' => Eg X' (own.map (·.2)) (wipeR ρ (own.map (·.2))) O tg (enc a) ρ2) ∧ Blk X scope fun X' => EW X' ρ2 O elt fun it O' => Iv (k + 1) O' (acc ++ [it]))
    (r : ∀ O' acc, Iv as.length O' acc → ∃ it, As (.l acc) it ∧ Wps X (ρ.set i (some it)) O' sts R) (hsw : swapsWith (.ListComp elt [⟨tg, iter, [], 0⟩] scope pos) (some (.Name y py)) spos.line X.env = pure true := by exact sw_true rfl rfl rfl (by rfl)) (hy : X.N[i]? = some y := by rfl) (hyl : X.env.scope.names.lookup y = some .local := by rfl) (hs : ∀ x, foldedSetIterable iter X.env x = pure x := by intro _; rfl) :
    Wps X ρ O (.Assign [.Name y py] (.ListComp elt [⟨tg, iter, [], 0⟩] scope pos) spos :: sts) R := by
  obtain ⟨wi, pi, k⟩ := lc_rel (own := own) (scope := scope) hi Iv h0 (fun k O acc hk => hn k O acc (by rw [List.length_map] at hk; exact hk)) (by rw [List.length_map]; exact hz) (fun k x O acc hx iv => by
    rw [List.getElem?_map] at hx
    cases e : as[k]? with
    | none => rw [e] at hx; cases hx
    | some a => rw [e] at hx; cases hx; exact turn k a O acc e iv)
  refine wps_cons (Wp.mk ⟨_, ps_setLc hc hN hy hyl hsw pi bk (gB_ok tg) (ttB_ok []) (teB_ok elt) hs, fun σ F H D ok rho z => k σ F H _ ok rho fun L xs' F' H' O' acc iv ok' x' hD hp => ?_⟩)
  rw [List.length_map] at iv
  obtain ⟨it, as', r⟩ := r O' acc iv
  exact z.nx _ _ _ F' H' r ok' x' ((rho.mono x'.f).set (as' _ _ _ (iml hD hp)) i)
/-! ### tables whose rows are owned -/
def RowAt (O : Own) (p : Addr) (r : List Int) : Prop := O p = some (.lst (r.map iI))
structure Mu (O0 O : Own) (ps : List Addr) (rows : List (List Int)) : Prop where
  out : ∀ b, b ∉ ps → O b = O0 b
  in_ : Paired (RowAt O) ps rows
  fr : ∀ p ∈ ps, O0 p = none
  nd : ps.Nodup
theorem Mu.nil {O0 : Own} : Mu O0 O0 [] [] := ⟨fun _ _ => rfl, .nil, fun _ h => (by cases h), .nil⟩
theorem Paired.map2 {α β : Type} {P Q : α → β → Prop} : ∀ {xs : List α} {ys : List β}, Paired P xs ys → (∀ x ∈ xs, ∀ y, P x y → Q x y) → Paired Q xs ys
  | _, _, .nil, _ => .nil
  | _, _, .cons h t, k => .cons (k _ (by simp) _ h) (Paired.map2 t fun x hx => k x (List.mem_cons_of_mem _ hx))
theorem Paired.snoc {α β : Type} {P : α → β → Prop} {x : α} {y : β} (r : P x y) : ∀ {xs : List α} {ys : List β}, Paired P xs ys → Paired P (xs ++ [x]) (ys ++ [y])
  | _, _, .nil => .cons r .nil
  | _, _, .cons h t => .cons h (Paired.snoc r t)
theorem Paired.at2 {α β : Type} {P : α → β → Prop} : ∀ {xs : List α} {ys : List β} {i : Nat} {y : β}, Paired P xs ys → ys[i]? = some y → ∃ x, xs[i]? = some x ∧ P x y
  | _, _, _, _, .nil, e => by simp at e
  | _, _, 0, _, .cons h _, e => by simp at e; subst e; exact ⟨_, rfl, h⟩
  | _, _, i + 1, y, .cons _ t, e => by
    obtain ⟨v, h1, h2⟩ := Paired.at2 (i := i) (y := y) t (by simpa using e)
    exact ⟨v, by simpa using h1, h2⟩
theorem Mu.new {O0 O : Own} {ps : List Addr} {rows : List (List Int)} (m : Mu O0 O ps rows) {q : Addr} {r : List Int} (h : O q = none) : Mu O0 (setO O q (.lst (r.map iI))) (ps ++ [q]) (rows ++ [r]) := by
  have hq : q ∉ ps := fun z => by
    obtain ⟨j, hj⟩ := List.mem_iff_getElem?.mp z
    have : ∃ r' : List Int, O q = some (.lst (r'.map iI)) := by
      have go : ∀ {xs : List Addr} {ys : List (List Int)} {j : Nat}, Paired (RowAt O) xs ys → xs[j]? = some q → ∃ r' : List Int, O q = some (.lst (List.map iI r')) := by
        intro xs ys j pr
        induction pr generalizing j with
        | nil => intro e; simp at e
        | cons h2 t ih =>
          intro e
          cases j with
          | zero => simp at e; subst e; exact ⟨_, h2⟩
          | succ j => exact ih (by simpa using e)
      exact go m.in_ hj
    obtain ⟨r', e⟩ := this
    rw [h] at e; cases e
  refine ⟨fun b hb => ?_, Paired.snoc (P := RowAt _) setO_same (Paired.map2 m.in_ fun x hx y e => ?_), fun p hp => ?_, ?_⟩
  · have h1 : b ≠ q := fun z => hb (by simp [z])
    rw [setO_ne h1]
    exact m.out b fun z => hb (by simp [z])
  · have h1 : x ≠ q := fun z => hq (by rw [← z]; exact hx)
    show setO O q _ x = _
    rw [setO_ne h1]; exact e
  · rcases List.mem_append.mp hp with hp | hp
    · exact m.fr p hp
    · rw [List.mem_singleton.mp hp, ← m.out q hq]; exact h
  · rw [List.nodup_append]
    exact ⟨m.nd, by simp, fun x hx y hy z => hq (by rw [List.mem_singleton.mp hy] at z; rw [← z]; exact hx)⟩
theorem Mu.at {O0 O : Own} {ps : List Addr} {rows : List (List Int)} (m : Mu O0 O ps rows) {i : Nat} {r : List Int} (h : rows[i]? = some r) : ∃ q, ps[i]? = some q ∧ O q = some (.lst (r.map iI)) := Paired.at2 (P := RowAt O) m.in_ h
theorem Mu.len {O0 O : Own} {ps : List Addr} {rows : List (List Int)} (m : Mu O0 O ps rows) : ps.length = rows.length := m.in_.length
theorem Mu.set {O0 O : Own} {ps : List Addr} {rows : List (List Int)} (m : Mu O0 O ps rows) {i : Nat} {q : Addr} {r : List Int} (h : ps[i]? = some q) : Mu O0 (setO O q (.lst (r.map iI))) ps (rows.set i r) := by
  have hq : q ∈ ps := List.mem_of_getElem? h
  refine ⟨fun b hb => ?_, ?_, m.fr, m.nd⟩
  · rw [setO_ne (fun z => hb (by rw [z]; exact hq))]; exact m.out b hb
  · have go2 : ∀ {xs : List Addr} {ys : List (List Int)} {i : Nat}, xs.Nodup → Paired (RowAt O) xs ys → xs[i]? = some q → Paired (RowAt (setO O q (.lst (r.map iI)))) xs (ys.set i r) := by
      intro xs ys i nd pr
      induction pr generalizing i with
      | nil => intro e; simp at e
      | @cons x y xs ys h t ih =>
        intro e
        obtain ⟨n1, n2⟩ := List.nodup_cons.mp nd
        cases i with
        | zero =>
          simp at e; subst e
          exact .cons setO_same (Paired.map2 t fun z hz _ e => by
            show setO O x _ z = _
            rw [setO_ne (fun w => n1 (by rw [← w]; exact hz))]; exact e)
        | succ i =>
          have e' : xs[i]? = some q := by simpa using e
          refine .cons ?_ (ih n2 e')
          show setO O q _ x = _
          rw [setO_ne (fun w => n1 (by rw [w]; exact List.mem_of_getElem? e'))]; exact h
    exact go2 m.nd m.in_ h
/-- another cell changes -/
theorem Mu.other {O0 O : Own} {ps : List Addr} {rows : List (List Int)} (m : Mu O0 O ps rows) {q : Addr} {c : Cell} (h : O0 q ≠ none) : Mu (setO O0 q c) (setO O q c) ps rows := by
  have hq : q ∉ ps := fun z => h (m.fr q z)
  refine ⟨fun b hb => ?_, Paired.map2 m.in_ fun x hx y e => ?_, fun p hp => ?_, m.nd⟩
  · by_cases e : b = q
    · subst e; rw [setO_same, setO_same]
    · rw [setO_ne e, setO_ne e]; exact m.out b hb
  · show setO O q c x = _
    rw [setO_ne (fun w => hq (by rw [← w]; exact hx))]; exact e
  · rw [setO_ne (fun w => hq (by rw [← w]; exact hp))]; exact m.fr p hp
def delAll (O : Own) : List Addr → Own
  | [] => O
  | p :: ps => delAll (delO O p) ps
theorem delO_ne {O : Own} {p b : Addr} (h : b ≠ p) : delO O p b = O b := by unfold delO; rw [if_neg h]
theorem delAll_eq : ∀ (ps : List Addr) (O : Own) (b : Addr), (b ∈ ps → delAll O ps b = none) ∧ (b ∉ ps → delAll O ps b = O b)
  | [], O, b => ⟨fun h => (by cases h), fun _ => rfl⟩
  | p :: ps, O, b => by
    obtain ⟨h1, h2⟩ := delAll_eq ps (delO O p) b
    refine ⟨fun h => ?_, fun h => ?_⟩
    · by_cases hb : b ∈ ps
      · exact h1 hb
      · have : b = p := (List.mem_cons.mp h).resolve_right hb
        show delAll (delO O p) ps b = none
        rw [h2 hb]
        unfold delO
        rw [if_pos this]
    · show delAll (delO O p) ps b = O b
      rw [h2 (fun z => h (List.mem_cons_of_mem _ z)), delO_ne (fun z => h (by simp [z]))]
theorem Mu.del {O0 O : Own} {ps : List Addr} {rows : List (List Int)} (m : Mu O0 O ps rows) : delAll O ps = O0 := by
  funext b
  by_cases hb : b ∈ ps
  · rw [(delAll_eq ps O b).1 hb, m.fr b hb]
  · rw [(delAll_eq ps O b).2 hb, m.out b hb]
theorem Ok.freezeAll {K : PySem.W.Frag} : ∀ {ps : List Addr} {rows : List (List Int)} {F H : Hp} {O : Own}, Ok K F H O → ps.Nodup → Paired (RowAt O) ps rows →
    ∃ F', Ok K F' H (delAll O ps) ∧ Ext F H O F' H (delAll O ps) ∧ Paired (fun p r => Dt F' (.ref p) (L r)) ps rows
  | _, _, F, H, O, ok, _, .nil => ⟨F, ok, Ext.refl, .nil⟩
  | p :: ps, r :: rows, F, H, O, ok, nd, .cons h t => by
    obtain ⟨n1, n2⟩ := List.nodup_cons.mp nd
    obtain ⟨o, hH, hc, ok', x', s⟩ := ok.freeze h
    cases o <;> try exact hc.elim
    rename_i ws
    have q : Paired (ImOk K F) (r.map iI) ws := hc
    obtain ⟨F', ok2, x2, pr⟩ := Ok.freezeAll ok' n2 (Paired.map2 t fun x hx y e => by
      show delO O p x = _
      rw [delO_ne (fun w => n1 (by rw [← w]; exact hx))]; exact e)
    have q2 : DtAll F ws (r.map .int) := DtAll.of_im (by rw [List.map_map]; exact q)
    exact ⟨F', ok2, x'.trans x2, .cons (Dt.mono x2.f (.lst upd_same (DtAll.mono s q2))) pr⟩
theorem dt_rows {F : Hp} : ∀ {ps : List Addr} {rows : List (List Int)}, Paired (fun p r => Dt F (.ref p) (L r)) ps rows → DtAll F (ps.map V.ref) (rows.map L)
  | _, _, .nil => .nil
  | _, _, .cons h t => .cons h (dt_rows t)
theorem ptrs {K : PySem.W.Frag} {F : Hp} : ∀ {ps : List Addr} {vs : List V}, Paired (ImOk K F) (ps.map iP) vs → vs = ps.map V.ref
  | [], _, h => by cases h; rfl
  | p :: ps, _, h => by
    cases h with
    | cons h t =>
      rw [of_imv h, ptrs t]; rfl
/-- the table is laid for good -/
theorem wps_mu {O0 : Own} {ps : List Addr} {rows : List (List Int)} (m : Mu O0 O ps rows) (i : Nat) (hi : ρ[i]? = some (some (.l (ps.map iP)))) (r : Wps X (ρ.set i (some (.d (Tb rows)))) O0 sts R) : Wps X ρ O sts R := by
  intro σ F H D ok rho z
  obtain ⟨F', ok', x', pr⟩ := Ok.freezeAll ok m.nd m.in_
  rw [m.del] at ok' x'
  obtain ⟨v, hv, iv⟩ := rho.get hi
  obtain ⟨l, vs, rfl, hF, q⟩ := of_iml iv
  have e := ptrs q
  subst e
  have rho' : Rho X.K F' (ρ.set i (some (.d (Tb rows)))) (σ.set i (some (.ref l))) := (rho.mono x'.f).set (mL (x'.f _ _ hF) (dt_rows pr)) i
  have e2 : σ.set i (some (.ref l)) = σ := by
    apply List.ext_getElem?
    intro j
    by_cases hj : j = i
    · subst hj
      have hlt : j < σ.length := (List.getElem?_eq_some_iff.mp hv).1
      rw [List.getElem?_set_self hlt, hv]
    · rw [List.getElem?_set_ne (Ne.symm hj)]
  rw [e2] at rho'
  exact r σ _ H D ok' rho' (z.after x')
theorem ew_mu {O0 : Own} {ps : List Addr} {rows : List (List Int)} {Q : EQ} (ha : Ev X ρ O e (.l (ps.map iP)) O1) (m : Mu O0 O1 ps rows) (r : Q (.d (Tb rows)) O0) : EW X ρ O e Q := by
  intro σ F H Q' ok rho z
  refine ha σ F H Q' ok rho fun it O' v F1 H1 e ok1 x1 i1 => ?_
  obtain ⟨rfl, rfl⟩ := e
  obtain ⟨F', ok', x', pr⟩ := Ok.freezeAll ok1 m.nd m.in_
  rw [m.del] at ok' x'
  obtain ⟨l, vs, rfl, hF, q⟩ := of_iml i1
  have e := ptrs q
  subst e
  exact z _ _ _ _ _ r ok' (x1.trans x') (mL (x'.f _ _ hF) (dt_rows pr))
/-- rows[i], a pointer -/
theorem ev_ixl {is : List Im} {i : Int} {d : Im} (ha : Ev X ρ O a (.l is) O1) (hb : Ev X ρ O1 b (iI i) O2) (h : atI is i = some d) (hs : PlainIx b := by exact fun _ _ => rfl) : Ev X ρ O (.Subscript a b pos) d O2 :=
  ew_ix ix_list ha hb hs fun F H v w Q ok iv iw k => by
    obtain ⟨l, vs, rfl, h1, q⟩ := of_iml iv
    rw [imI iw]
    obtain ⟨u, h2, q2⟩ := PairedIm.at q h
    exact ⟨l, vs, i, u, rfl, rfl, SqL.of (ok.same _ _ h1), h2, k _ _ ⟨rfl, rfl⟩ q2⟩
theorem wps_sub {l : Addr} {is : List Im} {i : Int} {j : Nat} {it : Im} (hv : Ev X ρ O e it O1) (ha : Ev X ρ O1 a (iP l) O2) (hb : Ev X ρ O2 b (iI i) O3) (hl : O3 l = some (.lst is)) (hj : ixN is.length i = some j) (r : Wps X ρ (setO O3 l (.lst (is.set j it))) sts R)
    (hsub : ∀ v, assign (.Subscript a b p) X.env v = (do
      let ov ← holding [v] (eval a X.env)
      let iv ← holding [v, ov] (eval b X.env)
      standAt p
      holding [v, ov, iv] (setItem ov iv v)
      release [v, ov, iv] []) := by intro _; rfl)
    (hs : swapsWithSole [.Subscript a b p] e pos.line X.env = pure false := by rfl) (hw : swappedStores [.Subscript a b p] e X.env = pure none := by rfl) (h1 : (assignEach [.Subscript a b p] X.env).map (·.2) = [assign (.Subscript a b p) X.env] := by rfl) : Wps X ρ O (.Assign [.Subscript a b p] e pos :: sts) R :=
  wps_cons (wp_asg (Ev.w hv (tgt_sub ha hb hl hj r hsub)) hs hw h1)
theorem wps_subW {l : Addr} {i : Int} (hv : EW X ρ O e fun it O1 => ∃ O2 O3 is j, Ev X ρ O1 a (iP l) O2 ∧ Ev X ρ O2 b (iI i) O3 ∧ O3 l = some (.lst is) ∧ ixN is.length i = some j ∧ Wps X ρ (setO O3 l (.lst (is.set j it))) sts R)
    (hsub : ∀ v, assign (.Subscript a b p) X.env v = (do
      let ov ← holding [v] (eval a X.env)
      let iv ← holding [v, ov] (eval b X.env)
      standAt p
      holding [v, ov, iv] (setItem ov iv v)
      release [v, ov, iv] []) := by intro _; rfl)
    (hs : swapsWithSole [.Subscript a b p] e pos.line X.env = pure false := by rfl) (hw : swappedStores [.Subscript a b p] e X.env = pure none := by rfl) (h1 : (assignEach [.Subscript a b p] X.env).map (·.2) = [assign (.Subscript a b p) X.env] := by rfl) : Wps X ρ O (.Assign [.Subscript a b p] e pos :: sts) R :=
  wps_cons (wp_asg (EW.mono hv fun it O1 ⟨O2, O3, is, j, ha, hb, hl, hj, r⟩ => tgt_sub ha hb hl hj r hsub) hs hw h1)
theorem wps_par3 (i j l : Nat) {x y z : Str} {px py pz pt : Pos} {kt k2 : Nat} {pt2 : Pos} (hc : X.calm = true) (hN : X.N.Nodup) (h : AW X ρ O [a, b, c] fun is O' => ∃ u v w, is = [u, v, w] ∧ Wps X (((ρ.set i (some u)).set j (some v)).set l (some w)) O' sts R)
    (hw : swappedStores [.Tuple [.Name x px, .Name y py, .Name z pz] kt pt] (.Tuple [a, b, c] k2 pt2) X.env = pure (some [x, y, z]) := by rfl) (hi : X.N[i]? = some x := by rfl) (hj : X.N[j]? = some y := by rfl) (hl : X.N[l]? = some z := by rfl) (hij : i ≠ j := by decide) (hil : i ≠ l := by decide) (hjl : j ≠ l := by decide)
    (hx : X.env.scope.names.lookup x = some .local := by rfl) (hy : X.env.scope.names.lookup y = some .local := by rfl) (hz : X.env.scope.names.lookup z = some .local := by rfl)
    (hs : swapsWithSole [.Tuple [.Name x px, .Name y py, .Name z pz] kt pt] (.Tuple [a, b, c] k2 pt2) pos.line X.env = pure false := by rfl) : Wps X ρ O (.Assign [.Tuple [.Name x px, .Name y py, .Name z pz] kt pt] (.Tuple [a, b, c] k2 pt2) pos :: sts) R := by
  obtain ⟨t, p, k⟩ := h.out
  refine wps_cons (Wp.mk ⟨_, ps_par3 hc hN hi hj hl hij hil hjl hx hy hz p hw hs, fun σ F H D ok rho z => k σ F H _ ok rho fun is O' vs F' H' r ok' x' iv => ?_⟩)
  obtain ⟨i1, i2, i3, rfl, r⟩ := r
  cases iv with
  | cons j1 t => cases t with
    | cons j2 t => cases t with
      | cons j3 t =>
        cases t
        exact ⟨_, _, _, rfl, z.nx _ _ _ F' H' r ok' x' ((((rho.mono x'.f).set j1 i).set j2 j).set j3 l)⟩
/-! ### a, b = a list of two -/
def gLst (K : PySem.W.Frag) (n : Nat) (t : TGs) : TG := fun v σ H Q => ∃ a xs, v = .ref a ∧ SqL K H a xs ∧ xs.length = n ∧ t xs σ H Q
theorem pg_lst {k : Nat} {t : TGs} {n : Nat} (hc : X.calm = true) (h : PGs X es t)
    (hn : (assignEach es X.env).length = n := by rfl) (hst : (assignEach es X.env).findIdx? (·.1) = none := by rfl) : PG X (.Tuple es k pos) (gLst X.K n t) := by
  refine ⟨fun pins s σ H v u Q I r hw => ?_⟩
  obtain ⟨a, xs, e1, hq, hl, hw⟩ := hw
  subst e1
  cases r
  obtain ⟨its, rv, ⟨ob, m, h1, h2, h3, h4⟩, hz⟩ := I.list hq
  rw [PyProof.Rows.assign_Tuple]
  refine wpAny_bind (wpAny_standAt ?_)
  unfold unpack
  rw [hst]
  have hlen : (assignEach es X.env).length = its.toArray.size := by rw [hn, ← hl, rv.length]; simp
  rw [hlen]
  refine wpAny_bind (wpAny_holding (PySem.W.kun_itemsOf (I.ok.hd hc) ⟨ob, h1, h2, m, h4⟩ fun h' hx => ?_))
  have I1 : Inv X pins σ H { s with heap := h' } := I.kept (t' := s.toks) fun b o e => hx b o (Nat.ne_of_lt (Heap.lt_size e)) e
  exact h.run pins _ σ H xs _ Q I1 (by simpa using rv) hw
theorem eg_pairL (i j : Nat) {x y : Str} {a0 b0 : PyData} {px py : Pos} {kk : Nat} (hc : X.calm = true) (hN : X.N.Nodup) (hi : X.N[i]? = some x := by rfl) (hj : X.N[j]? = some y := by rfl) (hx : Loc X.env.scope x := by first | exact Or.inl rfl | exact Or.inr rfl) (hy : Loc X.env.scope y := by first | exact Or.inl rfl | exact Or.inr rfl)
    (hf : X.fn x = true ∨ X.env.scope.names.lookup x = some .local := by first | exact .inl rfl | exact .inr rfl | assumption) (hf2 : X.fn y = true ∨ X.env.scope.names.lookup y = some .local := by first | exact .inl rfl | exact .inr rfl | assumption) :
    Eg X [i, j] ρ O (.Tuple [.Name x px, .Name y py] kk pos) (iL [a0, b0]) ((ρ.set i (some (.d a0))).set j (some (.d b0))) :=
  TgN.mk ⟨_, pg_lst hc (pgs_cons (pg_name hN hi hx hf) (pgs_cons (pg_name hN hj hy hf2) pgs_nil rfl) rfl) rfl rfl, fun v σ F H Q ok rho iv z => by
    obtain ⟨T, vs, rfl, h1, q1⟩ := imL iv
    cases q1 with
    | cons i1 t => cases t with
      | cons i2 t =>
        cases t
        refine ⟨T, _, rfl, SqL.of (ok.same _ _ h1), rfl, _, _, rfl, _, _, rfl, rfl, z _ _ _ F H ⟨rfl, rfl⟩ ok Ext.refl ((rho.set (imd i1) i).set (imd i2) j) (by simp) fun l hl => ?_⟩
        rw [List.getElem?_set_ne (by intro e; exact hl (by simp [e])), List.getElem?_set_ne (by intro e; exact hl (by simp [e]))]⟩
/-! ### isinstance(o, C) -/
theorem ev_isO {l dx C D : Addr} {fs : List (Str × Im)} {q : Bool} (hm : X.mg "isinstance" = none) (ha : Ev X ρ O a (iP l) O1) (hb : Ev X ρ O1 b (.v (.ref D)) O2) (hl : O2 l = some (.ins C dx fs)) (cl : Cls X.K C) (h1 : PySem.W.findIn X.K (.ref C) "__class__" = some (some (.builtin "object.__class__")))
    (h2 : PySem.W.specialIn X.K (.builtin "object.__class__") "__get__" = some (some (.builtin "getset_descriptor.__get__"))) (h3 : PySem.W.takesIn X.K (.builtin "object.__class__") = some true) (h4 : PySem.W.mroIn X.K C (.type "object") = some true) (hk : PySem.W.kitOne X.K (.ref C) (.ref D) = some q) (hg : Gl X "isinstance" := by rfl)
    (hs : starEach [a, b] X.env = (false, eval a X.env) :: starEach [b] X.env := by rfl) (hs2 : starEach [b] X.env = (false, eval b X.env) :: starEach [] X.env := by rfl) (hpl : (backTo pos (starEach [b] X.env)).any (·.1) = false := by rfl) : Ev X ρ O (.Call (.Name "isinstance" p) [a, b] [] pos) (iB q) O2 :=
  ew_callB call_isi hm b_isinstance (ea_cons ha (ea_cons hb ea_nil hs2) hs) (fun F H vs Q ok iv k => by
    obtain ⟨v, w, rfl, i1, i2⟩ := pair2 iv
    have e1 : v = .ref l := of_imv i1
    have e2 : w = .ref D := of_imv i2
    subst e1; subst e2
    obtain ⟨gs, hH, _⟩ := insP ok hl
    exact ⟨_, _, _, _, q, rfl, .own D, .base (.ins hH cl h1 h2 h3 h4), hk, k _ _ _ F H ⟨rfl, rfl⟩ ok Ext.refl mB⟩) hg (hs := hs) (hplain := hpl)
/-- x.bit_length() -/
theorem ev_bits {i : Int} (ha : Ev X ρ O a (iI i) O1) (hbase : attributeBase a "bit_length" X.env (eval a X.env) = eval a X.env := by rfl) (hline : (apos.endLine == pos.line) = true := by rfl) : Ev X ρ O (.Call (.Attribute a "bit_length" apos) [] [] pos) (iI (Builtin.Int.intBits i : Nat)) O1 := by
  obtain ⟨t, p, k⟩ := ha.out
  refine EW.mk ⟨_, pe_bits p hbase hline, fun σ F H Q ok rho z => k σ F H _ ok rho fun it O' v F1 H1 e ok1 x1 i1 => ?_⟩
  obtain ⟨rfl, rfl⟩ := e
  exact ⟨i, imI i1, z _ _ _ F1 H1 ⟨rfl, rfl⟩ ok1 x1 mI⟩
/-- d.get(k, x) of a dict of the module with text keys, k there -/
theorem ev_getK {q : Addr} {x : Str} {d i : Int} (hK : ∃ es n, KDict X.K X.w q es n) (hv : ∃ u, PySem.W.nsIn X.K q x = some (some u) ∧ RelV (.int i) u) (ha : Ev X ρ O a (.v (.ref q)) O1) (hb : Ev X ρ O1 b (iS x) O2) (hc : Ev X ρ O2 c (iI d) O3) (m : M2 X a "get" apos b c pos) :
    Ev X ρ O (.Call (.Attribute a "get" apos) [b, c] [] pos) (iI i) O3 := by
  obtain ⟨des, n, D⟩ := hK
  obtain ⟨u0, hn, hu⟩ := hv
  obtain ⟨ta, pa, ka⟩ := ha.out
  obtain ⟨tb, pb, kb⟩ := hb.out
  obtain ⟨tc, pc, kc⟩ := hc.out
  refine EW.mk ⟨fun σ H Q => ta σ H fun v H1 => v = .ref q ∧ tb σ H1 fun y H2 => y = .str x ∧ tc σ H2 fun z H3 => Q (.int i) H3, ⟨fun pins s σ H Q I h => ?_⟩, fun σ F H Q ok rho z => ?_⟩
  · refine wpAny_Call_method m.base m.few m.line PySem.F.plainAttrs_dict PySem.F.slot_dict_get PySem.F.type_dict_get (thn (pa.run pins s σ H _ I h) fun u s1 ⟨v, H1, I1, rv, ev, h1⟩ => ?_)
    subst ev
    obtain rfl : u = Value.ref q := rv
    refine ⟨kd_type D I1, fun a ha => ?_, ?_⟩
    · cases ha
      exact ⟨_, I1.kIn _ _ D.at_, rfl⟩
    rw [m.trees]
    refine Calls.callWith_builtin rfl (Calls.evalArgs_plain (Calls.spliced_cons (thn (pb.run pins s1 σ H1 _ I1 h1) fun yv s2 ⟨y, H2, I2, ry, ey, h2⟩ =>
      Calls.spliced_cons (thn (pc.run pins s2 σ H2 _ I2 h2) fun zv s3 ⟨z, H3, I3, rz, h3⟩ => Calls.spliced_nil ?_))))
    subst ey
    obtain ⟨t, rfl⟩ := (show ∃ t, yv = Value.str x t from ry)
    refine call_meetsIn PySem.F.slot_dict_get (kd_type D I3) PySem.F.entry_dict_get (PySem.F.args_dict_get_3 _ _ _) (meets_dict_get_default (PySem.strKind X.prog X.w) q (PySem.strKind_is X.prog X.w x t) D.low zv) ⟨_, PySem.W.mapOf_K (prog := X.prog) I3.kIn D.at_ D.lit, ?_⟩
    rw [PySem.W.find_K D.at_ hn]
    exact ⟨.int i, H3, I3.tok _, hu, h3⟩
  · refine ka σ F H _ ok rho fun it O' v F1 H1 e ok1 x1 i1 => ?_
    obtain ⟨rfl, rfl⟩ := e
    refine ⟨of_imv i1, kb σ F1 H1 _ ok1 (rho.mono x1.f) fun it O' y F2 H2 e ok2 x2 i2 => ?_⟩
    obtain ⟨rfl, rfl⟩ := e
    refine ⟨imS i2, kc σ F2 H2 _ ok2 (rho.mono (x1.trans x2).f) fun it O' y F3 H3 e ok3 x3 i3 => ?_⟩
    obtain ⟨rfl, rfl⟩ := e
    exact z _ _ _ F3 H3 ⟨rfl, rfl⟩ ok3 ((x1.trans x2).trans x3) mI
end
end AL

/-! AL10: promises with effects: arguments, what must stand, what comes; methods, properties, classes. -/
namespace AL
open PySem PySem.Spec PyProof.Rows L2
def ef {α : Type} (enc : α → List Im) (pre : α → Own → Prop) (post : α → Own → Im → Own → Prop) : Pr := fun is O R => ∃ a, is = enc a ∧ pre a O ∧ ∀ it O', post a O it O' → R it O'
section
variable {P : Program} {w : World} {K : PySem.W.Frag} {mg : Str → Option Value} {base : Heap} {k : Nat} {x m : Str} {α : Type} {enc : α → List Im} {pre : α → Own → Prop} {post : α → Own → Im → Own → Prop} {C pa : Addr}
theorem fnr_ef {name qual : Str} {params : Arguments} {body : List Stmt} {scope : Scope} {f : Addr} {fd : FuncData} {N ps : List Str} (F : FunD K name qual params body scope [] [] f fd) (S : FnScope N ps scope)
    (hb : ∀ (kV doc pm : Value) (an : Option Addr) (cdv ct : Value) (us : List Value), us.length = ps.length → bindArgs (PySem.W.fnOf name qual params body scope .none kV doc pm an cdv ct) ⟨us, []⟩ = pure (ps.zip us))
    (len : ∀ a, (enc a).length = ps.length)
    (hbody : ∀ cdv A outer s H E O a, Room k (A.deeper (envOfC qual scope s.heap.objs.size f cdv)) → pre a O → Wps (cx P w K mg base N qual scope f cdv A outer s H E) (beg N (enc a)) O body (bodyR (post a O))) : FnR P w K mg base CX0 (k + 1) f (spA K (ef enc pre post)) :=
  fnr_def F S hb (fun is O R ⟨a, h, _⟩ => by rw [h]; exact len a) fun cdv A outer s H E is O R hr ⟨a, h, hp, z⟩ => by
    subst h
    refine Wps.mono (hbody cdv A outer s H E O a hr hp) fun i o q => ?_
    cases i <;> first | exact q.elim | exact z _ _ q
theorem fn_ef {name qual : Str} {params : Arguments} {body : List Stmt} {scope : Scope} {f : Addr} {N ps : List Str} (hm : mg x = some (.ref f)) (F : ∃ fd, FunD K name qual params body scope [] [] f fd) (S : FnScope N ps scope)
    (hb : ∀ (kV doc pm : Value) (an : Option Addr) (cdv ct : Value) (us : List Value), us.length = ps.length → bindArgs (PySem.W.fnOf name qual params body scope .none kV doc pm an cdv ct) ⟨us, []⟩ = pure (ps.zip us))
    (len : ∀ a, (enc a).length = ps.length)
    (hbody : ∀ cdv A outer s H E O a, Room k (A.deeper (envOfC qual scope s.heap.objs.size f cdv)) → pre a O → Wps (cx P w K mg base N qual scope f cdv A outer s H E) (beg N (enc a)) O body (bodyR (post a O))) : Fn P w K mg base (k + 1) x (ef enc pre post) := by
  obtain ⟨fd, F⟩ := F
  exact ⟨f, fnr_ef F S hb len hbody, F.kp, hm⟩
theorem mt_ef {name qual : Str} {params : Arguments} {body : List Stmt} {scope : Scope} {f : Addr} {N ps : List Str} (hm : Meth K C m f) (F : ∃ fd, FunD K name qual params body scope [] [] f fd) (S : FnScope N ps scope)
    (hb : ∀ (kV doc pm : Value) (an : Option Addr) (cdv ct : Value) (us : List Value), us.length = ps.length → bindArgs (PySem.W.fnOf name qual params body scope .none kV doc pm an cdv ct) ⟨us, []⟩ = pure (ps.zip us))
    (len : ∀ a, (enc a).length = ps.length)
    (hbody : ∀ cdv A outer s H E O a, Room k (A.deeper (envOfC qual scope s.heap.objs.size f cdv)) → pre a O → Wps (cx P w K mg base N qual scope f cdv A outer s H E) (beg N (enc a)) O body (bodyR (post a O))) : Mt P w K mg base (k + 1) C m (ef enc pre post) := by
  obtain ⟨fd, F⟩ := F
  exact ⟨f, fnr_ef F S hb len hbody, hm⟩
theorem pp_ef {name qual : Str} {params : Arguments} {body : List Stmt} {scope : Scope} {f : Addr} {N ps : List Str} (F : PropOf K C m pa f ∧ ∃ fd, FunD K name qual params body scope [] [] f fd) (S : FnScope N ps scope)
    (hb : ∀ (kV doc pm : Value) (an : Option Addr) (cdv ct : Value) (us : List Value), us.length = ps.length → bindArgs (PySem.W.fnOf name qual params body scope .none kV doc pm an cdv ct) ⟨us, []⟩ = pure (ps.zip us))
    (len : ∀ a, (enc a).length = ps.length)
    (hbody : ∀ cdv A outer s H E O a, Room k (A.deeper (envOfC qual scope s.heap.objs.size f cdv)) → pre a O → Wps (cx P w K mg base N qual scope f cdv A outer s H E) (beg N (enc a)) O body (bodyR (post a O))) : Pp P w K mg base (k + 1) C m (ef enc pre post) := by
  obtain ⟨hm, fd, F⟩ := F
  exact ⟨pa, f, fnr_ef F S hb len hbody, hm⟩
theorem mr_ef {name qual : Str} {params : Arguments} {body : List Stmt} {scope : Scope} {f : Addr} {N ps : List Str} (hk : Mk K C f) (hm : mg x = some (.ref C)) (F : ∃ fd, FunD K name qual params body scope [] [] f fd) (S : FnScope N ps scope)
    (hb : ∀ (kV doc pm : Value) (an : Option Addr) (cdv ct : Value) (us : List Value), us.length = ps.length → bindArgs (PySem.W.fnOf name qual params body scope .none kV doc pm an cdv ct) ⟨us, []⟩ = pure (ps.zip us))
    (len : ∀ a, (enc a).length = ps.length)
    (hbody : ∀ cdv A outer s H E O a, Room k (A.deeper (envOfC qual scope s.heap.objs.size f cdv)) → pre a O → Wps (cx P w K mg base N qual scope f cdv A outer s H E) (beg N (enc a)) O body (bodyR (post a O))) : Mr P w K mg base (k + 1) x C (ef enc pre post) := by
  obtain ⟨fd, F⟩ := F
  exact ⟨f, fnr_ef F S hb len hbody, hk, hm⟩
theorem Fn.or {p q : Pr} (f : Fn P w K mg base k x p) (g : Fn P w K mg base k x q) : Fn P w K mg base k x (fun is O R => p is O R ∨ q is O R) := by
  obtain ⟨a, F, kp, hm⟩ := f.ex
  obtain ⟨b, G, _, hm2⟩ := g.ex
  have e : a = b := by
    have := hm.symm.trans hm2
    simpa using this
  subst e
  refine ⟨a, fun A outer s H us vs Q E hr e0 r hs => ?_, kp, hm⟩
  obtain ⟨F0, O, is, R, ok, iv, hp, z⟩ := hs
  rcases hp with hp | hp
  · exact F A outer s H us vs Q E hr e0 r ⟨F0, O, is, R, ok, iv, hp, z⟩
  · exact G A outer s H us vs Q E hr e0 r ⟨F0, O, is, R, ok, iv, hp, z⟩
/-- def f(a, .., *v) -/
theorem mt_star {name qual : Str} {params : Arguments} {body : List Stmt} {scope : Scope} {f : Addr} {N ps : List Str} {pv : Str} {encR : α → List Im} (hm : Meth K C m f) (F : ∃ fd, FunD K name qual params body scope [] [] f fd) (S : FnScope N (ps ++ [pv]) scope)
    (hb : ∀ (kV doc pm : Value) (an : Option Addr) (cdv ct : Value) (us rest : List Value), us.length = ps.length → bindArgs (PySem.W.fnOf name qual params body scope .none kV doc pm an cdv ct) ⟨us ++ rest, []⟩ = (newTuple rest >>= fun t => pure (ps.zip us ++ [(pv, t)])))
    (len : ∀ a, (enc a).length = ps.length) (lenR : ∀ a O, pre a O → (enc a).length + (encR a).length ≤ sizeLine)
    (hbody : ∀ cdv A outer s H E O a, Room k (A.deeper (envOfC qual scope s.heap.objs.size f cdv)) → pre a O → Wps (cx P w K mg base N qual scope f cdv A outer s H E) (beg N (enc a ++ [.t (encR a)])) O body (bodyR (post a O))) : Mt P w K mg base (k + 1) C m (ef (fun a => enc a ++ encR a) pre post) := by
  obtain ⟨fd, F⟩ := F
  refine ⟨f, fnr_star F S hb (fun is O R ⟨a, h, hp, _⟩ => ?_) (fun cdv A outer s H E is rest O R hr hl ⟨a, h, hp, z⟩ => ?_), hm⟩
  · subst h
    rw [List.length_append, len]
    have := lenR a O hp
    rw [len] at this
    exact ⟨Nat.le_add_right _ _, this⟩
  · have e := List.append_inj h (by rw [hl, len])
    obtain ⟨rfl, rfl⟩ := e
    refine Wps.mono (hbody cdv A outer s H E O a hr hp) fun i o q => ?_
    cases i <;> first | exact q.elim | exact z _ _ q
end
section
variable {X : Cx} {ρ : Ro} {O O1 O2 O3 : Own} {pos pp apos p : Pos} {a b e o : Expr} {es : List Expr} {k : Nat} {x m f : Str} {C l dx : Addr} {fs : List (Str × Im)} {α : Type} {enc : α → List Im} {pre : α → Own → Prop} {post : α → Own → Im → Own → Prop} {R : EQ} {it : Im}
theorem ew_ef (a : α) (g : Fn X.prog X.w X.K X.mg X.base k x (ef enc pre post)) (hr : Room k X.A) (ha : Ea X ρ O (e :: es) (enc a) O1) (hp : pre a O1) (hq : ∀ it O', post a O1 it O' → R it O') (hg : Gl X x := by rfl) (hd : (x == ("__debug__" : Str)) = false := by decide)
    (he : starEach (e :: es) X.env = (false, eval e X.env) :: starEach es X.env := by rfl) (hpl : (backTo pos (starEach es X.env)).any (·.1) = false := by rfl) : EW X ρ O (.Call (.Name x pp) (e :: es) [] pos) R :=
  ew_call g hr (Ea.w ha ⟨a, rfl, hp, hq⟩) hg hd he hpl
theorem ev_ef (a : α) (g : Fn X.prog X.w X.K X.mg X.base k x (ef enc pre post)) (hr : Room k X.A) (ha : Ea X ρ O (e :: es) (enc a) O1) (hp : pre a O1) (hq : ∀ it' O', post a O1 it' O' → it' = it ∧ O' = O2) (hg : Gl X x := by rfl) (hd : (x == ("__debug__" : Str)) = false := by decide)
    (he : starEach (e :: es) X.env = (false, eval e X.env) :: starEach es X.env := by rfl) (hpl : (backTo pos (starEach es X.env)).any (·.1) = false := by rfl) : Ev X ρ O (.Call (.Name x pp) (e :: es) [] pos) it O2 := ew_ef a g hr ha hp hq hg hd he hpl
theorem ew_mef (a : α) {pl : Sem Bool} (g : Mt X.prog X.w X.K X.mg X.base k C m (ef enc pre post)) (c : Cls X.K C) (hr : Room k X.A) (ho : Ev X ρ O o (iP l) O1) (hl : O1 l = some (.ins C dx fs)) {is : List Im} (ha : Ea X ρ O1 (e :: es) is O2) (hi : enc a = iP l :: is) (hp : pre a O2) (hq : ∀ it O', post a O2 it O' → R it O') (hm : fs.lookup m = none := by rfl)
    (hst : starEach (e :: es) X.env = (false, eval e X.env) :: starEach es X.env := by rfl) (hpl : (backTo pos (starEach es X.env)).any (·.1) = false := by rfl)
    (ht : eval (.Call (.Attribute o m apos) (e :: es) [] pos) X.env = (do
      let ov ← eval o X.env
      standAt apos.atName
      let (f, first) ← holding [ov] (getMethod ov m pl)
      callWith pos f first (backTo pos (starEach (e :: es) X.env)) (backToKw pos (keywordEach [] X.env))) := by rfl) : EW X ρ O (.Call (.Attribute o m apos) (e :: es) [] pos) R :=
  ew_meth g c hr ho hl hm (Ea.w ha ⟨a, hi.symm, hp, hq⟩) hst hpl ht
theorem ew_mef0 (a : α) {pl : Sem Bool} (g : Mt X.prog X.w X.K X.mg X.base k C m (ef enc pre post)) (c : Cls X.K C) (hr : Room k X.A) (ho : Ev X ρ O o (iP l) O1) (hl : O1 l = some (.ins C dx fs)) (hi : enc a = [iP l]) (hp : pre a O1) (hq : ∀ it O', post a O1 it O' → R it O') (hm : fs.lookup m = none := by rfl)
    (ht : eval (.Call (.Attribute o m apos) [] [] pos) X.env = (do
      let ov ← eval o X.env
      standAt apos.atName
      let (f, first) ← holding [ov] (getMethod ov m pl)
      callWith pos f first (backTo pos (starEach [] X.env)) (backToKw pos (keywordEach [] X.env))) := by rfl) : EW X ρ O (.Call (.Attribute o m apos) [] [] pos) R :=
  ew_meth0 g c hr ho hl hm ⟨a, hi.symm, hp, hq⟩ ht
theorem ew_pef (a : α) (g : Pp X.prog X.w X.K X.mg X.base k C f (ef enc pre post)) (c : Cls X.K C) (hr : Room (k + 1) X.A) (ho : Ev X ρ O o (iP l) O1) (hl : O1 l = some (.ins C dx fs)) (hi : enc a = [iP l]) (hp : pre a O1) (hq : ∀ it O', post a O1 it O' → R it O') (hb : attributeBase o f X.env (eval o X.env) = eval o X.env := by rfl) : EW X ρ O (.Attribute o f pos) R :=
  ew_prop g c hr ho hl ⟨a, hi.symm, hp, hq⟩ hb
theorem ev_pef (a : α) (g : Pp X.prog X.w X.K X.mg X.base k C f (ef enc pre post)) (c : Cls X.K C) (hr : Room (k + 1) X.A) (ho : Ev X ρ O o (iP l) O1) (hl : O1 l = some (.ins C dx fs)) (hi : enc a = [iP l]) (hp : pre a O1) (hq : ∀ it' O', post a O1 it' O' → it' = it ∧ O' = O2) (hb : attributeBase o f X.env (eval o X.env) = eval o X.env := by rfl) : Ev X ρ O (.Attribute o f pos) it O2 :=
  ew_pef a g c hr ho hl hi hp hq hb
theorem wps_do' {sts : List Stmt} {R : Out → Own → Prop} (h : EW X ρ O e fun _ O' => Wps X ρ O' sts R) (hs : swapsWith e none pos.line X.env = pure false := by rfl) : Wps X ρ O (.Expr e pos :: sts) R := wps_cons (wp_expr h hs)
/-- o.f = e, e plain -/
theorem wps_fld {pos' : Pos} {sts : List Stmt} {R : Out → Own → Prop} (hv : Ev X ρ O e it O1) (ho : Ev X ρ O1 o (iP l) O1) (hl : O1 l = some (.ins C dx fs)) (c : Cls X.K C) (n : NoAttr X.K C f) (r : Wps X ρ (setO O1 l (.ins C dx (putI f it fs))) sts R) (hz : Nat.blt fs.length 1000 = true := by rfl)
    (hs : swapsWith e (some (.Attribute o f pos')) pos.line X.env = pure false := by rfl) : Wps X ρ O (.Assign [.Attribute o f pos'] e pos :: sts) R :=
  wps_cons (wp_fld (Ev.w hv ⟨ho, fs, hl, Nat.blt_eq ▸ hz, r⟩) c n hs)
/-- a + b, b with effects -/
theorem ew_addW {i : Int} (ha : Ev X ρ O a (iI i) O1) (hb : EW X ρ O1 b fun it O2 => ∃ j, it = iI j ∧ R (iI (i + j)) O2) : EW X ρ O (.BinOp a .Add b pos) R := by
  obtain ⟨ta, pa, ka⟩ := (ha).out
  obtain ⟨tb, pb, kb⟩ := (hb).out
  refine EW.mk ⟨_, pe_op op_add pa pb, fun σ F H Q ok rho k => ka σ F H _ ok rho fun it O' v F1 H1 e ok1 x1 i1 => ?_⟩
  obtain ⟨rfl, rfl⟩ := e
  refine kb σ F1 H1 _ ok1 (rho.mono x1.f) fun it O' w F2 H2 e ok2 x2 i2 => ?_
  obtain ⟨j, rfl, r⟩ := e
  rw [imI i1, imI i2]
  exact ⟨i, j, rfl, rfl, k _ _ _ F2 H2 r ok2 (x1.trans x2) mI⟩
/-- l[b], b with effects -/
theorem ew_ixLW {ns : List Int} (ha : Ev X ρ O a (.d (L ns)) O1) (hb : EW X ρ O1 b fun it O2 => ∃ i, it = iI i ∧ InB ns.length i ∧ R (iI (atL ns i)) O2) (hs : PlainIx b := by exact fun _ _ => rfl) : EW X ρ O (.Subscript a b pos) R := by
  obtain ⟨ta, pa, ka⟩ := (ha).out
  obtain ⟨tb, pb, kb⟩ := (hb).out
  refine EW.mk ⟨_, pe_ix ix_list pa pb hs, fun σ F H Q ok rho k => ka σ F H _ ok rho fun it O' v F1 H1 e ok1 x1 i1 => ?_⟩
  obtain ⟨rfl, rfl⟩ := e
  refine kb σ F1 H1 _ ok1 (rho.mono x1.f) fun it O' w F2 H2 e ok2 x2 i2 => ?_
  obtain ⟨i, rfl, hi, r⟩ := e
  obtain ⟨l, xs, rfl, h1, q1⟩ := imL i1
  rw [imI i2]
  obtain ⟨j, y, _, _, h3, _⟩ := atI_in hi
  obtain ⟨u, h4, q4⟩ := (DtAll.mono x2.f q1).at (d := .int y) (by rw [atI_map, h3]; rfl)
  refine ⟨l, xs, i, u, rfl, rfl, SqL.of (ok2.same _ _ (x2.f _ _ h1)), h4, k _ _ _ F2 H2 r ok2 (x1.trans x2) ?_⟩
  unfold atL
  rw [h3]
  exact imd q4
/-- l * j: a list that will change: owned -/
theorem ew_repP {ds : List PyData} {j : Int} (ha : Ev X ρ O a (iL ds) O1) (hb : Ev X ρ O1 b (iI j) O2) (hj : 0 ≤ j ∧ j < 2 ^ 63) (hc : ds.length * j.toNat ≤ sizeLine) (hR : ∀ p, O2 p = none → R (iP p) (setO O2 p (.lst ((List.replicate j.toNat ds).flatten.map .d)))) : EW X ρ O (.BinOp a .Mult b pos) R :=
  ew_op op_rep ha hb fun F H v w Q ok iv iw k => by
    obtain ⟨l, xs, rfl, h1, q1⟩ := imL iv
    rw [imI iw]
    refine ⟨l, j, xs, rfl, rfl, ok.same _ _ h1, by omega, hj.2, by rw [q1.len]; exact hc, fun p hp => ?_⟩
    exact k _ _ _ _ _ (hR p (ok.fresh hp)) (ok.new hp (show CellHO X.K F (.lst _) (.lst _) from DtAll.im (rep_all q1 _))) (Ext.new hp) imv
end
end AL

/-! AL11: list(range(n)); tuples, slices, targets with effects. -/
namespace AL
open PySem PySem.Spec PyProof.Rows L2
section
variable {X : Cx} {ρ : Ro} {O O1 O2 O3 : Own} {pos pp apos p p2 : Pos} {a b e o : Expr} {es : List Expr} {R : EQ} {sts : List Stmt}
theorem rgV_eq (a b : Int) : rgV a b = (rangeI a b).map V.int := by unfold rgV rangeI; rw [List.map_map]; rfl
theorem ev_listRg {n : Int} (hc : X.calm = true) (hm : X.mg "list" = none) (hm2 : X.mg "range" = none) (ha : Ev X ρ O a (iI n) O1) (hb : 0 ≤ n ∧ n ≤ 10000) (hg : Gl X "list" := by rfl) (hg2 : Gl X "range" := by rfl) (na : starEach [a] X.env = (false, eval a X.env) :: starEach [] X.env := by rfl)
    (na2 : starEach [.Call (.Name "range" p2) [a] [] pp] X.env = (false, eval (.Call (.Name "range" p2) [a] [] pp) X.env) :: starEach [] X.env := by rfl) : Ev X ρ O (.Call (.Name "list" p) [.Call (.Name "range" p2) [a] [] pp] [] pos) (.d (L (rangeI 0 n))) O1 := by
  obtain ⟨t, pt, kt⟩ := ha.out
  refine EW.mk ⟨_, pe_listRg hc hg hm (prg_1 hg2 hm2 pt na) na2, fun σ F H Q ok rho z => kt σ F H _ ok rho fun it O' v F1 H1 e ok1 x1 i1 => ?_⟩
  obtain ⟨rfl, rfl⟩ := e
  refine ⟨n, imI i1, RgOk.of_le (by decide) (by omega) (by decide) (by omega), fun q hq => ?_⟩
  rw [rgV_eq]
  exact z _ _ _ _ _ ⟨rfl, rfl⟩ (ok1.lay hq) (x1.trans (Ext.lay ok1 hq)) (mL upd_same (DtAll.of_ints _))
/-- l[lo:hi], l with effects, plain bounds -/
theorem ew_slW {lo hi : Option Expr} {i j : Option Int} {p2 : Pos} (ha : EW X ρ O a fun it O1 => ∃ ds, it = iL ds ∧ R (iL (cutA ds i j)) O1) (hl : ∀ O1, Po X ρ O1 lo i O1) (hh : ∀ O1, Po X ρ O1 hi j O1) : EW X ρ O (.Subscript a (.Slice lo hi none p2) pos) R := by
  have hl' : ∃ t, PO X lo t ∧ ∀ O1 (σ : L2.St) (F H : Hp) (Q : Option Int → Hp → Prop), Ok X.K F H O1 → Rho X.K F ρ σ → (∀ F' H', Ok X.K F' H' O1 → Ext F H O1 F' H' O1 → Q i H') → t σ H Q := by
    refine ⟨fun σ H Q => ∀ pins s, Inv X pins σ H s → _, ⟨fun pins s σ H Q I h => h pins s I⟩, fun O1 σ F H Q ok rho z pins s I => ?_⟩
    obtain ⟨t, p, k⟩ := hl O1
    exact p.run pins s σ H Q I (k σ F H Q ok rho z)
  have hh' : ∃ t, PO X hi t ∧ ∀ O1 (σ : L2.St) (F H : Hp) (Q : Option Int → Hp → Prop), Ok X.K F H O1 → Rho X.K F ρ σ → (∀ F' H', Ok X.K F' H' O1 → Ext F H O1 F' H' O1 → Q j H') → t σ H Q := by
    refine ⟨fun σ H Q => ∀ pins s, Inv X pins σ H s → _, ⟨fun pins s σ H Q I h => h pins s I⟩, fun O1 σ F H Q ok rho z pins s I => ?_⟩
    obtain ⟨t, p, k⟩ := hh O1
    exact p.run pins s σ H Q I (k σ F H Q ok rho z)
  obtain ⟨ta, pa, ka⟩ := ha.out
  obtain ⟨tb, pb, kb⟩ := hl'
  obtain ⟨tc, pc, kc⟩ := hh'
  refine EW.mk ⟨_, pe_slice sl_list pa pb pc, fun σ F H Q ok rho k => ka σ F H _ ok rho fun it O' v F1 H1 e ok1 x1 i1 => ?_⟩
  obtain ⟨ds, rfl, r⟩ := e
  refine kb O' σ F1 H1 _ ok1 (rho.mono x1.f) fun F2 H2 ok2 x2 => kc O' σ F2 H2 _ ok2 (rho.mono (x1.trans x2).f) fun F3 H3 ok3 x3 => ?_
  obtain ⟨l, xs, rfl, h1, q1⟩ := imL (i1.mono (x2.trans x3).f)
  refine ⟨l, xs, rfl, SqL.of (ok3.same _ _ h1), fun p hp => ?_⟩
  exact k _ _ _ _ _ r (ok3.lay hp) (((x1.trans x2).trans x3).trans (Ext.lay ok3 hp)) (mL upd_same (DtAll.mono (same_lay ok3 hp) (q1.cut i j)))
theorem ew_tupW {k0 : Nat} (h : AW X ρ O es fun is O1 => ∃ ds, is = ds.map .d ∧ ds.length ≤ 100000 ∧ R (iT ds) O1) : EW X ρ O (.Tuple es k0 pos) R := by
  obtain ⟨t, p, k⟩ := h.out
  refine EW.mk ⟨_, pe_tup p, fun σ F H Q ok rho z => k σ F H _ ok rho fun is O' vs F1 H1 e ok1 x1 i1 => ?_⟩
  obtain ⟨ds, rfl, hz, r⟩ := e
  have q := DtAll.of_im i1
  refine ⟨by rw [q.len]; exact sz_le hz, fun p hp => ?_⟩
  exact z _ _ _ _ _ r (ok1.lay hp) (x1.trans (Ext.lay ok1 hp)) (mT upd_same (DtAll.mono (same_lay ok1 hp) q))
theorem ew_listW (h : AW X ρ O es fun is O1 => ∃ ds, is = ds.map .d ∧ ds.length ≤ 100000 ∧ R (iL ds) O1) : EW X ρ O (.List es pos) R := by
  obtain ⟨t, p, k⟩ := h.out
  refine EW.mk ⟨_, pe_lst p, fun σ F H Q ok rho z => k σ F H _ ok rho fun is O' vs F1 H1 e ok1 x1 i1 => ?_⟩
  obtain ⟨ds, rfl, hz, r⟩ := e
  have q := DtAll.of_im i1
  refine ⟨by rw [q.len]; exact sz_le hz, fun p hp => ?_⟩
  exact z _ _ _ _ _ r (ok1.lay hp) (x1.trans (Ext.lay ok1 hp)) (mL upd_same (DtAll.mono (same_lay ok1 hp) q))
theorem wps_asgW {tg : Expr} {vs : List Nat} {R : Out → Own → Prop} (h : EW X ρ O e fun it O1 => ∃ ρ', Eg X vs ρ O1 tg it ρ' ∧ Wps X ρ' O1 sts R) (hs : swapsWithSole [tg] e pos.line X.env = pure false := by rfl) (hw : swappedStores [tg] e X.env = pure none := by rfl) (h1 : (assignEach [tg] X.env).map (·.2) = [assign tg X.env] := by rfl) : Wps X ρ O (.Assign [tg] e pos :: sts) R :=
  wps_cons (wp_asg (EW.mono h fun it O1 ⟨ρ', g, r⟩ => fun v σ F H Q ok rho iv z => g.tgt v σ F H Q ok rho iv fun a b c d e q => by obtain ⟨rfl, rfl⟩ := q; exact z _ _ c d e r) hs hw h1)
/-- the calls' tests with effects -/
theorem wps_ifW {t : Expr} {A B : List Stmt} {R : Out → Own → Prop} (h : TW X ρ O t fun c O1 => (c = true → Wps X ρ O1 A (thenR X sts R)) ∧ (c = false → Wps X ρ O1 B (thenR X sts R))) : Wps X ρ O (.If t A B pos :: sts) R := by
  obtain ⟨tt, p, k⟩ := h.out
  refine wps_cons (Wp.mk ⟨_, ps_if p (pss_self X A) (pss_self X B), fun σ F H D ok rho z => k σ F H _ ok rho fun c' O' F1 H1 e ok1 x1 => ?_⟩)
  cases c' with
  | true => exact iteT (e.1 rfl σ F1 H1 D ok1 (rho.mono x1.f) (z.after x1))
  | false => exact iteF (e.2 rfl σ F1 H1 D ok1 (rho.mono x1.f) (z.after x1))
end
/-- the law's own def -/
theorem fnok_def {P : Program} {w : World} {K : PySem.W.Frag} {mg : Str → Option Value} {base : Heap} {k : Nat} {p : Pr} {name qual : Str} {params : Arguments} {body : List Stmt} {scope : Scope} {f : Addr} {fd : FuncData} {N ps : List Str} (F : FunD K name qual params body scope [] [] f fd) (S : FnScope N ps scope)
    (len : ∀ is O R, p is O R → is.length = ps.length)
    (hbody : ∀ cdv A outer s H E is O R, Room k (A.deeper (envOfC qual scope s.heap.objs.size f cdv)) → p is O R → Wps (cx P w K mg base N qual scope f cdv A outer s H E) (beg N is) O body (bodyR R)) : FnOk P w K mg base CX0 (k + 1) f fd ps (spA K p) :=
  F.ok S (fun vs H Q E ⟨F0, O, is, R, ok, iv, hp, _⟩ => by rw [← iv.length]; exact len _ _ _ hp) fun cdv A outer s H vs Q E hr ⟨F0, O, is, R, ok, iv, hp, z⟩ => by
    obtain ⟨t, pt, kt⟩ := (hbody cdv A outer s H E is O R hr hp).out
    refine ⟨t, pt.nox, kt _ F0 H _ ok (Rho.start iv) ⟨fun ρ' O' σ' F' H' r ok' x' _ => z _ _ _ F' H' r ok' x' mN, fun it O' v F' H' r ok' x' iv => z _ _ _ F' H' r ok' x' iv, fun ρ' O' σ' F' H' r _ _ _ => r.elim, fun ρ' O' σ' F' H' r _ _ _ => r.elim⟩⟩
theorem perm_map_inv {α β : Type} (f : α → β) {es ys : List β} (h : es.Perm ys) : ∀ {l : List α}, ys = l.map f → ∃ l' : List α, l'.Perm l ∧ es = l'.map f := by
  induction h with
  | nil =>
    intro l e
    cases l with
    | nil => exact ⟨[], .refl _, rfl⟩
    | cons _ _ => cases e
  | @cons x l1 l2 h ih =>
    intro l e
    cases l with
    | nil => cases e
    | cons a l =>
      simp only [List.map_cons, List.cons.injEq] at e
      obtain ⟨rfl, e⟩ := e
      obtain ⟨l', p, e'⟩ := ih e
      exact ⟨a :: l', p.cons a, by rw [e']; rfl⟩
  | swap x y l2 =>
    intro l e
    cases l with
    | nil => cases e
    | cons a l =>
      cases l with
      | nil => simp at e
      | cons b l =>
        simp only [List.map_cons, List.cons.injEq] at e
        obtain ⟨rfl, rfl, rfl⟩ := e
        exact ⟨b :: a :: l, .swap _ _ _, rfl⟩
  | trans h1 h2 ih1 ih2 =>
    intro l e
    obtain ⟨l', p, e'⟩ := ih2 e
    obtain ⟨l'', p', e''⟩ := ih1 e'
    exact ⟨l'', p'.trans p, e''⟩
end AL

/-! G1: rings.py -/
namespace D81
open PySem PySem.Spec PyProof.Rows L2 AL
section
variable {w : World} {K : PySem.W.Frag} {mg : Str → Option Value} {base : Heap} (T : Wo w K mg)
def e_is_between : Int × Int × Int → List Im := fun a => [iI a.1, iI a.2.1, iI a.2.2]
def p_is_between : Int × Int × Int → Prop := fun _ => True
def o_is_between : Int × Int × Int → Im := fun a => iB (decide (a.2.1 ≤ a.1) && decide (a.1 ≤ a.2.2))
theorem nd_is_between : (["value", "least", "most"] : List Str).Nodup := by decide +kernel
include T in
theorem g_is_between : Fn PRG w K mg base 1 "is_between" (pu (sp e_is_between p_is_between o_is_between)) := by
  refine fn_sp (N := ["value", "least", "most"]) (ps := ["value", "least", "most"]) T.m_is_between T.fd_is_between ⟨rfl, rfl, rfl, nd_is_between, rfl, by decide +kernel, by decide +kernel⟩
    (fun _ _ _ _ _ _ us hl => match us, hl with | [_, _, _], _ => rfl) (fun _ => rfl) (fun cdv A outer s H E O a hr h => ?_)
  have nd := nd_is_between
  obtain ⟨i, lo, hi⟩ := a
  refine wps_guard (et_w (ew_or (et_not (et_val (ev_isIn T.b_isinstance T.b_int (ev_var 0)))) fun _ => ew_or1 (et_val (ev_isBn T.b_isinstance T.b_bool (ev_var 0))))) rfl ?_
  exact wps_ret (ev_and (ev_or (ev_cmp (ec_isN (ev_var 1))) fun _ => ev_one (ev_cmp (ec_le (ev_var 1) (ev_var 0)))) fun _ => ev_one (ev_or (ev_cmp (ec_isN (ev_var 2))) fun _ => ev_one (ev_cmp (ec_le (ev_var 0) (ev_var 2))))) ⟨rfl, rfl⟩
def rowB (n : Int) (r : List Int) : Bool := decide ((r.length : Int) = n) && r.all fun x => decide (0 ≤ x) && decide (x ≤ 1000000000000000000000000000000)
def e_is_row : Int × List Int → List Im := fun a => [iI a.1, .d (L a.2)]
def p_is_row : Int × List Int → Prop := fun a => a.2.length ≤ 100000
def o_is_row : Int × List Int → Im := fun a => iB (rowB a.1 a.2)
theorem nd_is_row : (["count", "value", "one"] : List Str).Nodup := by decide +kernel
include T in
theorem g_is_row : Fn PRG w K mg base 2 "is_row" (pu (sp e_is_row p_is_row o_is_row)) := by
  refine fn_sp (N := ["count", "value", "one"]) (ps := ["count", "value"]) T.m_is_row T.fd_is_row ⟨rfl, rfl, rfl, nd_is_row, rfl, by decide +kernel, by decide +kernel⟩
    (fun _ _ _ _ _ _ us hl => match us, hl with | [_, _], _ => rfl) (fun _ => rfl) (fun cdv A outer s H E O a hr h => ?_)
  have nd := nd_is_row
  obtain ⟨n, r⟩ := a
  refine wps_ret (ev_and (ev_isL T.b_isinstance T.b_list (ev_var 1)) fun _ => ev_and (ev_cmp (ec_eqI (ev_lenL T.b_len (ev_var 1)) (ev_var 0))) fun _ => ev_one (ev_all rfl T.b_all (ev_lcB (own := [("one", 2)]) (fun x => decide (0 ≤ x) && decide (x ≤ 1000000000000000000000000000000)) rfl nd (blkOk_by (own := [("one", 2)]) (by rfl)) (itr_listL (ev_var 1)) (sz_le h)
    (fun z hz => ⟨_, fun _ _ _ _ _ => eg_name 2 nd, fun _ _ _ _ _ => ev_sp (z, 0, 1000000000000000000000000000000) (g_is_between T) hr (ea_cons (ev_var 2) (ea_cons ev_int (ea_cons (ev_gint T.i_MOST_DISTANCE) ea_nil))) trivial⟩)))) ⟨?_, rfl⟩
  show iB _ = iB _
  unfold rowB
  simp [List.all_map, Function.comp_def]
def e_is_table : List (List Int) → List Im := fun t => [.d (Tb t)]
def o_is_table : List (List Int) → Im := fun _ => iB true
abbrev p_is_table : List (List Int) → Prop := Tab
theorem tab_at {t : List (List Int)} {i : Nat} {r : List Int} (h : t[i]? = some r) : atR t (i : Int) = r := by
  obtain ⟨h1, h2⟩ := List.getElem?_eq_some_iff.mp h
  unfold atR atI ixN
  rw [if_pos (by omega), if_pos (by omega)]
  simp [h]
theorem nd_is_table : (["value", "row", "one", "other"] : List Str).Nodup := by decide +kernel
include T in
theorem g_is_table : Fn PRG w K mg base 3 "is_table" (pu (sp e_is_table p_is_table o_is_table)) := by
  refine fn_sp (N := ["value", "row", "one", "other"]) (ps := ["value"]) T.m_is_table T.fd_is_table ⟨rfl, rfl, rfl, nd_is_table, rfl, by decide +kernel, by decide +kernel⟩
    (fun _ _ _ _ _ _ us hl => match us, hl with | [_], _ => rfl) (fun _ => rfl) (fun cdv A outer s H E O a hr h => ?_)
  have nd := nd_is_table
  refine wps_guard (et_w (ew_or (et_not (et_val (ev_isL T.b_isinstance T.b_list (ev_var 0)))) fun _ => ew_or1 (et_not (et_chainI op_le op_le ev_int (ev_lenTb T.b_len (ev_var 0)) (ev_gint T.i_MOST_PLACES))))) ?_ ?_
  · have := h.lo
    have := h.hi
    simp; omega
  refine wps_guard (et_not (et_val (ev_all rfl T.b_all (ev_lcB (own := [("row", 1)]) (fun r => rowB a.length r) rfl nd (blkOk_by (own := [("row", 1)]) (by rfl)) (itr_listTb (ev_var 0)) (sz_le (by have := h.hi; omega))
    (fun z hz => ⟨_, fun _ _ _ _ _ => eg_name 1 nd, fun _ _ _ _ _ => ev_sp ((a.length : Int), z) (g_is_row T) hr (ea_cons (ev_lenTb T.b_len (ev_var 0)) (ea_cons (ev_var 1) ea_nil)) (by show z.length ≤ 100000; rw [(h.row z hz).1]; have := h.hi; omega)⟩))))) ?_ ?_
  · rw [Bool.not_eq_false', List.all_eq_true]
    intro b hb
    obtain ⟨r, hr', rfl⟩ := List.mem_map.mp hb
    obtain ⟨h1, h2⟩ := h.row r hr'
    show rowB _ _ = true
    unfold rowB
    rw [h1]
    simp only [decide_true, Bool.true_and, List.all_eq_true, Bool.and_eq_true, decide_eq_true_eq]
    exact h2
  refine wps_for (vs := [2, 1]) (fun k ρ' O' => ρ' = [some (.d (Tb a)), none, none, none] ∧ O' = O) rfl (itr_enumTb T.b_enumerate (ev_var 0)) ⟨_, Le.refl _, rfl, rfl⟩ (fun _ _ _ _ _ => trivial) (fun k z ρ O' hz hI => ?_) (fun ρ O' hI => ?_)
  · obtain ⟨rfl, rfl⟩ := hI
    refine ⟨_, eg_pair 2 1 rfl nd, ?_⟩
    obtain ⟨r, i⟩ := z
    obtain ⟨hi, hz'⟩ := List.mem_zipIdx' (List.mem_of_getElem? hz)
    have hr1 : atR a (i : Int) = r := tab_at (by rw [hz']; exact List.getElem?_eq_getElem hi)
    have hrm : r ∈ a := by rw [← hr1]; exact atR_mem ⟨by omega, by omega⟩
    obtain ⟨hl, _⟩ := h.row r hrm
    refine wps_guard (et_w (ew_or (tw_cmp (ec_neI (ev_ixL (ev_var 1) (ev_var 2) (by show InB r.length (i : Int); constructor <;> omega)) ev_int)) fun _ => ew_or1 (et_not (et_val (ev_all rfl T.b_all (ev_lcB (own := [("other", 3)]) (fun x => decide (atL r x = ent a x i)) rfl nd (blkOk_by (own := [("other", 3)]) (by rfl)) (itr_range1 T.b_range (ev_var 2) (by have := h.hi; constructor <;> omega)) (by rw [rangeI_len]; exact sz_le (by have := h.hi; omega))
      (fun z hz => ⟨_, fun _ _ _ _ _ => eg_name 3 nd, fun _ _ _ _ _ => ev_cmp (ec_eqI (ev_ixL (ev_var 1) (ev_var 3) (by have := mem_rangeI.mp hz; show InB r.length z; constructor <;> omega)) (ev_ent (ev_var 0) (ev_var 3) (ev_var 2) (by have := mem_rangeI.mp hz; constructor <;> omega) (by have := mem_rangeI.mp hz; rw [h.rlen (by constructor <;> omega)]; constructor <;> omega)))⟩))))))) ?_ ?_
    · have hd := h.dg i (by omega)
      unfold ent at hd
      rw [hr1] at hd
      rw [hd]
      simp only [decide_true, Bool.not_true, Bool.false_or, Bool.not_eq_false', List.all_eq_true]
      intro b hb
      obtain ⟨x, hx, rfl⟩ := List.mem_map.mp hb
      have hx' := mem_rangeI.mp hx
      have hs := h.sy i x.toNat (by omega) (by omega)
      have ex : ((x.toNat : Nat) : Int) = x := by omega
      rw [ex] at hs
      show decide _ = true
      rw [← hs, decide_eq_true_iff]
      unfold ent
      rw [hr1]
    · exact wps_nil ⟨_, le_mask [true, false, false, false] _, rfl, rfl⟩
  · obtain ⟨rfl, rfl⟩ := hI
    exact wps_ret ev_bl ⟨rfl, rfl⟩
def e_are_places : Nat × List Int → List Im := fun a => [iI a.1, .d (L a.2)]
def p_are_places : Nat × List Int → Prop := fun a => a.1 ≤ 4000 ∧ Pl a.1 a.2 ∧ a.2.Nodup
def o_are_places : Nat × List Int → Im := fun _ => iB true
theorem all_between {n : Nat} {r : List Int} (h : Pl n r) : ((r.map fun x => decide (0 ≤ x) && decide (x ≤ (n : Int) - 1)).all id) = true := by
  rw [List.all_eq_true]
  intro b hb
  obtain ⟨x, hx, rfl⟩ := List.mem_map.mp hb
  have := h x hx
  simp; omega
theorem nd_are_places : (["count", "value", "place"] : List Str).Nodup := by decide +kernel
include T in
theorem g_are_places : Fn PRG w K mg base 2 "are_places" (pu (sp e_are_places p_are_places o_are_places)) := by
  refine fn_sp (N := ["count", "value", "place"]) (ps := ["count", "value"]) T.m_are_places T.fd_are_places ⟨rfl, rfl, rfl, nd_are_places, rfl, by decide +kernel, by decide +kernel⟩
    (fun _ _ _ _ _ _ us hl => match us, hl with | [_, _], _ => rfl) (fun _ => rfl) (fun cdv A outer s H E O a hr h => ?_)
  have nd := nd_are_places
  obtain ⟨n, r⟩ := a
  obtain ⟨h0, h1, h2⟩ := h
  have h0' : n ≤ 4000 := h0
  have hl : r.length ≤ n := pl_len h1 h2
  refine wps_guard (et_w (ew_or (et_not (et_val (ev_isL T.b_isinstance T.b_list (ev_var 1)))) fun _ => ew_or1 (et_not (et_val (ev_all rfl T.b_all (ev_lcB (own := [("place", 2)]) (fun x => decide (0 ≤ x) && decide (x ≤ (n : Int) - 1)) rfl nd (blkOk_by (own := [("place", 2)]) (by rfl)) (itr_listL (ev_var 1)) (sz_le (show r.length ≤ 100000 by omega))
    (fun z hz => ⟨_, fun _ _ _ _ _ => eg_name 2 nd, fun _ _ _ _ _ => ev_sp (z, 0, (n : Int) - 1) (g_is_between T) hr (ea_cons (ev_var 2) (ea_cons ev_int (ea_cons (ev_sub (ev_var 0) ev_int) ea_nil))) trivial⟩))))))) ?_ ?_
  · rw [all_between h1]; rfl
  · exact wps_ret (ev_cmp (ec_eqI (ev_lenSet rfl T.b_len T.b_set (ev_var 1) (show r.length ≤ 4000 by omega) h2) (ev_lenL T.b_len (ev_var 1)))) ⟨by rw [decide_eq_true rfl]; rfl, rfl⟩
def e_is_ring_of : Nat × List Int → List Im := fun a => [iI a.1, .d (L a.2)]
def p_is_ring_of : Nat × List Int → Prop := fun a => a.1 ≤ 4000 ∧ Rg a.1 a.2
def o_is_ring_of : Nat × List Int → Im := fun _ => iB true
theorem nd_is_ring_of : (["count", "value"] : List Str).Nodup := by decide +kernel
include T in
theorem g_is_ring_of : Fn PRG w K mg base 3 "is_ring_of" (pu (sp e_is_ring_of p_is_ring_of o_is_ring_of)) := by
  refine fn_sp (N := ["count", "value"]) (ps := ["count", "value"]) T.m_is_ring_of T.fd_is_ring_of ⟨rfl, rfl, rfl, nd_is_ring_of, rfl, by decide +kernel, by decide +kernel⟩
    (fun _ _ _ _ _ _ us hl => match us, hl with | [_, _], _ => rfl) (fun _ => rfl) (fun cdv A outer s H E O a hr h => ?_)
  have nd := nd_is_ring_of
  obtain ⟨n, r⟩ := a
  obtain ⟨h0, h1⟩ := h
  exact wps_ret (ev_and (ev_sp (n, r) (g_are_places T) hr (ea_cons (ev_var 0) (ea_cons (ev_var 1) ea_nil)) ⟨h0, h1.pl, h1.nd⟩) fun _ => ev_one (ev_cmp (ec_eqI (ev_lenL T.b_len (ev_var 1)) (ev_var 0)))) ⟨by rw [decide_eq_true (by show ((r.length : Nat) : Int) = n; rw [h1.len])]; rfl, rfl⟩
def e_require_table : List (List Int) → List Im := fun t => [.d (Tb t)]
abbrev p_require_table : List (List Int) → Prop := Tab
def o_require_table : List (List Int) → Im := fun _ => iN
theorem nd_require_table : (["table"] : List Str).Nodup := by decide +kernel
include T in
theorem g_require_table : Fn PRG w K mg base 4 "require_table" (pu (sp e_require_table p_require_table o_require_table)) := by
  refine fn_sp (N := ["table"]) (ps := ["table"]) T.m_require_table T.fd_require_table ⟨rfl, rfl, rfl, nd_require_table, rfl, by decide +kernel, by decide +kernel⟩
    (fun _ _ _ _ _ _ us hl => match us, hl with | [_], _ => rfl) (fun _ => rfl) (fun cdv A outer s H E O a hr h => ?_)
  have nd := nd_require_table
  exact wps_guard (et_not (et_val (ev_sp a (g_is_table T) hr (ea_cons (ev_var 0) ea_nil) h))) rfl (wps_nil ⟨rfl, rfl⟩)
def e_require_ring : Bool × Nat × List Int → List Im := fun a => [if a.1 then iI a.2.1 else iN, .d (L a.2.2)]
def p_require_ring : Bool × Nat × List Int → Prop := fun a => 1 ≤ a.2.1 ∧ a.2.1 ≤ 30 ∧ Rg a.2.1 a.2.2
def o_require_ring : Bool × Nat × List Int → Im := fun _ => iN
theorem nd_require_ring : (["count", "ring"] : List Str).Nodup := by decide +kernel
include T in
theorem g_require_ring : Fn PRG w K mg base 4 "require_ring" (pu (sp e_require_ring p_require_ring o_require_ring)) := by
  refine fn_sp (N := ["count", "ring"]) (ps := ["count", "ring"]) T.m_require_ring T.fd_require_ring ⟨rfl, rfl, rfl, nd_require_ring, rfl, by decide +kernel, by decide +kernel⟩
    (fun _ _ _ _ _ _ us hl => match us, hl with | [_, _], _ => rfl) (fun _ => rfl) (fun cdv A outer s H E O a hr h => ?_)
  have nd := nd_require_ring
  obtain ⟨c, n, r⟩ := a
  obtain ⟨h0, h1, h2⟩ := h
  have hl : r.length = n := h2.len
  have h0' : 1 ≤ n := h0
  have h1' : n ≤ 30 := h1
  refine wps_guard (et_w (ew_or (et_not (et_val (ev_isL T.b_isinstance T.b_list (ev_var 1)))) fun _ => ew_or1 (et_not (et_chainI op_le op_le ev_int (ev_lenL T.b_len (ev_var 1)) (ev_gint T.i_MOST_PLACES))))) (by show (!true || !(decide ((1 : Int) ≤ (r.length : Nat)) && decide (((r.length : Nat) : Int) ≤ 30))) = false; simp; omega) ?_
  cases c with
  | true => exact wps_guard (et_not (et_val (ev_sp (n, r) (g_is_ring_of T) hr (ea_cons (ew_if (tw_cmp (ec_isN (ev_var 0))) (fun h => by cases h) (fun _ => ev_var 0)) (ea_cons (ev_var 1) ea_nil)) ⟨show n ≤ 4000 by omega, h2⟩))) rfl (wps_nil ⟨rfl, rfl⟩)
  | false => exact wps_guard (et_not (et_val (ev_sp (n, r) (g_is_ring_of T) hr (ea_cons (ew_if (tw_cmp (ec_isN (ev_var 0))) (fun _ => (ev_lenL T.b_len (ev_var 1)).eq (by rw [hl])) (fun h => by cases h)) (ea_cons (ev_var 1) ea_nil)) ⟨show n ≤ 4000 by omega, h2⟩))) rfl (wps_nil ⟨rfl, rfl⟩)
def e_require_both : List (List Int) × List Int → List Im := fun a => [.d (Tb a.1), .d (L a.2)]
def p_require_both : List (List Int) × List Int → Prop := fun a => Tab a.1 ∧ Rg a.1.length a.2
def o_require_both : List (List Int) × List Int → Im := fun _ => iN
theorem nd_require_both : (["table", "ring"] : List Str).Nodup := by decide +kernel
include T in
theorem g_require_both : Fn PRG w K mg base 5 "require_both" (pu (sp e_require_both p_require_both o_require_both)) := by
  refine fn_sp (N := ["table", "ring"]) (ps := ["table", "ring"]) T.m_require_both T.fd_require_both ⟨rfl, rfl, rfl, nd_require_both, rfl, by decide +kernel, by decide +kernel⟩
    (fun _ _ _ _ _ _ us hl => match us, hl with | [_, _], _ => rfl) (fun _ => rfl) (fun cdv A outer s H E O a hr h => ?_)
  have nd := nd_require_both
  obtain ⟨t, r⟩ := a
  obtain ⟨h0, h1⟩ := h
  refine wps_do (ev_sp t (g_require_table T) hr (ea_cons (ev_var 0) ea_nil) h0) ?_
  exact wps_do (ev_sp (true, t.length, r) (g_require_ring T) hr (ea_cons (ev_lenTb T.b_len (ev_var 0)) (ea_cons (ev_var 1) ea_nil)) ⟨h0.lo, h0.hi, h1⟩) (wps_nil ⟨rfl, rfl⟩)
def e_require_stops : Nat × List Int → List Im := fun a => [iI a.1, .d (L a.2)]
def p_require_stops : Nat × List Int → Prop := fun a => a.1 ≤ 4000 ∧ Pl a.1 a.2 ∧ a.2.Nodup ∧ a.2 ≠ []
def o_require_stops : Nat × List Int → Im := fun _ => iN
theorem nd_require_stops : (["count", "stops"] : List Str).Nodup := by decide +kernel
include T in
theorem g_require_stops : Fn PRG w K mg base 3 "require_stops" (pu (sp e_require_stops p_require_stops o_require_stops)) := by
  refine fn_sp (N := ["count", "stops"]) (ps := ["count", "stops"]) T.m_require_stops T.fd_require_stops ⟨rfl, rfl, rfl, nd_require_stops, rfl, by decide +kernel, by decide +kernel⟩
    (fun _ _ _ _ _ _ us hl => match us, hl with | [_, _], _ => rfl) (fun _ => rfl) (fun cdv A outer s H E O a hr h => ?_)
  have nd := nd_require_stops
  obtain ⟨n, r⟩ := a
  obtain ⟨h0, h1, h2, h3⟩ := h
  exact wps_guard (et_w (ew_or (et_not (et_val (ev_sp (n, r) (g_are_places T) hr (ea_cons (ev_var 0) (ea_cons (ev_var 1) ea_nil)) ⟨h0, h1, h2⟩))) fun _ => ew_or1 (tw_cmp (ec_eqL hr.units (ev_var 1) (ev_listI ei_nil (by decide)))))) (by rw [decide_eq_false h3]; rfl) (wps_nil ⟨rfl, rfl⟩)
def e_require_place : Nat × Int → List Im := fun a => [iI a.1, iI a.2]
def p_require_place : Nat × Int → Prop := fun a => 0 ≤ a.2 ∧ a.2 < a.1
def o_require_place : Nat × Int → Im := fun _ => iN
theorem nd_require_place : (["count", "place"] : List Str).Nodup := by decide +kernel
include T in
theorem g_require_place : Fn PRG w K mg base 2 "require_place" (pu (sp e_require_place p_require_place o_require_place)) := by
  refine fn_sp (N := ["count", "place"]) (ps := ["count", "place"]) T.m_require_place T.fd_require_place ⟨rfl, rfl, rfl, nd_require_place, rfl, by decide +kernel, by decide +kernel⟩
    (fun _ _ _ _ _ _ us hl => match us, hl with | [_, _], _ => rfl) (fun _ => rfl) (fun cdv A outer s H E O a hr h => ?_)
  have nd := nd_require_place
  obtain ⟨n, x⟩ := a
  obtain ⟨h0, h1⟩ := h
  exact wps_guard (et_not (et_val (ev_sp (x, 0, (n : Int) - 1) (g_is_between T) hr (ea_cons (ev_var 1) (ea_cons ev_int (ea_cons (ev_sub (ev_var 0) ev_int) ea_nil))) trivial))) (by show (!(decide ((0 : Int) ≤ x) && decide (x ≤ (n : Int) - 1))) = false; have h0' : (0 : Int) ≤ x := h0; have h1' : x < n := h1; simp; omega) (wps_nil ⟨rfl, rfl⟩)
def e_require_pair : Nat × Int × Int → List Im := fun a => [iI a.1, iI a.2.1, iI a.2.2]
def p_require_pair : Nat × Int × Int → Prop := fun a => (0 ≤ a.2.1 ∧ a.2.1 < a.1) ∧ (0 ≤ a.2.2 ∧ a.2.2 < a.1) ∧ a.2.1 ≠ a.2.2
def o_require_pair : Nat × Int × Int → Im := fun _ => iN
theorem nd_require_pair : (["count", "one", "other"] : List Str).Nodup := by decide +kernel
include T in
theorem g_require_pair : Fn PRG w K mg base 3 "require_pair" (pu (sp e_require_pair p_require_pair o_require_pair)) := by
  refine fn_sp (N := ["count", "one", "other"]) (ps := ["count", "one", "other"]) T.m_require_pair T.fd_require_pair ⟨rfl, rfl, rfl, nd_require_pair, rfl, by decide +kernel, by decide +kernel⟩
    (fun _ _ _ _ _ _ us hl => match us, hl with | [_, _, _], _ => rfl) (fun _ => rfl) (fun cdv A outer s H E O a hr h => ?_)
  have nd := nd_require_pair
  obtain ⟨n, x, y⟩ := a
  obtain ⟨h0, h1, h2⟩ := h
  refine wps_do (ev_sp (n, x) (g_require_place T) hr (ea_cons (ev_var 0) (ea_cons (ev_var 1) ea_nil)) h0) ?_
  refine wps_do (ev_sp (n, y) (g_require_place T) hr (ea_cons (ev_var 0) (ea_cons (ev_var 2) ea_nil)) h1) ?_
  exact wps_guard (tw_cmp (ec_eqI (ev_var 1) (ev_var 2))) (decide_eq_false h2) (wps_nil ⟨rfl, rfl⟩)
/-- the length of a trip -/
def lenOf (t : List (List Int)) (c : List Int) : Int := (c.zipIdx.map fun p => ent t p.1 (atL c ((p.2 : Nat) - 1))).sum
def e_length_of : List (List Int) × List Int → List Im := fun a => [.d (Tb a.1), .d (L a.2)]
def p_length_of : List (List Int) × List Int → Prop := fun a => Tab a.1 ∧ Pl a.1.length a.2 ∧ a.2.length ≤ 100000
def o_length_of : List (List Int) × List Int → Im := fun a => iI (lenOf a.1 a.2)
theorem nd_length_of : (["table", "trip", "at", "place"] : List Str).Nodup := by decide +kernel
include T in
theorem g_length_of : Fn PRG w K mg base 1 "length_of" (pu (sp e_length_of p_length_of o_length_of)) := by
  refine fn_sp (N := ["table", "trip", "at", "place"]) (ps := ["table", "trip"]) T.m_length_of T.fd_length_of ⟨rfl, rfl, rfl, nd_length_of, rfl, by decide +kernel, by decide +kernel⟩
    (fun _ _ _ _ _ _ us hl => match us, hl with | [_, _], _ => rfl) (fun _ => rfl) (fun cdv A outer s H E O a hr h => ?_)
  have nd := nd_length_of
  obtain ⟨t, c⟩ := a
  obtain ⟨h0, h1, h2⟩ := h
  refine wps_ret (ev_sum rfl T.b_sum (ev_lcI (own := [("at", 2), ("place", 3)]) (fun p : Int × Nat => ent t p.1 (atL c ((p.2 : Nat) - 1))) rfl nd (blkOk_by (own := [("at", 2), ("place", 3)]) (by rfl)) (itr_enumL T.b_enumerate (ev_var 1)) (by rw [List.length_zipIdx]; exact sz_le h2)
    (fun z hz => ?_))) ⟨rfl, rfl⟩
  obtain ⟨hi, hz'⟩ := List.mem_zipIdx' hz
  have hi' : z.2 < c.length := hi
  have hb : InB c.length ((z.2 : Nat) - 1) := by constructor <;> omega
  have hp : InB t.length z.1 := h1.in (by rw [hz']; exact List.getElem_mem _)
  exact ⟨_, fun _ _ _ _ _ => eg_pair 2 3 rfl nd, fun _ _ _ _ _ => ev_ent (ev_var 0) (ev_var 3) (ev_ixL (ev_var 1) (ev_sub (ev_var 2) ev_int) hb) hp (by rw [h0.rlen hp]; exact h1.in (atL_mem hb))⟩
def e_round_trip : List Int × List Int → List Im := fun a => [.d (L a.1), .d (L a.2)]
def p_round_trip : List Int × List Int → Prop := fun a => a.1.length ≤ 100000
def o_round_trip : List Int × List Int → Im := fun a => .d (L (a.1.filter fun x => decide (x ∈ a.2)))
theorem nd_round_trip : (["ring", "stops", "place"] : List Str).Nodup := by decide +kernel
include T in
theorem g_round_trip : Fn PRG w K mg base 1 "round_trip" (pu (sp e_round_trip p_round_trip o_round_trip)) := by
  refine fn_sp (N := ["ring", "stops", "place"]) (ps := ["ring", "stops"]) T.m_round_trip T.fd_round_trip ⟨rfl, rfl, rfl, nd_round_trip, rfl, by decide +kernel, by decide +kernel⟩
    (fun _ _ _ _ _ _ us hl => match us, hl with | [_, _], _ => rfl) (fun _ => rfl) (fun cdv A outer s H E O a hr h => ?_)
  have nd := nd_round_trip
  obtain ⟨r, c⟩ := a
  refine wps_ret (ev_lcFI (own := [("place", 2)]) (fun x => decide (x ∈ c)) (fun x => x) rfl nd (blkOk_by (own := [("place", 2)]) (by rfl)) (itr_listL (ev_var 0)) (sz_le h) (fun z hz => ⟨_, fun _ _ _ _ _ => eg_name 2 nd, fun _ _ _ _ _ => iw_one (tw_cmp (ec_inL (u65 hr) (ev_var 2) (ev_var 1))), fun _ _ _ _ _ _ => ev_var 2⟩)) ⟨?_, rfl⟩
  show Im.d (L _) = Im.d (L _)
  simp
def e_around_length : List (List Int) × List Int × List Int → List Im := fun a => [.d (Tb a.1), .d (L a.2.1), .d (L a.2.2)]
def p_around_length : List (List Int) × List Int × List Int → Prop := fun a => Tab a.1 ∧ Rg a.1.length a.2.1 ∧ Pl a.1.length a.2.2 ∧ a.2.2.Nodup ∧ a.2.2 ≠ []
def o_around_length : List (List Int) × List Int × List Int → Im := fun a => iI (lenOf a.1 (a.2.1.filter fun x => decide (x ∈ a.2.2)))
theorem nd_around_length : (["table", "ring", "stops"] : List Str).Nodup := by decide +kernel
include T in
theorem g_around_length : Fn PRG w K mg base 6 "around_length" (pu (sp e_around_length p_around_length o_around_length)) := by
  refine fn_sp (N := ["table", "ring", "stops"]) (ps := ["table", "ring", "stops"]) T.m_around_length T.fd_around_length ⟨rfl, rfl, rfl, nd_around_length, rfl, by decide +kernel, by decide +kernel⟩
    (fun _ _ _ _ _ _ us hl => match us, hl with | [_, _, _], _ => rfl) (fun _ => rfl) (fun cdv A outer s H E O a hr h => ?_)
  have nd := nd_around_length
  obtain ⟨t, r, c⟩ := a
  obtain ⟨h0, h1, h2, h3, h4⟩ := h
  have h30 : t.length ≤ 30 := h0.hi
  have hz : r.length ≤ 100000 := by rw [show r.length = t.length from h1.len]; omega
  refine wps_do (ev_sp (t, r) (g_require_both T) hr (ea_cons (ev_var 0) (ea_cons (ev_var 1) ea_nil)) ⟨h0, h1⟩) ?_
  refine wps_do (ev_sp (t.length, c) ((g_require_stops T).mono (by decide)) hr (ea_cons (ev_lenTb T.b_len (ev_var 0)) (ea_cons (ev_var 2) ea_nil)) ⟨show t.length ≤ 4000 by omega, h2, h3, h4⟩) ?_
  exact wps_ret (ev_sp (t, r.filter fun x => decide (x ∈ c)) ((g_length_of T).mono (by decide)) hr (ea_cons (ev_var 0) (ea_cons (ev_sp (r, c) ((g_round_trip T).mono (by decide)) hr (ea_cons (ev_var 1) (ea_cons (ev_var 2) ea_nil)) hz) ea_nil)) ⟨h0, fun x hx => h1.pl x (List.mem_filter.mp hx).1, Nat.le_trans (List.length_filter_le _ _) hz⟩) ⟨rfl, rfl⟩
end
end D81


/-! G2: amounts.py (as far as skips), changes.py -/
namespace D81
open PySem PySem.Spec PyProof.Rows L2 AL
section
variable {w : World} {K : PySem.W.Frag} {mg : Str → Option Value} {base : Heap} (T : Wo w K mg)
def runsAt (n : Nat) (b : Int) : List (Int × Int) := (rangeI 2 (min ((n : Int) - 2) ((n : Int) - b) + 1)).map fun s => (b, s)
def runsOf (n : Nat) : List (Int × Int) := (rangeI 1 n).flatMap (runsAt n)
def dP (p : Int × Int) : PyData := .tuple [.int p.1, .int p.2]
theorem runsAt_len {n : Nat} (h : n ≤ 30) (b : Int) : (runsAt n b).length ≤ 30 := by
  unfold runsAt
  rw [List.length_map, rangeI_len]
  omega
theorem runs_len {n k : Nat} (h : n ≤ 30) : (((rangeI 1 n).take k).flatMap (runsAt n)).length ≤ 900 := by
  have h1 := flatMap_len (f := runsAt n) (c := 30) (as := (rangeI 1 n).take k) fun a _ => runsAt_len h a
  have h2 : ((rangeI 1 n).take k).length ≤ 30 := by rw [List.length_take, rangeI_len]; omega
  have : ((rangeI 1 n).take k).length * 30 ≤ 30 * 30 := Nat.mul_le_mul_right _ h2
  omega
def e_runs_of : Nat → List Im := fun a => [iI a]
def p_runs_of : Nat → Prop := fun a => a ≤ 30
def o_runs_of : Nat → Im := fun a => iL ((runsOf a).map dP)
theorem nd_runs_of : (["count", "found", "begin", "size"] : List Str).Nodup := by decide +kernel
include T in
theorem g_runs_of : Fn PRG w K mg base 1 "runs_of" (pu (sp e_runs_of p_runs_of o_runs_of)) := by
  refine fn_sp (N := ["count", "found", "begin", "size"]) (ps := ["count"]) T.m_runs_of T.fd_runs_of ⟨rfl, rfl, rfl, nd_runs_of, rfl, by decide +kernel, by decide +kernel⟩
    (fun _ _ _ _ _ _ us hl => match us, hl with | [_], _ => rfl) (fun _ => rfl) (fun cdv A outer s H E O a hr h => ?_)
  have nd := nd_runs_of
  have h30 : a ≤ 30 := h
  refine wps_setW 1 nd (ew_listP ea_nil (by decide) fun p hp => ?_)
  refine wps_for (vs := [2]) (fun k ρ' O' => ρ' = [some (iI a), some (iP p), none, none] ∧ O' = setO O p (.lst (((((rangeI 1 a).take k).flatMap (runsAt a)).map dP).map .d))) rfl (itr_range2 T.b_range ev_int (ev_var 0) (by decide) (by constructor <;> (show _; omega))) ⟨_, Le.refl _, rfl, rfl⟩ (fun _ _ _ _ _ => trivial) (fun k b ρ O' hb hI => ?_) (fun ρ O' hI => ?_)
  · obtain ⟨rfl, rfl⟩ := hI
    refine ⟨_, eg_name 2 nd, ?_⟩
    have hb' := mem_rangeI.mp (List.mem_of_getElem? hb)
    refine wps_cons (wp_extend (ds := (runsAt a b).map dP) (O2 := setO O p (.lst (((((rangeI 1 a).take k).flatMap (runsAt a)).map dP).map .d))) (ev_var 1) ?_ setO_same setO_same ?_ ?_)
    · refine (ev_lcM (own := [("size", 3)]) (fun s => dP (b, s)) rfl nd (blkOk_by (own := [("size", 3)]) (by rfl)) (itr_range2 T.b_range ev_int (ev_add (ev_min2 rfl T.b_min (ev_sub (ev_var 0) ev_int) (ev_sub (ev_var 0) (ev_var 2))) ev_int) (by decide) (by constructor <;> omega)) (by rw [rangeI_len]; exact sz_le (by omega))
        (fun z hz => ⟨_, fun _ _ _ _ _ => eg_name 3 nd, fun _ _ _ _ _ => ev_tup (ed_cons (ev_var 2) (ed_cons (ev_var 3) ed_nil)) (sz_le (by simp))⟩)).eq ?_
      unfold runsAt
      rw [List.map_map]; rfl
    · rw [List.length_map, List.length_map, List.length_map]
      have := runs_len (k := k) h30
      have := runsAt_len h30 b
      exact sz_le (by omega)
    · refine wps_nil ⟨_, le_mask [true, true, false, false] _, rfl, ?_⟩
      rw [setO_setO, take_snoc hb, List.flatMap_append, List.map_append, List.map_append]
      simp
  · obtain ⟨rfl, rfl⟩ := hI
    refine wps_retW (ew_freeze (ev_var 1) setO_same ⟨?_, delO_setO hp⟩)
    show iL _ = iL _
    rw [List.take_length]; rfl
/-- the amount of a run -/
def runAmt (t : List (List Int)) (r : List Int) (b s : Int) : Int :=
  ent t (atL r ((b - 1) % (r.length : Nat))) (atL r ((b + s - 1) % (r.length : Nat))) + ent t (atL r (b % (r.length : Nat))) (atL r ((b + s) % (r.length : Nat)))
    - ent t (atL r (b % (r.length : Nat))) (atL r ((b + s - 1) % (r.length : Nat))) - ent t (atL r ((b - 1) % (r.length : Nat))) (atL r ((b + s) % (r.length : Nat)))
def e_run_amount : List (List Int) × List Int × Int × Int → List Im := fun a => [.d (Tb a.1), .d (L a.2.1), iI a.2.2.1, iI a.2.2.2]
def p_run_amount : List (List Int) × List Int × Int × Int → Prop := fun a => Tab a.1 ∧ Rg a.1.length a.2.1
def o_run_amount : List (List Int) × List Int × Int × Int → Im := fun a => iI (runAmt a.1 a.2.1 a.2.2.1 a.2.2.2)
theorem nd_run_amount : (["table", "ring", "begin", "size", "count", "first", "last", "ahead", "behind"] : List Str).Nodup := by decide +kernel
include T in
theorem g_run_amount : Fn PRG w K mg base 1 "run_amount" (pu (sp e_run_amount p_run_amount o_run_amount)) := by
  refine fn_sp (N := ["table", "ring", "begin", "size", "count", "first", "last", "ahead", "behind"]) (ps := ["table", "ring", "begin", "size"]) T.m_run_amount T.fd_run_amount ⟨rfl, rfl, rfl, nd_run_amount, rfl, by decide +kernel, by decide +kernel⟩
    (fun _ _ _ _ _ _ us hl => match us, hl with | [_, _, _, _], _ => rfl) (fun _ => rfl) (fun cdv A outer s H E O a hr h => ?_)
  have nd := nd_run_amount
  obtain ⟨t, r, b, s⟩ := a
  obtain ⟨h0, h1⟩ := h
  have hn : r.length = t.length := h1.len
  have hlo : 1 ≤ t.length := h0.lo
  have hp : (0 : Int) < (r.length : Nat) := by omega
  have hm : ∀ i : Int, InB r.length (i % (r.length : Nat)) := fun i => by
    have := Int.emod_nonneg i (by omega : ((r.length : Nat) : Int) ≠ 0)
    have := Int.emod_lt_of_pos i hp
    constructor <;> omega
  have ha : ∀ i : Int, InB t.length (atL r (i % (r.length : Nat))) := fun i => h1.pl.in (atL_mem (hm i))
  have hl : ∀ i : Int, (atR t (atL r (i % (r.length : Nat)))).length = t.length := fun i => h0.rlen (ha i)
  refine wps_set 4 nd (ev_lenL T.b_len (ev_var 1)) ?_
  refine wps_par 5 6 rfl nd (ea_cons (ev_ixL (ev_var 1) (ev_mod (ev_var 2) (ev_var 4) hp) (hm _)) (ea_cons (ev_ixL (ev_var 1) (ev_mod (ev_sub (ev_add (ev_var 2) (ev_var 3)) ev_int) (ev_var 4) hp) (hm _)) ea_nil)) ?_
  refine wps_par 7 8 rfl nd (ea_cons (ev_ixL (ev_var 1) (ev_mod (ev_sub (ev_var 2) ev_int) (ev_var 4) hp) (hm _)) (ea_cons (ev_ixL (ev_var 1) (ev_mod (ev_add (ev_var 2) (ev_var 3)) (ev_var 4) hp) (hm _)) ea_nil)) ?_
  have hq : ∀ i j : Int, InB (atR t (atL r (i % (r.length : Nat)))).length (atL r (j % (r.length : Nat))) := fun i j => by rw [hl i]; exact ha j
  exact wps_ret (ev_sub (ev_sub (ev_add (ev_ent (ev_var 0) (ev_var 7) (ev_var 6) (ha _) (hq _ _)) (ev_ent (ev_var 0) (ev_var 5) (ev_var 8) (ha _) (hq _ _))) (ev_ent (ev_var 0) (ev_var 5) (ev_var 6) (ha _) (hq _ _))) (ev_ent (ev_var 0) (ev_var 7) (ev_var 8) (ha _) (hq _ _))) ⟨rfl, rfl⟩
def skipB (t : List (List Int)) (r : List Int) : Bool := (runsOf r.length).all fun p => decide (0 ≤ runAmt t r p.1 p.2)
def e_skips : List (List Int) × List Int → List Im := fun a => [.d (Tb a.1), .d (L a.2)]
def p_skips : List (List Int) × List Int → Prop := fun a => Tab a.1 ∧ Rg a.1.length a.2
def o_skips : List (List Int) × List Int → Im := fun a => iB (skipB a.1 a.2)
theorem nd_skips : (["table", "ring", "begin", "size"] : List Str).Nodup := by decide +kernel
include T in
theorem g_skips : Fn PRG w K mg base 2 "skips" (pu (sp e_skips p_skips o_skips)) := by
  refine fn_sp (N := ["table", "ring", "begin", "size"]) (ps := ["table", "ring"]) T.m_skips T.fd_skips ⟨rfl, rfl, rfl, nd_skips, rfl, by decide +kernel, by decide +kernel⟩
    (fun _ _ _ _ _ _ us hl => match us, hl with | [_, _], _ => rfl) (fun _ => rfl) (fun cdv A outer s H E O a hr h => ?_)
  have nd := nd_skips
  obtain ⟨t, r⟩ := a
  obtain ⟨h0, h1⟩ := h
  have hn : r.length = t.length := h1.len
  have h30 : t.length ≤ 30 := h0.hi
  refine wps_ret (ev_all rfl T.b_all (ev_lcB (own := [("begin", 2), ("size", 3)]) (fun p : Int × Int => decide (0 ≤ runAmt t r p.1 p.2)) rfl nd (blkOk_by (own := [("begin", 2), ("size", 3)]) (by rfl)) (itr_eq (itr_list (ev_sp r.length (g_runs_of T) hr (ea_cons (ev_lenL T.b_len (ev_var 1)) ea_nil) (show r.length ≤ 30 by omega))) (show _ = (runsOf r.length).map fun p => .d (dP p) by rw [List.map_map]; rfl)) ?_
    (fun z hz => ⟨_, fun _ _ _ _ _ => eg_pairD 2 3 rfl nd, fun _ _ _ _ _ => ev_cmp (ec_ge (ev_sp (t, r, z.1, z.2) (g_run_amount T) hr (ea_cons (ev_var 0) (ea_cons (ev_var 1) (ea_cons (ev_var 2) (ea_cons (ev_var 3) ea_nil)))) ⟨h0, h1⟩) ev_int)⟩))) ⟨?_, rfl⟩
  · have h1 := runs_len (n := r.length) (k := (rangeI 1 r.length).length) (by omega)
    rw [List.take_length] at h1
    exact sz_le (by unfold runsOf; omega)
  · show iB _ = iB _
    unfold skipB
    rw [List.all_map]; rfl
def e_is_skip : List (List Int) × List Int → List Im := fun a => [.d (Tb a.1), .d (L a.2)]
def p_is_skip : List (List Int) × List Int → Prop := fun a => Tab a.1 ∧ Rg a.1.length a.2
def o_is_skip : List (List Int) × List Int → Im := fun a => iB (skipB a.1 a.2)
theorem nd_is_skip : (["table", "ring"] : List Str).Nodup := by decide +kernel
include T in
theorem g_is_skip : Fn PRG w K mg base 6 "is_skip" (pu (sp e_is_skip p_is_skip o_is_skip)) := by
  refine fn_sp (N := ["table", "ring"]) (ps := ["table", "ring"]) T.m_is_skip T.fd_is_skip ⟨rfl, rfl, rfl, nd_is_skip, rfl, by decide +kernel, by decide +kernel⟩
    (fun _ _ _ _ _ _ us hl => match us, hl with | [_, _], _ => rfl) (fun _ => rfl) (fun cdv A outer s H E O a hr h => ?_)
  have nd := nd_is_skip
  refine wps_do (ev_sp a (g_require_both T) hr (ea_cons (ev_var 0) (ea_cons (ev_var 1) ea_nil)) h) ?_
  exact wps_ret (ev_sp a ((g_skips T).mono (by decide)) hr (ea_cons (ev_var 0) (ea_cons (ev_var 1) ea_nil)) h) ⟨rfl, rfl⟩
/-- a table with one place more -/
def grownT (t : List (List Int)) (row : List Int) : List (List Int) := ((t.zip row).map fun p => p.1 ++ [p.2]) ++ [row ++ [0]]
def e_grown_table : List (List Int) × List Int → List Im := fun a => [.d (Tb a.1), .d (L a.2)]
def p_grown_table : List (List Int) × List Int → Prop := fun a => a.1.length ≤ 1000 ∧ a.2.length ≤ 1000 ∧ ∀ r ∈ a.1, r.length ≤ 1000
def o_grown_table : List (List Int) × List Int → Im := fun a => .d (Tb (grownT a.1 a.2))
theorem nd_grown_table : (["table", "row", "found", "own", "distance"] : List Str).Nodup := by decide +kernel
include T in
theorem g_grown_table : Fn PRG w K mg base 1 "grown_table" (pu (sp e_grown_table p_grown_table o_grown_table)) := by
  refine fn_sp (N := ["table", "row", "found", "own", "distance"]) (ps := ["table", "row"]) T.m_grown_table T.fd_grown_table ⟨rfl, rfl, rfl, nd_grown_table, rfl, by decide +kernel, by decide +kernel⟩
    (fun _ _ _ _ _ _ us hl => match us, hl with | [_, _], _ => rfl) (fun _ => rfl) (fun cdv A outer s H E O a hr h => ?_)
  have nd := nd_grown_table
  obtain ⟨t, row⟩ := a
  obtain ⟨h0, h1, h2⟩ := h
  have h0' : t.length ≤ 1000 := h0
  have h1' : row.length ≤ 1000 := h1
  refine wps_lcM (own := [("own", 3), ("distance", 4)]) (d := Tb ((t.zip row).map fun p => p.1 ++ [p.2])) 2 (fun p => L (p.1 ++ [p.2])) rfl nd (blkOk_by (own := [("own", 3), ("distance", 4)]) (by rfl)) (itr_zipRL T.b_zip (ev_var 0) (ev_var 1)) (by rw [List.length_zip]; exact sz_le (by omega))
    (fun z hz => ⟨_, fun _ _ _ _ _ => eg_pair 3 4 rfl nd, fun _ _ _ _ _ => ev_listI (ei_star (ev_var 3) (ei_cons (ev_var 4) ei_nil)) (by have := h2 z.1 (List.of_mem_zip hz).1; rw [List.length_append]; exact sz_le (by simp; omega))⟩) ?_ (by simp [Tb, List.map_map, Function.comp_def]) ⟨trivial, trivial⟩
  refine wps_ret (ev_listTb (e2_star (ev_var 2) (e2_cons (ev_listI (ei_star (ev_var 1) (ei_cons ev_int ei_nil)) ?_) e2_nil)) ?_) ⟨rfl, rfl⟩
  · rw [List.length_append]; exact sz_le (by simp; omega)
  · rw [List.length_append, List.length_map, List.length_zip]; exact sz_le (by simp; omega)
def withoutL (ns : List Int) (p : Int) : List Int := (ns.filter fun x => !decide (x = p)).map fun x => x - if decide (p < x) then 1 else 0
def e_without : List Int × Int → List Im := fun a => [.d (L a.1), iI a.2]
def p_without : List Int × Int → Prop := fun a => a.1.length ≤ 1000
def o_without : List Int × Int → Im := fun a => .d (L (withoutL a.1 a.2))
theorem nd_without : (["numbers", "place", "one"] : List Str).Nodup := by decide +kernel
include T in
theorem g_without : Fn PRG w K mg base 1 "without" (pu (sp e_without p_without o_without)) := by
  refine fn_sp (N := ["numbers", "place", "one"]) (ps := ["numbers", "place"]) T.m_without T.fd_without ⟨rfl, rfl, rfl, nd_without, rfl, by decide +kernel, by decide +kernel⟩
    (fun _ _ _ _ _ _ us hl => match us, hl with | [_, _], _ => rfl) (fun _ => rfl) (fun cdv A outer s H E O a hr h => ?_)
  have nd := nd_without
  obtain ⟨ns, p⟩ := a
  have h' : ns.length ≤ 1000 := h
  exact wps_ret (ev_lcFI (own := [("one", 2)]) (fun x => !decide (x = p)) (fun x => x - if decide (p < x) then 1 else 0) rfl nd (blkOk_by (own := [("one", 2)]) (by rfl)) (itr_listL (ev_var 0)) (sz_le (show ns.length ≤ _ by omega)) (fun z hz => ⟨_, fun _ _ _ _ _ => eg_name 2 nd, fun _ _ _ _ _ => iw_one (tw_cmp (ec_neI (ev_var 2) (ev_var 1))), fun _ _ _ _ _ _ => ev_sub (ev_var 2) (ev_intB T.b_int (ev_cmp (ec_gt (ev_var 2) (ev_var 1))))⟩)) ⟨rfl, rfl⟩
def restT (t : List (List Int)) (ps : List Int) : List (List Int) := ps.map fun i => ps.map fun j => ent t i j
def e_table_of_rest : List (List Int) × List Int → List Im := fun a => [.d (Tb a.1), .d (L a.2)]
def p_table_of_rest : List (List Int) × List Int → Prop := fun a => Tab a.1 ∧ Pl a.1.length a.2 ∧ a.2.length ≤ 1000
def o_table_of_rest : List (List Int) × List Int → Im := fun a => .d (Tb (restT a.1 a.2))
theorem nd_table_of_rest : (["table", "places", "other", "one"] : List Str).Nodup := by decide +kernel
include T in
theorem g_table_of_rest : Fn PRG w K mg base 1 "table_of_rest" (pu (sp e_table_of_rest p_table_of_rest o_table_of_rest)) := by
  refine fn_sp (N := ["table", "places", "other", "one"]) (ps := ["table", "places"]) T.m_table_of_rest T.fd_table_of_rest ⟨rfl, rfl, rfl, nd_table_of_rest, rfl, by decide +kernel, by decide +kernel⟩
    (fun _ _ _ _ _ _ us hl => match us, hl with | [_, _], _ => rfl) (fun _ => rfl) (fun cdv A outer s H E O a hr h => ?_)
  have nd := nd_table_of_rest
  obtain ⟨t, ps⟩ := a
  obtain ⟨h0, h1, h2⟩ := h
  have h2' : ps.length ≤ 1000 := h2
  exact wps_ret (ev_lcR (own := [("one", 3)]) (fun i => ps.map fun j => ent t i j) rfl nd (blkOk_by (own := [("one", 3)]) (by rfl)) (itr_listL (ev_var 1)) (sz_le (show ps.length ≤ _ by omega)) (fun z hz => ⟨_, fun _ _ _ _ _ => eg_name 3 nd, fun _ _ _ _ _ =>
    ev_lcI (own := [("other", 2)]) (fun j => ent t z j) rfl nd (blkOk_by (own := [("other", 2)]) (by rfl)) (itr_listL (ev_var 1)) (sz_le (show ps.length ≤ _ by omega)) (fun y hy => ⟨_, fun _ _ _ _ _ => eg_name 2 nd, fun _ _ _ _ _ => ev_ent (ev_var 0) (ev_var 3) (ev_var 2) (h1.in hz) (by rw [h0.rlen (h1.in hz)]; exact h1.in hy)⟩)⟩)) ⟨rfl, rfl⟩
def e_require_row : Int × List Int → List Im := fun a => [iI a.1, .d (L a.2)]
def p_require_row : Int × List Int → Prop := fun a => a.2.length ≤ 1000 ∧ rowB a.1 a.2 = true
def o_require_row : Int × List Int → Im := fun a => iN
theorem nd_require_row : (["count", "row"] : List Str).Nodup := by decide +kernel
include T in
theorem g_require_row : Fn PRG w K mg base 3 "require_row" (pu (sp e_require_row p_require_row o_require_row)) := by
  refine fn_sp (N := ["count", "row"]) (ps := ["count", "row"]) T.m_require_row T.fd_require_row ⟨rfl, rfl, rfl, nd_require_row, rfl, by decide +kernel, by decide +kernel⟩
    (fun _ _ _ _ _ _ us hl => match us, hl with | [_, _], _ => rfl) (fun _ => rfl) (fun cdv A outer s H E O a hr h => ?_)
  have nd := nd_require_row
  exact wps_guard (et_not (et_val (ev_sp a (g_is_row T) hr (ea_cons (ev_var 0) (ea_cons (ev_var 1) ea_nil)) (show a.2.length ≤ 100000 by have := h.1; omega)))) (by rw [h.2]; rfl) (wps_nil ⟨rfl, rfl⟩)
def e_require_room : List (List Int) → List Im := fun t => [.d (Tb t)]
def p_require_room : List (List Int) → Prop := fun t => t.length ≠ 30
def o_require_room : List (List Int) → Im := fun _ => iN
theorem nd_require_room : (["table"] : List Str).Nodup := by decide +kernel
include T in
theorem g_require_room : Fn PRG w K mg base 1 "require_room" (pu (sp e_require_room p_require_room o_require_room)) := by
  refine fn_sp (N := ["table"]) (ps := ["table"]) T.m_require_room T.fd_require_room ⟨rfl, rfl, rfl, nd_require_room, rfl, by decide +kernel, by decide +kernel⟩
    (fun _ _ _ _ _ _ us hl => match us, hl with | [_], _ => rfl) (fun _ => rfl) (fun cdv A outer s H E O a hr h => ?_)
  have nd := nd_require_room
  exact wps_guard (tw_cmp (ec_eqI (ev_lenTb T.b_len (ev_var 0)) (ev_gint T.i_MOST_PLACES))) (decide_eq_false (by have h' : a.length ≠ 30 := h; omega)) (wps_nil ⟨rfl, rfl⟩)
theorem rowB_len {n : Nat} {r : List Int} (h : rowB n r = true) : r.length = n := by
  unfold rowB at h
  have h' := (ba h).1
  have := of_decide_eq_true h'
  omega
theorem _root_.AL.Tab.small {t : List (List Int)} (h : Tab t) : t.length ≤ 1000 ∧ ∀ r ∈ t, r.length ≤ 1000 := by
  have := h.hi
  exact ⟨by omega, fun r hr => by rw [(h.row r hr).1]; omega⟩
def e_grown : List (List Int) × List Int → List Im := fun a => [.d (Tb a.1), .d (L a.2)]
def p_grown : List (List Int) × List Int → Prop := fun a => Tab a.1 ∧ rowB a.1.length a.2 = true ∧ a.1.length ≠ 30
def o_grown : List (List Int) × List Int → Im := fun a => .d (Tb (grownT a.1 a.2))
theorem nd_grown : (["table", "row"] : List Str).Nodup := by decide +kernel
include T in
theorem g_grown : Fn PRG w K mg base 5 "grown" (pu (sp e_grown p_grown o_grown)) := by
  refine fn_sp (N := ["table", "row"]) (ps := ["table", "row"]) T.m_grown T.fd_grown ⟨rfl, rfl, rfl, nd_grown, rfl, by decide +kernel, by decide +kernel⟩
    (fun _ _ _ _ _ _ us hl => match us, hl with | [_, _], _ => rfl) (fun _ => rfl) (fun cdv A outer s H E O a hr h => ?_)
  have nd := nd_grown
  obtain ⟨t, row⟩ := a
  obtain ⟨h0, h1, h2⟩ := h
  have hl : row.length = t.length := rowB_len h1
  have h3 : t.length ≤ 1000 := h0.small.1
  refine wps_do (ev_sp t (g_require_table T) hr (ea_cons (ev_var 0) ea_nil) h0) ?_
  refine wps_do (ev_sp ((t.length : Int), row) ((g_require_row T).mono (by decide)) hr (ea_cons (ev_lenTb T.b_len (ev_var 0)) (ea_cons (ev_var 1) ea_nil)) ⟨show row.length ≤ 1000 by omega, h1⟩) ?_
  refine wps_do (ev_sp t ((g_require_room T).mono (by decide)) hr (ea_cons (ev_var 0) ea_nil) h2) ?_
  exact wps_ret (ev_sp (t, row) ((g_grown_table T).mono (by decide)) hr (ea_cons (ev_var 0) (ea_cons (ev_var 1) ea_nil)) ⟨h3, show row.length ≤ 1000 by omega, h0.small.2⟩) ⟨rfl, rfl⟩
def e_shrunk : List (List Int) × Int → List Im := fun a => [.d (Tb a.1), iI a.2]
def p_shrunk : List (List Int) × Int → Prop := fun a => Tab a.1 ∧ (0 ≤ a.2 ∧ a.2 < a.1.length) ∧ a.1.length ≠ 1
def leftOf (n : Nat) (p : Int) : List Int := (rangeI 0 n).filter fun x => !decide (x = p)
def o_shrunk : List (List Int) × Int → Im := fun a => .d (Tb (restT a.1 (leftOf a.1.length a.2)))
theorem left_pl (n : Nat) (p : Int) : Pl n (leftOf n p) := fun x hx => mem_rangeI.mp (List.mem_filter.mp hx).1
theorem left_len (n : Nat) (p : Int) : (leftOf n p).length ≤ n := by
  have h := List.length_filter_le (fun x => !decide (x = p)) (rangeI 0 n)
  rw [rangeI_len] at h
  unfold leftOf
  omega
theorem nd_shrunk : (["table", "place", "one"] : List Str).Nodup := by decide +kernel
include T in
theorem g_shrunk : Fn PRG w K mg base 5 "shrunk" (pu (sp e_shrunk p_shrunk o_shrunk)) := by
  refine fn_sp (N := ["table", "place", "one"]) (ps := ["table", "place"]) T.m_shrunk T.fd_shrunk ⟨rfl, rfl, rfl, nd_shrunk, rfl, by decide +kernel, by decide +kernel⟩
    (fun _ _ _ _ _ _ us hl => match us, hl with | [_, _], _ => rfl) (fun _ => rfl) (fun cdv A outer s H E O a hr h => ?_)
  have nd := nd_shrunk
  obtain ⟨t, p⟩ := a
  obtain ⟨h0, h1, h2⟩ := h
  have h30 : t.length ≤ 30 := h0.hi
  have h2' : t.length ≠ 1 := h2
  refine wps_do (ev_sp t (g_require_table T) hr (ea_cons (ev_var 0) ea_nil) h0) ?_
  refine wps_do (ev_sp (t.length, p) ((g_require_place T).mono (by decide)) hr (ea_cons (ev_lenTb T.b_len (ev_var 0)) (ea_cons (ev_var 1) ea_nil)) h1) ?_
  refine wps_guard (tw_cmp (ec_eqI (ev_lenTb T.b_len (ev_var 0)) ev_int)) (decide_eq_false (by omega)) ?_
  refine wps_ret (ev_sp (t, leftOf t.length p) ((g_table_of_rest T).mono (by decide)) hr (ea_cons (ev_var 0) (ea_cons ((ev_lcFI (own := [("one", 2)]) (fun x => !decide (x = p)) (fun x => x) rfl nd (blkOk_by (own := [("one", 2)]) (by rfl)) (itr_range1 T.b_range (ev_lenTb T.b_len (ev_var 0)) (show -(2 ^ 62) ≤ ((t.length : Nat) : Int) ∧ ((t.length : Nat) : Int) < 2 ^ 62 by omega)) (by rw [rangeI_len]; exact sz_le (show ((t.length : Nat) - (0 : Int)).toNat ≤ 100000 by omega)) (fun z hz => ⟨_, fun _ _ _ _ _ => eg_name 2 nd, fun _ _ _ _ _ => iw_one (tw_cmp (ec_neI (ev_var 2) (ev_var 1))), fun _ _ _ _ _ _ => ev_var 2⟩)).eq ?_) ea_nil)) ⟨h0, left_pl _ _, show (leftOf t.length p).length ≤ 1000 by have := left_len t.length p; omega⟩) ⟨rfl, rfl⟩
  show Im.d (L _) = Im.d (L _)
  unfold leftOf
  simp
def e_ring_without : Nat × List Int × Int → List Im := fun a => [.d (L a.2.1), iI a.2.2]
def p_ring_without : Nat × List Int × Int → Prop := fun a => 2 ≤ a.1 ∧ a.1 ≤ 30 ∧ Rg a.1 a.2.1 ∧ (0 ≤ a.2.2 ∧ a.2.2 < a.1)
def o_ring_without : Nat × List Int × Int → Im := fun a => .d (L (withoutL a.2.1 a.2.2))
theorem nd_ring_without : (["ring", "place"] : List Str).Nodup := by decide +kernel
include T in
theorem g_ring_without : Fn PRG w K mg base 5 "ring_without" (pu (sp e_ring_without p_ring_without o_ring_without)) := by
  refine fn_sp (N := ["ring", "place"]) (ps := ["ring", "place"]) T.m_ring_without T.fd_ring_without ⟨rfl, rfl, rfl, nd_ring_without, rfl, by decide +kernel, by decide +kernel⟩
    (fun _ _ _ _ _ _ us hl => match us, hl with | [_, _], _ => rfl) (fun _ => rfl) (fun cdv A outer s H E O a hr h => ?_)
  have nd := nd_ring_without
  obtain ⟨n, r, p⟩ := a
  obtain ⟨h0, h1, h2, h3⟩ := h
  have h0' : 2 ≤ n := h0
  have h1' : n ≤ 30 := h1
  have hl : r.length = n := h2.len
  refine wps_do (ev_sp (false, n, r) (g_require_ring T) hr (ea_cons ev_non (ea_cons (ev_var 0) ea_nil)) ⟨show 1 ≤ n by omega, h1, h2⟩) ?_
  refine wps_do (ev_sp (n, p) ((g_require_place T).mono (by decide)) hr (ea_cons ((ev_lenL T.b_len (ev_var 0)).eq (show iI ((r.length : Nat) : Int) = iI (n : Nat) by rw [hl])) (ea_cons (ev_var 1) ea_nil)) h3) ?_
  refine wps_guard (tw_cmp (ec_eqI (ev_lenL T.b_len (ev_var 0)) ev_int)) (decide_eq_false (show ¬ (((r.length : Nat) : Int) = 1) by omega)) ?_
  exact wps_ret (ev_sp (r, p) ((g_without T).mono (by decide)) hr (ea_cons (ev_var 0) (ea_cons (ev_var 1) ea_nil)) (show r.length ≤ 1000 by omega)) ⟨rfl, rfl⟩
end
end D81


/-! G3: plain_trip; what a change leads to -/
namespace D81
open PySem PySem.Spec PyProof.Rows L2 AL
/-! ### mirrors -/
def plainTrip (r : List Int) : List Int :=
  let u := cutA r (some (idxI r (minL r))) none ++ cutA r none (some (idxI r (minL r)))
  minLL u (cutA u none (some 1) ++ (cutA u (some 1) none).reverse)
inductive Ch where
  | change (a b d : Int) | add (row : List Int) (i : Int) | drop (p : Int) | turn (r : List Int)
def chD : Ch → PyData
  | .change a b d => .tuple [.str "change", .int a, .int b, .int d]
  | .add row i => .tuple [.str "add", L row, .int i]
  | .drop p => .tuple [.str "drop", .int p]
  | .turn r => .tuple [.str "turn", L r]
def setE (t : List (List Int)) (a b d : Int) : List (List Int) := t.set a.toNat ((atR t a).set b.toNat d)
def setT (t : List (List Int)) (a b d : Int) : List (List Int) := setE (setE t a b d) b a d
def addR (r : List Int) (n : Int) (i : Int) : List Int := cutA r none (some (i + 1)) ++ (n :: cutA r (some (i + 1)) none)
def goCh (t : List (List Int)) (r : List Int) : Ch → List (List Int) × List Int
  | .change a b d => (setT t a b d, r)
  | .add row i => (grownT t row, addR r t.length i)
  | .drop p => (restT t (leftOf t.length p), withoutL r p)
  | .turn q => (t, q)
def okCh (t : List (List Int)) (r : List Int) : Ch → Prop
  | .change a b d => (0 ≤ a ∧ a < t.length) ∧ (0 ≤ b ∧ b < t.length) ∧ a ≠ b ∧ (0 ≤ d ∧ d ≤ 1000000000000000000000000000000)
  | .add row i => rowB t.length row = true ∧ (0 ≤ i ∧ i < r.length) ∧ t.length ≠ 30
  | .drop p => (0 ≤ p ∧ p < t.length) ∧ t.length ≠ 1
  | .turn q => Rg t.length q
theorem minL_in {r : List Int} (h : r ≠ []) : minL r ∈ r := minL_mem h
theorem cutA_len {α : Type} (xs : List α) (i j : Option Int) : (cutA xs i j).length ≤ xs.length := by
  unfold cutA
  rw [List.length_take, List.length_drop]
  omega
theorem ixN_nat {n : Nat} {i : Int} (h : 0 ≤ i ∧ i < n) : ixN n i = some i.toNat := by
  unfold ixN
  rw [if_pos h.1, if_pos h.2]
theorem atI_nat' {α : Type} {xs : List α} {i : Int} (h : 0 ≤ i ∧ i < xs.length) : atI xs i = xs[i.toNat]? := by
  unfold atI
  rw [ixN_nat h]; rfl
theorem atR_nat {t : List (List Int)} {i : Int} (h : 0 ≤ i ∧ i < t.length) : t[i.toNat]? = some (atR t i) := by
  unfold atR
  rw [atI_nat' h]
  have : i.toNat < t.length := by omega
  rw [List.getElem?_eq_getElem this]; rfl
theorem setE_len (t : List (List Int)) (a b d : Int) : (setE t a b d).length = t.length := by unfold setE; rw [List.length_set]
theorem atR_setE {t : List (List Int)} {a b d i : Int} (hi : 0 ≤ i ∧ i < t.length) (ha : 0 ≤ a ∧ a < t.length) : atR (setE t a b d) i = if i = a then (atR t a).set b.toNat d else atR t i := by
  have h1 : (setE t a b d)[i.toNat]? = some (atR (setE t a b d) i) := atR_nat (by rw [setE_len]; exact hi)
  unfold setE at h1
  have ha' : a.toNat < t.length := by omega
  by_cases e : i = a
  · subst e
    rw [if_pos rfl]
    rw [List.getElem?_set_self ha'] at h1
    unfold setE
    exact (Option.some.inj h1).symm
  · rw [if_neg e]
    rw [List.getElem?_set_ne (by omega), atR_nat hi] at h1
    unfold setE
    exact (Option.some.inj h1).symm
section
variable {w : World} {K : PySem.W.Frag} {mg : Str → Option Value} {base : Heap} (T : Wo w K mg)
def e_plain_trip : List Int → List Im := fun r => [.d (L r)]
def p_plain_trip : List Int → Prop := fun r => r ≠ [] ∧ r.length ≤ 1000
def o_plain_trip : List Int → Im := fun r => .d (L (plainTrip r))
theorem nd_plain_trip : (["trip", "at", "turned"] : List Str).Nodup := by decide +kernel
include T in
theorem g_plain_trip : Fn PRG w K mg base 1 "plain_trip" (pu (sp e_plain_trip p_plain_trip o_plain_trip)) := by
  refine fn_sp (N := ["trip", "at", "turned"]) (ps := ["trip"]) T.m_plain_trip T.fd_plain_trip ⟨rfl, rfl, rfl, nd_plain_trip, rfl, by decide +kernel, by decide +kernel⟩
    (fun _ _ _ _ _ _ us hl => match us, hl with | [_], _ => rfl) (fun _ => rfl) (fun cdv A outer s H E O a hr h => ?_)
  have nd := nd_plain_trip
  obtain ⟨h0, h1⟩ := h
  have hl := fun i j => cutA_len a i j
  refine wps_set 1 nd (ev_index (u65 hr) (ev_var 0) (ev_min rfl T.b_min (ev_var 0) h0) (minL_in h0)) ?_
  refine wps_set 2 nd (ev_catL (ev_slL (ev_var 0) (po_s (ev_var 1)) po_n) (ev_slL (ev_var 0) po_n (po_s (ev_var 1))) (by have := hl (some (idxI a (minL a))) none; have := hl none (some (idxI a (minL a))); exact sz_le (by omega))) ?_
  refine wps_ret (ev_minLL rfl (u65 hr) T.b_min (ev_var 2) (ev_catL (ev_slL (ev_var 2) po_n (po_s ev_int)) (ev_revL (ev_slL (ev_var 2) (po_s ev_int) po_n)) ?_)) ⟨rfl, rfl⟩
  rw [List.length_reverse]
  have h2 := hl (some (idxI a (minL a))) none
  have h3 := hl none (some (idxI a (minL a)))
  have h4 := cutA_len (cutA a (some (idxI a (minL a))) none ++ cutA a none (some (idxI a (minL a)))) none (some 1)
  have h5 := cutA_len (cutA a (some (idxI a (minL a))) none ++ cutA a none (some (idxI a (minL a)))) (some 1) none
  rw [List.length_append] at h4 h5
  exact sz_le (by omega)
def e_behind_change : List (List Int) × List Int × Int × Int × Int → List Im := fun a => [.d (Tb a.1), .d (L a.2.1), iI a.2.2.1, iI a.2.2.2.1, iI a.2.2.2.2]
def p_behind_change : List (List Int) × List Int × Int × Int × Int → Prop := fun a => Tab a.1 ∧ okCh a.1 a.2.1 (.change a.2.2.1 a.2.2.2.1 a.2.2.2.2)
def o_behind_change : List (List Int) × List Int × Int × Int × Int → Im := fun a => iT [Tb (setT a.1 a.2.2.1 a.2.2.2.1 a.2.2.2.2), L a.2.1]
theorem ptr_at {ps : List Addr} {i : Int} {q : Addr} (h : 0 ≤ i ∧ i < ps.length) (e : ps[i.toNat]? = some q) : atI (ps.map iP) i = some (iP q) := by
  rw [atI_nat' (by rw [List.length_map]; exact h), List.getElem?_map, e]; rfl
theorem set_im (r : List Int) (j : Nat) (d : Int) : (r.map iI).set j (iI d) = (r.set j d).map iI := by rw [List.map_set]
theorem nd_behind_change : (["table", "ring", "one", "other", "distance", "found", "row"] : List Str).Nodup := by decide +kernel
include T in
theorem g_behind_change : Fn PRG w K mg base 4 "behind_change" (pu (sp e_behind_change p_behind_change o_behind_change)) := by
  refine fn_sp (N := ["table", "ring", "one", "other", "distance", "found", "row"]) (ps := ["table", "ring", "one", "other", "distance"]) T.m_behind_change T.fd_behind_change ⟨rfl, rfl, rfl, nd_behind_change, rfl, by decide +kernel, by decide +kernel⟩
    (fun _ _ _ _ _ _ us hl => match us, hl with | [_, _, _, _, _], _ => rfl) (fun _ => rfl) (fun cdv A outer s H E O a hr h => ?_)
  have nd := nd_behind_change
  obtain ⟨t, r, x, y, d⟩ := a
  obtain ⟨h0, h1, h2, h3, h4⟩ := h
  have h1' : 0 ≤ x ∧ x < t.length := h1
  have h2' : 0 ≤ y ∧ y < t.length := h2
  have h3' : x ≠ y := h3
  have h4' : 0 ≤ d ∧ d ≤ 1000000000000000000000000000000 := h4
  have h30 : t.length ≤ 30 := h0.hi
  refine wps_do (ev_sp (t.length, x, y) ((g_require_pair T).mono (by decide)) hr (ea_cons (ev_lenTb T.b_len (ev_var 0)) (ea_cons (ev_var 2) (ea_cons (ev_var 3) ea_nil))) ⟨h1, h2, h3⟩) ?_
  refine wps_guard (et_not (et_val (ev_sp (d, 0, 1000000000000000000000000000000) ((g_is_between T).mono (by decide)) hr (ea_cons (ev_var 4) (ea_cons ev_int (ea_cons (ev_gint T.i_MOST_DISTANCE) ea_nil))) trivial))) (by show (!(decide ((0 : Int) ≤ d) && decide (d ≤ 1000000000000000000000000000000))) = false; simp; omega) ?_
  refine wps_lcE (own := [("row", 6)]) 5 (fun k O' acc => ∃ ps, acc = ps.map iP ∧ Mu O O' ps (t.take k)) rfl nd (blkOk_by (own := [("row", 6)]) (by rfl)) (itr_listTb (ev_var 0)) (sz_le (show t.length ≤ _ by omega)) ⟨[], rfl, Mu.nil⟩ (fun _ _ _ _ _ => trivial)
    (fun k z O' acc hz hI => ⟨_, fun _ _ _ _ _ => eg_name 6 nd, fun _ _ _ _ _ => ew_listLP T.b_list (ev_var 6) fun p hp => ?_⟩) (fun O' acc hI => ?_)
  · obtain ⟨ps, rfl, m⟩ := hI
    refine ⟨ps ++ [p], by rw [List.map_append]; rfl, ?_⟩
    rw [take_snoc hz]
    have := m.new (r := z) hp
    rw [List.map_map]
    exact this
  · obtain ⟨ps, rfl, m⟩ := hI
    rw [show (t, r, x, y, d).fst.length = t.length from rfl, List.take_length] at m
    refine ⟨_, as_self, ?_⟩
    have hpl : ps.length = t.length := m.len
    obtain ⟨q, hq, hc⟩ := m.at (atR_nat h1')
    refine wps_sub (ev_var 4) (ev_ixl (ev_var 5) (ev_var 2) (ptr_at (by rw [hpl]; exact h1') hq)) (ev_var 3) hc (ixN_nat (by rw [List.length_map, h0.rlen (show InB t.length x by constructor <;> omega)]; exact h2')) ?_
    rw [set_im]
    have m2 : Mu O _ ps (setE t x y d) := m.set hq
    obtain ⟨q2, hq2, hc2⟩ := m2.at (atR_nat (by rw [setE_len]; exact h2'))
    refine wps_sub (ev_var 4) (ev_ixl (ev_var 5) (ev_var 3) (ptr_at (by rw [hpl]; exact h2') hq2)) (ev_var 2) hc2 (ixN_nat (by rw [List.length_map, atR_setE h2' h1', if_neg (Ne.symm h3'), h0.rlen (show InB t.length y by constructor <;> omega)]; exact h1')) ?_
    rw [set_im]
    have m3 : Mu O _ ps (setT t x y d) := m2.set hq2
    refine wps_mu m3 5 rfl ?_
    exact wps_ret (ev_tup (ed_cons (ev_var 5) (ed_cons (ev_var 1) ed_nil)) (sz_le (by simp))) ⟨rfl, rfl⟩
def e_behind_add : List (List Int) × List Int × List Int × Int → List Im := fun a => [.d (Tb a.1), .d (L a.2.1), .d (L a.2.2.1), iI a.2.2.2]
def p_behind_add : List (List Int) × List Int × List Int × Int → Prop := fun a => Tab a.1 ∧ Rg a.1.length a.2.1 ∧ okCh a.1 a.2.1 (.add a.2.2.1 a.2.2.2)
def o_behind_add : List (List Int) × List Int × List Int × Int → Im := fun a => iT [Tb (grownT a.1 a.2.2.1), L (addR a.2.1 a.1.length a.2.2.2)]
theorem nd_behind_add : (["table", "ring", "row", "index"] : List Str).Nodup := by decide +kernel
include T in
theorem g_behind_add : Fn PRG w K mg base 4 "behind_add" (pu (sp e_behind_add p_behind_add o_behind_add)) := by
  refine fn_sp (N := ["table", "ring", "row", "index"]) (ps := ["table", "ring", "row", "index"]) T.m_behind_add T.fd_behind_add ⟨rfl, rfl, rfl, nd_behind_add, rfl, by decide +kernel, by decide +kernel⟩
    (fun _ _ _ _ _ _ us hl => match us, hl with | [_, _, _, _], _ => rfl) (fun _ => rfl) (fun cdv A outer s H E O a hr h => ?_)
  have nd := nd_behind_add
  obtain ⟨t, r, row, i⟩ := a
  obtain ⟨h0, hR, h1, h2, h3⟩ := h
  have h2' : 0 ≤ i ∧ i < r.length := h2
  have h30 : t.length ≤ 30 := h0.hi
  have hrl : r.length = t.length := hR.len
  have hl : row.length = t.length := rowB_len h1
  refine wps_do (ev_sp ((t.length : Int), row) (g_require_row T) hr (ea_cons (ev_lenTb T.b_len (ev_var 0)) (ea_cons (ev_var 2) ea_nil)) ⟨show row.length ≤ 1000 by omega, h1⟩) ?_
  refine wps_guard (et_not (et_val (ev_sp (i, 0, (r.length : Int) - 1) ((g_is_between T).mono (by decide)) hr (ea_cons (ev_var 3) (ea_cons ev_int (ea_cons (ev_sub (ev_lenL T.b_len (ev_var 1)) ev_int) ea_nil))) trivial))) (by show (!(decide ((0 : Int) ≤ i) && decide (i ≤ (r.length : Int) - 1))) = false; simp; omega) ?_
  refine wps_do (ev_sp t ((g_require_room T).mono (by decide)) hr (ea_cons (ev_var 0) ea_nil) h3) ?_
  have c1 := cutA_len r none (some (i + 1))
  have c2 := cutA_len r (some (i + 1)) none
  refine wps_ret (ev_tup (ed_cons (ev_sp (t, row) ((g_grown_table T).mono (by decide)) hr (ea_cons (ev_var 0) (ea_cons (ev_var 2) ea_nil)) ⟨show t.length ≤ 1000 by omega, show row.length ≤ 1000 by omega, h0.small.2⟩) (ed_cons (ev_listI (ei_star (ev_slL (ev_var 1) po_n (po_s (ev_add (ev_var 3) ev_int))) (ei_cons (ev_lenTb T.b_len (ev_var 0)) (ei_star (ev_slL (ev_var 1) (po_s (ev_add (ev_var 3) ev_int)) po_n) ei_nil))) ?_) ed_nil)) (sz_le (by simp))) ⟨?_, rfl⟩
  · simp only [List.length_append, List.length_cons, List.length_nil]
    exact sz_le (by show (cutA r none (some (i + 1))).length + ((cutA r (some (i + 1)) none).length + 0 + 1) ≤ _; omega)
  · show iT _ = iT _
    unfold addR
    rw [List.append_nil]
def e_behind_drop : List (List Int) × List Int × Int → List Im := fun a => [.d (Tb a.1), .d (L a.2.1), iI a.2.2]
def p_behind_drop : List (List Int) × List Int × Int → Prop := fun a => Tab a.1 ∧ Rg a.1.length a.2.1 ∧ okCh a.1 a.2.1 (.drop a.2.2)
def o_behind_drop : List (List Int) × List Int × Int → Im := fun a => iT [Tb (restT a.1 (leftOf a.1.length a.2.2)), L (withoutL a.2.1 a.2.2)]
theorem nd_behind_drop : (["table", "ring", "place", "left", "one"] : List Str).Nodup := by decide +kernel
include T in
theorem g_behind_drop : Fn PRG w K mg base 3 "behind_drop" (pu (sp e_behind_drop p_behind_drop o_behind_drop)) := by
  refine fn_sp (N := ["table", "ring", "place", "left", "one"]) (ps := ["table", "ring", "place"]) T.m_behind_drop T.fd_behind_drop ⟨rfl, rfl, rfl, nd_behind_drop, rfl, by decide +kernel, by decide +kernel⟩
    (fun _ _ _ _ _ _ us hl => match us, hl with | [_, _, _], _ => rfl) (fun _ => rfl) (fun cdv A outer s H E O a hr h => ?_)
  have nd := nd_behind_drop
  obtain ⟨t, r, p⟩ := a
  obtain ⟨h0, hR, h1, h2⟩ := h
  have h1' : 0 ≤ p ∧ p < t.length := h1
  have h2' : t.length ≠ 1 := h2
  have h30 : t.length ≤ 30 := h0.hi
  have hrl : r.length = t.length := hR.len
  refine wps_do (ev_sp (t.length, p) (g_require_place T) hr (ea_cons (ev_lenTb T.b_len (ev_var 0)) (ea_cons (ev_var 2) ea_nil)) h1) ?_
  refine wps_guard (tw_cmp (ec_eqI (ev_lenTb T.b_len (ev_var 0)) ev_int)) (decide_eq_false (show ¬ (((t.length : Nat) : Int) = 1) by omega)) ?_
  refine wps_cons (wp_setLcF (own := [("one", 4)]) 3 (fun x => !decide (x = p)) (fun x => .int x) rfl nd (sw_true rfl rfl rfl (by rfl)) (blkOk_by (own := [("one", 4)]) (by rfl)) (itr_range1 T.b_range (ev_lenTb T.b_len (ev_var 0)) (show -(2 ^ 62) ≤ ((t.length : Nat) : Int) ∧ ((t.length : Nat) : Int) < 2 ^ 62 by omega)) (by rw [rangeI_len]; exact sz_le (show ((t.length : Nat) - (0 : Int)).toNat ≤ 100000 by omega)) (fun z hz => ⟨_, fun _ _ _ _ _ => eg_name 4 nd, fun _ _ _ _ _ => iw_one (tw_cmp (ec_neI (ev_var 4) (ev_var 2))), fun _ _ _ _ _ _ => ev_var 4⟩) ?_)
  show Wps _ _ _ _ _
  have e : (((rangeI 0 ((t, r, p).fst.length : Nat)).filter fun x => !decide (x = p)).map fun x => PyData.int x) = (leftOf t.length p).map .int := rfl
  rw [e]
  exact wps_ret (ev_tup (ed_cons (ev_sp (t, leftOf t.length p) ((g_table_of_rest T).mono (by decide)) hr (ea_cons (ev_var 0) (ea_cons (ev_var 3) ea_nil)) ⟨h0, left_pl _ _, show (leftOf t.length p).length ≤ 1000 by have := left_len t.length p; omega⟩) (ed_cons (ev_sp (r, p) ((g_without T).mono (by decide)) hr (ea_cons (ev_var 1) (ea_cons (ev_var 2) ea_nil)) (show r.length ≤ 1000 by omega)) ed_nil)) (sz_le (by simp))) ⟨rfl, rfl⟩
def e_behind_turn : List (List Int) × List Int × List Int → List Im := fun a => [.d (Tb a.1), .d (L a.2.1), .d (L a.2.2)]
def p_behind_turn : List (List Int) × List Int × List Int → Prop := fun a => Tab a.1 ∧ okCh a.1 a.2.1 (.turn a.2.2)
def o_behind_turn : List (List Int) × List Int × List Int → Im := fun a => iT [Tb a.1, L a.2.2]
theorem nd_behind_turn : (["table", "ring", "other_ring"] : List Str).Nodup := by decide +kernel
include T in
theorem g_behind_turn : Fn PRG w K mg base 5 "behind_turn" (pu (sp e_behind_turn p_behind_turn o_behind_turn)) := by
  refine fn_sp (N := ["table", "ring", "other_ring"]) (ps := ["table", "ring", "other_ring"]) T.m_behind_turn T.fd_behind_turn ⟨rfl, rfl, rfl, nd_behind_turn, rfl, by decide +kernel, by decide +kernel⟩
    (fun _ _ _ _ _ _ us hl => match us, hl with | [_, _, _], _ => rfl) (fun _ => rfl) (fun cdv A outer s H E O a hr h => ?_)
  have nd := nd_behind_turn
  obtain ⟨t, r, q⟩ := a
  obtain ⟨h0, h1⟩ := h
  refine wps_do (ev_sp (true, t.length, q) (g_require_ring T) hr (ea_cons (ev_lenTb T.b_len (ev_var 0)) (ea_cons (ev_var 2) ea_nil)) ⟨h0.lo, h0.hi, h1⟩) ?_
  exact wps_ret (ev_tup (ed_cons (ev_var 0) (ed_cons (ev_listL T.b_list (ev_var 2)) ed_nil)) (sz_le (by simp))) ⟨rfl, rfl⟩
end
end D81


/-! M1: tables and rings behind a change -/
namespace D81
open PySem PySem.Spec PyProof.Rows L2 AL
/-- the table of n places with these distances -/
def mkT (n : Nat) (e : Nat → Nat → Int) : List (List Int) := (List.range n).map fun i => (List.range n).map fun j => e i j
theorem mkT_len (n : Nat) (e : Nat → Nat → Int) : (mkT n e).length = n := by unfold mkT; simp
theorem mkT_congr {n : Nat} {e f : Nat → Nat → Int} (h : ∀ i j, i < n → j < n → e i j = f i j) : mkT n e = mkT n f := by
  unfold mkT
  refine List.map_congr_left fun i hi => List.map_congr_left fun j hj => h i j (List.mem_range.mp hi) (List.mem_range.mp hj)
theorem atL_nat {r : List Int} {j : Nat} {x : Int} (h : r[j]? = some x) : atL r (j : Int) = x := by
  obtain ⟨h1, h2⟩ := List.getElem?_eq_some_iff.mp h
  unfold atL
  rw [atI_nat' ⟨by omega, by omega⟩]
  simp [h]
theorem get_of {α : Type} {xs : List α} {i : Nat} (h : i < xs.length) : ∃ x, xs[i]? = some x := ⟨xs[i], by simp [h]⟩
theorem mkT_row {n : Nat} {e : Nat → Nat → Int} {i : Nat} (hi : i < n) : atR (mkT n e) (i : Int) = (List.range n).map fun j => e i j := by
  refine tab_at ?_
  unfold mkT
  rw [List.getElem?_map, List.getElem?_range hi]; rfl
theorem mkT_ent {n : Nat} {e : Nat → Nat → Int} {i j : Nat} (hi : i < n) (hj : j < n) : ent (mkT n e) (i : Int) (j : Int) = e i j := by
  unfold ent
  rw [mkT_row hi]
  refine atL_nat ?_
  rw [List.getElem?_map, List.getElem?_range hj]; rfl
def Sq (n : Nat) (t : List (List Int)) : Prop := t.length = n ∧ ∀ r ∈ t, r.length = n
theorem Sq.mk {n : Nat} {t : List (List Int)} (h : Sq n t) : t = mkT n fun i j => ent t i j := by
  obtain ⟨h1, h2⟩ := h
  apply List.ext_getElem?
  intro i
  by_cases hi : i < n
  · obtain ⟨r, hg⟩ := get_of (show i < t.length by omega)
    have hr : r.length = n := h2 _ (List.mem_of_getElem? hg)
    have e1 : (mkT n fun i j => ent t i j)[i]? = some ((List.range n).map fun j : Nat => ent t (i : Int) (j : Int)) := by
      unfold mkT
      rw [List.getElem?_map, List.getElem?_range hi]; rfl
    rw [hg, e1]
    congr 1
    apply List.ext_getElem?
    intro j
    by_cases hj : j < n
    · obtain ⟨x, hx⟩ := get_of (show j < r.length by omega)
      rw [hx, List.getElem?_map, List.getElem?_range hj]
      show some _ = some (ent t i j)
      unfold ent
      rw [tab_at hg, atL_nat hx]
    · rw [List.getElem?_eq_none (by omega), List.getElem?_eq_none (by simp; omega)]
  · rw [List.getElem?_eq_none (by omega), List.getElem?_eq_none (by rw [mkT_len]; omega)]
theorem mkT_sq (n : Nat) (e : Nat → Nat → Int) : Sq n (mkT n e) := by
  refine ⟨mkT_len n e, fun r hr => ?_⟩
  unfold mkT at hr
  obtain ⟨i, _, rfl⟩ := List.mem_map.mp hr
  simp
theorem _root_.AL.Tab.sq {t : List (List Int)} (h : Tab t) : Sq t.length t := ⟨rfl, fun r hr => (h.row r hr).1⟩
theorem mkT_tab {n : Nat} {e : Nat → Nat → Int} (h1 : 1 ≤ n) (h2 : n ≤ 30) (hr : ∀ i j, i < n → j < n → 0 ≤ e i j ∧ e i j ≤ 1000000000000000000000000000000) (hd : ∀ i, i < n → e i i = 0) (hs : ∀ i j, i < n → j < n → e i j = e j i) : Tab (mkT n e) := by
  refine ⟨by rw [mkT_len]; exact h1, by rw [mkT_len]; exact h2, fun r hm => ?_, fun i hi => ?_, fun i j hi hj => ?_⟩
  · unfold mkT at hm
    obtain ⟨i, hi, rfl⟩ := List.mem_map.mp hm
    rw [mkT_len]
    refine ⟨by simp, fun x hx => ?_⟩
    obtain ⟨j, hj, rfl⟩ := List.mem_map.mp hx
    exact hr i j (List.mem_range.mp hi) (List.mem_range.mp hj)
  · rw [mkT_len] at hi
    rw [mkT_ent hi hi]; exact hd i hi
  · rw [mkT_len] at hi hj
    rw [mkT_ent hi hj, mkT_ent hj hi]; exact hs i j hi hj
theorem _root_.AL.Tab.ent_in {t : List (List Int)} (h : Tab t) {i j : Nat} (hi : i < t.length) (hj : j < t.length) : 0 ≤ ent t i j ∧ ent t i j ≤ 1000000000000000000000000000000 := by
  have hb : InB t.length (i : Int) := by constructor <;> omega
  obtain ⟨h1, h2⟩ := h.row _ (atR_mem hb)
  exact h2 _ (atL_mem (by rw [h1]; constructor <;> omega))
/-- a distance set -/
theorem ent_setE {t : List (List Int)} {n : Nat} {a b d : Int} (h : Sq n t) (ha : 0 ≤ a ∧ a < n) (hb : 0 ≤ b ∧ b < n) {i j : Nat} (hi : i < n) (hj : j < n) : ent (setE t a b d) i j = if (i : Int) = a ∧ (j : Int) = b then d else ent t i j := by
  unfold ent
  rw [atR_setE ⟨by omega, by rw [h.1]; omega⟩ (by rw [h.1]; exact ha)]
  have hra : (atR t a).length = n := h.2 _ (atR_mem (by rw [h.1]; constructor <;> omega))
  by_cases h1 : (i : Int) = a
  · rw [if_pos h1]
    by_cases h2 : (j : Int) = b
    · rw [if_pos ⟨h1, h2⟩]
      refine atL_nat ?_
      rw [show b.toNat = j by omega, List.getElem?_set_self (by omega)]
    · rw [if_neg fun z => h2 z.2]
      obtain ⟨x, hx⟩ := get_of (show j < (atR t a).length by omega)
      rw [atL_nat (x := x) (by rw [List.getElem?_set_ne (by omega)]; exact hx), h1, atL_nat hx]
  · rw [if_neg h1, if_neg fun z => h1 z.1]
theorem setE_sq {t : List (List Int)} {n : Nat} {a b d : Int} (h : Sq n t) (ha : 0 ≤ a ∧ a < n) : Sq n (setE t a b d) := by
  refine ⟨by rw [setE_len]; exact h.1, fun r hr => ?_⟩
  unfold setE at hr
  rcases List.mem_or_eq_of_mem_set hr with hr | hr
  · exact h.2 r hr
  · rw [hr, List.length_set]
    exact h.2 _ (atR_mem (by rw [h.1]; constructor <;> omega))
def setF (e : Nat → Nat → Int) (a b d : Int) : Nat → Nat → Int := fun i j => if ((i : Int) = a ∧ (j : Int) = b) ∨ ((i : Int) = b ∧ (j : Int) = a) then d else e i j
theorem setT_mk {t : List (List Int)} {n : Nat} {a b d : Int} (h : Sq n t) (ha : 0 ≤ a ∧ a < n) (hb : 0 ≤ b ∧ b < n) : setT t a b d = mkT n (setF (fun i j => ent t i j) a b d) := by
  have h1 := setE_sq (b := b) (d := d) h ha
  have h2 : Sq n (setT t a b d) := setE_sq h1 hb
  rw [h2.mk]
  refine mkT_congr fun i j hi hj => ?_
  show ent (setE (setE t a b d) b a d) i j = _
  rw [ent_setE h1 hb ha hi hj, ent_setE h ha hb hi hj]
  unfold setF
  by_cases c1 : (i : Int) = b ∧ (j : Int) = a
  · rw [if_pos c1, if_pos (.inr c1)]
  · rw [if_neg c1]
    by_cases c2 : (i : Int) = a ∧ (j : Int) = b
    · rw [if_pos c2, if_pos (.inl c2)]
    · rw [if_neg c2, if_neg (fun z => z.elim c2 c1)]
theorem tab_setT {t : List (List Int)} {a b d : Int} (h : Tab t) (ha : 0 ≤ a ∧ a < t.length) (hb : 0 ≤ b ∧ b < t.length) (hab : a ≠ b) (hd : 0 ≤ d ∧ d ≤ 1000000000000000000000000000000) : Tab (setT t a b d) := by
  rw [setT_mk h.sq ha hb]
  refine mkT_tab h.lo h.hi (fun i j hi hj => ?_) (fun i hi => ?_) (fun i j hi hj => ?_)
  · unfold setF
    split
    · exact hd
    · exact h.ent_in hi hj
  · unfold setF
    rw [if_neg (by omega)]
    exact h.dg i hi
  · unfold setF
    by_cases c : ((i : Int) = a ∧ (j : Int) = b) ∨ ((i : Int) = b ∧ (j : Int) = a)
    · rw [if_pos c, if_pos (by omega)]
    · rw [if_neg c, if_neg (by omega)]
      exact h.sy i j hi hj
theorem setT_len {t : List (List Int)} {a b d : Int} : (setT t a b d).length = t.length := by unfold setT; rw [setE_len, setE_len]
/-- a place more -/
def growF (e : Nat → Nat → Int) (row : List Int) (n : Nat) : Nat → Nat → Int := fun i j => if i < n ∧ j < n then e i j else if i = n ∧ j = n then 0 else if i < n then row.getD i 0 else row.getD j 0
theorem grownT_mk {t : List (List Int)} {n : Nat} {row : List Int} (h : Sq n t) (hr : row.length = n) : grownT t row = mkT (n + 1) (growF (fun i j => ent t i j) row n) := by
  have hz : ((t.zip row).map fun p => p.1 ++ [p.2]).length = n := by rw [List.length_map, List.length_zip, h.1, hr]; simp
  have hs : Sq (n + 1) (grownT t row) := by
    refine ⟨by unfold grownT; rw [List.length_append, hz]; rfl, fun r hm => ?_⟩
    unfold grownT at hm
    rcases List.mem_append.mp hm with hm | hm
    · obtain ⟨p, hp, rfl⟩ := List.mem_map.mp hm
      rw [List.length_append, h.2 _ (List.of_mem_zip hp).1]; rfl
    · rw [List.mem_singleton.mp hm, List.length_append, hr]; rfl
  rw [hs.mk]
  refine mkT_congr fun i j hi hj => ?_
  unfold ent growF
  by_cases h1 : i < n
  · obtain ⟨ti, ht⟩ := get_of (show i < t.length by rw [h.1]; exact h1)
    obtain ⟨wi, hw⟩ := get_of (show i < row.length by rw [hr]; exact h1)
    have hg : (grownT t row)[i]? = some (ti ++ [wi]) := by
      unfold grownT
      rw [List.getElem?_append_left (by rw [hz]; exact h1), List.getElem?_map, (List.getElem?_zip_eq_some (z := (ti, wi))).mpr ⟨ht, hw⟩]
      rfl
    have hl : ti.length = n := h.2 _ (List.mem_of_getElem? ht)
    rw [tab_at hg]
    by_cases h2 : j < n
    · rw [if_pos ⟨h1, h2⟩]
      show _ = atL (atR t (i : Int)) (j : Int)
      rw [tab_at ht]
      obtain ⟨x, hx⟩ := get_of (show j < ti.length by omega)
      rw [atL_nat hx]
      exact atL_nat (by rw [List.getElem?_append_left (by omega)]; exact hx)
    · have : j = n := by omega
      subst this
      rw [if_neg (fun z => h2 z.2), if_neg (by omega), if_pos h1]
      refine atL_nat ?_
      rw [List.getElem?_append_right (by omega), hl, List.getD_eq_getElem?_getD, hw]
      simp
  · have : i = n := by omega
    subst this
    have hg : (grownT t row)[i]? = some (row ++ [0]) := by
      unfold grownT
      rw [List.getElem?_append_right (by rw [hz]; exact Nat.le_refl _), hz]
      simp
    rw [tab_at hg, if_neg (fun z => h1 z.1)]
    by_cases h2 : j < i
    · rw [if_neg (by omega), if_neg h1]
      obtain ⟨x, hw⟩ := get_of (show j < row.length by omega)
      refine atL_nat ?_
      rw [List.getElem?_append_left (by omega), List.getD_eq_getElem?_getD, hw]
      rfl
    · have : j = i := by omega
      subst this
      rw [if_pos ⟨rfl, rfl⟩]
      refine atL_nat ?_
      rw [List.getElem?_append_right (by omega), hr]
      simp
theorem rowB_in {n : Nat} {row : List Int} (h : rowB n row = true) : ∀ i, 0 ≤ row.getD i 0 ∧ row.getD i 0 ≤ 1000000000000000000000000000000 := by
  unfold rowB at h
  have h2 := (ba h).2
  intro i
  rw [List.getD_eq_getElem?_getD]
  cases e : row[i]? with
  | none => simp
  | some x =>
    have := List.all_eq_true.mp h2 x (List.mem_of_getElem? e)
    obtain ⟨h3, h4⟩ := ba this
    exact ⟨of_decide_eq_true h3, of_decide_eq_true h4⟩
theorem tab_grown {t : List (List Int)} {row : List Int} (h : Tab t) (hr : rowB t.length row = true) (hn : t.length ≠ 30) : Tab (grownT t row) := by
  have h30 := h.hi
  rw [grownT_mk h.sq (rowB_len hr)]
  refine mkT_tab (by omega) (by omega) (fun i j hi hj => ?_) (fun i hi => ?_) (fun i j hi hj => ?_)
  · unfold growF
    split
    · rename_i c; exact h.ent_in c.1 c.2
    · split
      · decide
      · split
        · exact rowB_in hr i
        · exact rowB_in hr j
  · unfold growF
    split
    · rename_i c; exact h.dg i c.1
    · rw [if_pos (by omega)]
  · unfold growF
    by_cases c : i < t.length
    · by_cases c2 : j < t.length
      · rw [if_pos ⟨c, c2⟩, if_pos ⟨c2, c⟩]; exact h.sy i j c c2
      · have e : ¬ i = t.length := by omega
        simp [c, c2, e]
    · by_cases c2 : j < t.length
      · have e : ¬ j = t.length := by omega
        simp [c, c2, e]
      · have e1 : i = t.length := by omega
        have e2 : j = t.length := by omega
        simp [e1, e2]
/-- the rest -/
theorem restT_mk (t : List (List Int)) (ps : List Int) : restT t ps = mkT ps.length fun i j => ent t (ps.getD i 0) (ps.getD j 0) := by
  unfold restT mkT
  apply List.ext_getElem?
  intro i
  by_cases hi : i < ps.length
  · rw [List.getElem?_map, List.getElem?_map, List.getElem?_range hi]
    obtain ⟨x, hx⟩ := get_of hi
    rw [hx]
    show some _ = some _
    congr 1
    apply List.ext_getElem?
    intro j
    by_cases hj : j < ps.length
    · rw [List.getElem?_map, List.getElem?_map, List.getElem?_range hj]
      obtain ⟨y, hy⟩ := get_of hj
      rw [hy]
      simp [List.getD_eq_getElem?_getD, hx, hy]
    · rw [List.getElem?_eq_none (by simp; omega), List.getElem?_eq_none (by simp; omega)]
  · rw [List.getElem?_eq_none (by simp; omega), List.getElem?_eq_none (by simp; omega)]
/-- the i-th of the places but p -/
def skipI (p i : Nat) : Nat := if i < p then i else i + 1
theorem left_mk {n p : Nat} (h : p < n) : leftOf n (p : Int) = (List.range (n - 1)).map fun i => ((skipI p i : Nat) : Int) := by
  unfold leftOf rangeI
  have e1 : ((n : Int) - 0).toNat = n := by omega
  rw [e1]
  have e2 : List.range n = List.range p ++ p :: (List.range (n - 1 - p)).map fun i => p + 1 + i := by
    have a1 : n = p + (n - p) := by omega
    conv => lhs; rw [a1, List.range_add]
    congr 1
    have a2 : n - p = (n - 1 - p) + 1 := by omega
    rw [a2, List.range_succ_eq_map, List.map_cons, List.map_map]
    congr 1
    refine List.map_congr_left fun i _ => ?_
    show p + (i + 1) = p + 1 + i
    omega
  have e3 : List.range (n - 1) = List.range p ++ (List.range (n - 1 - p)).map fun i => p + i := by
    have a1 : n - 1 = p + (n - 1 - p) := by omega
    conv => lhs; rw [a1, List.range_add]
  rw [e2, e3, List.map_append, List.filter_append, List.map_cons, List.filter_cons, List.map_append, List.map_map, List.map_map]
  rw [if_neg (by simp)]
  congr 1
  · rw [List.filter_eq_self.mpr]
    · refine List.map_congr_left fun i hi => ?_
      have := List.mem_range.mp hi
      unfold skipI
      rw [if_pos this]; omega
    · intro x hx
      obtain ⟨i, hi, rfl⟩ := List.mem_map.mp hx
      have := List.mem_range.mp hi
      simp; omega
  · rw [List.filter_eq_self.mpr]
    · refine List.map_congr_left fun i hi => ?_
      show (0 : Int) + ((p + 1 + i : Nat) : Int) = ((skipI p (p + i) : Nat) : Int)
      unfold skipI
      rw [if_neg (by omega)]; omega
    · intro x hx
      obtain ⟨i, hi, rfl⟩ := List.mem_map.mp hx
      simp; omega
def dropF (e : Nat → Nat → Int) (p : Nat) : Nat → Nat → Int := fun i j => e (skipI p i) (skipI p j)
theorem dropT_mk {t : List (List Int)} {n p : Nat} (hp : p < n) : restT t (leftOf n (p : Int)) = mkT (n - 1) (dropF (fun i j => ent t i j) p) := by
  rw [restT_mk, left_mk hp]
  have hl : ((List.range (n - 1)).map fun i => ((skipI p i : Nat) : Int)).length = n - 1 := by simp
  rw [hl]
  refine mkT_congr fun i j hi hj => ?_
  have g : ∀ i, i < n - 1 → ((List.range (n - 1)).map fun i => ((skipI p i : Nat) : Int)).getD i 0 = ((skipI p i : Nat) : Int) := fun i hi => by
    rw [List.getD_eq_getElem?_getD, List.getElem?_map, List.getElem?_range hi]; rfl
  rw [g i hi, g j hj]
  rfl
theorem tab_drop {t : List (List Int)} {p : Int} (h : Tab t) (hp : 0 ≤ p ∧ p < t.length) (hn : t.length ≠ 1) : Tab (restT t (leftOf t.length p)) := by
  have h30 := h.hi
  have hlo := h.lo
  have e : p = ((p.toNat : Nat) : Int) := by omega
  rw [e, dropT_mk (by omega)]
  have sk : ∀ i, i < t.length - 1 → skipI p.toNat i < t.length := fun i hi => by unfold skipI; split <;> omega
  refine mkT_tab (by omega) (by omega) (fun i j hi hj => h.ent_in (sk i hi) (sk j hj)) (fun i hi => h.dg _ (sk i hi)) (fun i j hi hj => h.sy _ _ (sk i hi) (sk j hj))
/-! ### rings -/
theorem cut_to {α : Type} {xs : List α} {v : Int} (h : 0 ≤ v ∧ v ≤ xs.length) : cutA xs none (some v) = xs.take v.toNat := by
  unfold cutA
  have e0 : HT.sIx xs.length 0 none = 0 := rfl
  have e1 : HT.sIx xs.length xs.length (some v) = v.toNat := by
    show (if v < 0 then (v + (xs.length : Int)).toNat else min v.toNat xs.length) = v.toNat
    rw [if_neg (by omega)]
    omega
  rw [e0, e1]
  simp
theorem cut_from {α : Type} {xs : List α} {v : Int} (h : 0 ≤ v ∧ v ≤ xs.length) : cutA xs (some v) none = xs.drop v.toNat := by
  unfold cutA
  have e0 : HT.sIx xs.length xs.length none = xs.length := rfl
  have e1 : HT.sIx xs.length 0 (some v) = v.toNat := by
    show (if v < 0 then (v + (xs.length : Int)).toNat else min v.toNat xs.length) = v.toNat
    rw [if_neg (by omega)]
    omega
  rw [e0, e1]
  rw [List.take_of_length_le (by rw [List.length_drop]; omega)]
theorem without_pl {n : Nat} {r : List Int} {p : Int} (h : Rg n r) (hp : 0 ≤ p ∧ p < n) : Pl (n - 1) (withoutL r p) ∧ (withoutL r p).Nodup := by
  constructor
  · intro x hx
    obtain ⟨y, hy, rfl⟩ := List.mem_map.mp hx
    obtain ⟨h1, h2⟩ := List.mem_filter.mp hy
    have := h.pl y h1
    have h3 : y ≠ p := by simpa using h2
    by_cases c : p < y
    · simp only [c, decide_true, if_true]; omega
    · simp only [c, decide_false, Bool.false_eq_true, if_false]; omega
  · unfold withoutL
    refine List.pairwise_map.mpr (List.Pairwise.imp_of_mem (fun {a b} ha hb hab => ?_) (h.nd.filter _))
    obtain ⟨_, a2⟩ := List.mem_filter.mp ha
    obtain ⟨_, b2⟩ := List.mem_filter.mp hb
    have a3 : a ≠ p := by simpa using a2
    have b3 : b ≠ p := by simpa using b2
    by_cases c : p < a <;> by_cases c2 : p < b <;> simp [c, c2] <;> omega
theorem rg_without {n : Nat} {r : List Int} {p : Int} (h : Rg n r) (hp : 0 ≤ p ∧ p < n) : Rg (n - 1) (withoutL r p) := by
  obtain ⟨h1, h2⟩ := without_pl h hp
  refine ⟨?_, h1, h2⟩
  have l1 := pl_len h1 h2
  have l2 : (withoutL r p).length = r.countP fun x => !decide (x = p) := by unfold withoutL; rw [List.length_map, List.countP_eq_length_filter]
  have l3 := List.length_eq_countP_add_countP (l := r) (fun x => !decide (x = p))
  have l4 : (r.countP fun a => ¬ (!decide (a = p)) = true) ≤ 1 := by
    have := List.nodup_iff_count.mp h.nd p
    rw [List.count_eq_countP] at this
    refine Nat.le_trans (Nat.le_of_eq ?_) this
    refine List.countP_congr fun x _ => ?_
    simp
  have l5 := h.len
  omega
theorem addR_eq {r : List Int} {n i : Int} (hi : 0 ≤ i ∧ i < r.length) : addR r n i = r.take (i.toNat + 1) ++ n :: r.drop (i.toNat + 1) := by
  unfold addR
  rw [cut_to (by omega), cut_from (by omega), show (i + 1).toNat = i.toNat + 1 by omega]
theorem rg_add {n : Nat} {r : List Int} {i : Int} (h : Rg n r) (hi : 0 ≤ i ∧ i < r.length) : Rg (n + 1) (addR r n i) := by
  rw [addR_eq hi]
  have pm : (r.take (i.toNat + 1) ++ (n : Int) :: r.drop (i.toNat + 1)).Perm ((n : Int) :: r) := by
    have := List.perm_middle (a := (n : Int)) (l₁ := r.take (i.toNat + 1)) (l₂ := r.drop (i.toNat + 1))
    rwa [List.take_append_drop] at this
  refine ⟨by rw [pm.length_eq, List.length_cons, h.len], fun x hx => ?_, ?_⟩
  · rcases List.mem_cons.mp (pm.mem_iff.mp hx) with rfl | hx
    · omega
    · have := h.pl x hx; omega
  · rw [pm.nodup_iff, List.nodup_cons]
    exact ⟨fun hm => by have := h.pl _ hm; omega, h.nd⟩
theorem go_ok {t : List (List Int)} {r : List Int} {c : Ch} (h0 : Tab t) (h1 : Rg t.length r) (h2 : okCh t r c) : Tab (goCh t r c).1 ∧ Rg (goCh t r c).1.length (goCh t r c).2 := by
  cases c with
  | change a b d =>
    obtain ⟨ha, hb, hab, hd⟩ := h2
    exact ⟨tab_setT h0 ha hb hab hd, by show Rg (setT t a b d).length r; rw [setT_len]; exact h1⟩
  | add row i =>
    obtain ⟨hr, hi, hn⟩ := h2
    refine ⟨tab_grown h0 hr hn, ?_⟩
    show Rg (grownT t row).length (addR r t.length i)
    rw [grownT_mk h0.sq (rowB_len hr), mkT_len]
    exact rg_add h1 hi
  | drop p =>
    obtain ⟨hp, hn⟩ := h2
    refine ⟨tab_drop h0 hp hn, ?_⟩
    show Rg (restT t (leftOf t.length p)).length (withoutL r p)
    have e : p = ((p.toNat : Nat) : Int) := by omega
    rw [e, dropT_mk (by omega), mkT_len, ← e]
    exact rg_without h1 hp
  | turn q => exact ⟨h0, h2⟩
theorem len_bound {t : List (List Int)} {r : List Int} (h0 : Tab t) (h1 : Pl t.length r) : 0 ≤ lenOf t r ∧ lenOf t r ≤ r.length * 1000000000000000000000000000000 := by
  have key : ∀ (xs : List Int), (∀ x ∈ xs, 0 ≤ x ∧ x ≤ 1000000000000000000000000000000) → 0 ≤ xs.sum ∧ xs.sum ≤ xs.length * 1000000000000000000000000000000 := by
    intro xs
    induction xs with
    | nil => intro _; simp
    | cons x xs ih =>
      intro h
      obtain ⟨i1, i2⟩ := ih fun y hy => h y (List.mem_cons_of_mem _ hy)
      have := h x (by simp)
      rw [List.sum_cons, List.length_cons]
      push_cast
      constructor <;> omega
  unfold lenOf
  have := key (r.zipIdx.map fun p => ent t p.1 (atL r ((p.2 : Nat) - 1))) (fun x hx => ?_)
  · rw [List.length_map, List.length_zipIdx] at this
    exact this
  · obtain ⟨p, hp, rfl⟩ := List.mem_map.mp hx
    obtain ⟨hi, hz⟩ := List.mem_zipIdx' hp
    have hb : InB r.length ((p.2 : Nat) - 1) := by constructor <;> omega
    have m1 := h1 p.1 (by rw [hz]; exact List.getElem_mem _)
    have m2 := h1 _ (atL_mem hb)
    have e1 : p.1 = ((p.1.toNat : Nat) : Int) := by omega
    have e2 : atL r ((p.2 : Nat) - 1) = (((atL r ((p.2 : Nat) - 1)).toNat : Nat) : Int) := by omega
    rw [e1, e2]
    exact h0.ent_in (by omega) (by omega)
end D81


/-! M2: two changes in either sequence -/
namespace D81
open PySem PySem.Spec PyProof.Rows L2 AL
/-- two ways of two changes, which lead to the same -/
structure Comm (t : List (List Int)) (r : List Int) (a b c d : Ch) : Prop where
  a1 : okCh t r a
  a2 : okCh (goCh t r a).1 (goCh t r a).2 b
  b1 : okCh t r c
  b2 : okCh (goCh t r c).1 (goCh t r c).2 d
  eq : goCh (goCh t r a).1 (goCh t r a).2 b = goCh (goCh t r c).1 (goCh t r c).2 d
theorem ent_mk {n : Nat} {e : Nat → Nat → Int} : ∀ i j, i < n → j < n → (fun i j : Nat => ent (mkT n e) (i : Int) (j : Int)) i j = e i j := fun i j hi hj => mkT_ent hi hj
theorem setF_congr {n : Nat} {e f : Nat → Nat → Int} {a b d : Int} (h : ∀ i j, i < n → j < n → e i j = f i j) : ∀ i j, i < n → j < n → setF e a b d i j = setF f a b d i j := fun i j hi hj => by unfold setF; rw [h i j hi hj]
theorem comm_change {t : List (List Int)} {r : List Int} {a b d c e f : Int} (h : Tab t) (h1 : okCh t r (.change a b d)) (h2 : okCh t r (.change c e f)) (n1 : ¬(a = c ∧ b = e)) (n2 : ¬(a = e ∧ b = c)) : Comm t r (.change a b d) (.change c e f) (.change c e f) (.change a b d) := by
  obtain ⟨ha, hb, hab, hd⟩ := h1
  obtain ⟨hc, he, hce, hf⟩ := h2
  refine ⟨⟨ha, hb, hab, hd⟩, ?_, ⟨hc, he, hce, hf⟩, ?_, ?_⟩
  · show okCh (setT t a b d) r _
    exact ⟨by rw [setT_len]; exact hc, by rw [setT_len]; exact he, hce, hf⟩
  · show okCh (setT t c e f) r _
    exact ⟨by rw [setT_len]; exact ha, by rw [setT_len]; exact hb, hab, hd⟩
  · show (setT (setT t a b d) c e f, r) = (setT (setT t c e f) a b d, r)
    congr 1
    rw [setT_mk (t := t) h.sq ha hb, setT_mk (t := t) h.sq hc he, setT_mk (mkT_sq _ _) hc he, setT_mk (mkT_sq _ _) ha hb]
    refine mkT_congr fun i j hi hj => ?_
    rw [setF_congr ent_mk i j hi hj, setF_congr ent_mk i j hi hj]
    unfold setF
    by_cases c1 : ((i : Int) = a ∧ (j : Int) = b) ∨ ((i : Int) = b ∧ (j : Int) = a)
    · rw [if_pos c1, if_neg (by omega), if_pos c1]
    · rw [if_neg c1, if_neg c1]
theorem comm_turn {t : List (List Int)} {r q : List Int} {a b d : Int} (h1 : okCh t r (.change a b d)) (h2 : Rg t.length q) : Comm t r (.change a b d) (.turn q) (.turn q) (.change a b d) :=
  ⟨h1, show Rg (setT t a b d).length q by rw [setT_len]; exact h2, h2, h1, rfl⟩
theorem growF_congr {n : Nat} {e f : Nat → Nat → Int} {row : List Int} (h : ∀ i j, i < n → j < n → e i j = f i j) (i j : Nat) : growF e row n i j = growF f row n i j := by
  unfold growF
  split
  · rename_i c; exact h i j c.1 c.2
  · rfl
theorem comm_add {t : List (List Int)} {r row : List Int} {a b d k : Int} (h : Tab t) (h1 : okCh t r (.change a b d)) (h2 : okCh t r (.add row k)) : Comm t r (.change a b d) (.add row k) (.add row k) (.change a b d) := by
  obtain ⟨ha, hb, hab, hd⟩ := h1
  obtain ⟨hr, hk, hn⟩ := h2
  have hl := rowB_len hr
  have hg : (grownT t row).length = t.length + 1 := by rw [grownT_mk h.sq hl, mkT_len]
  refine ⟨⟨ha, hb, hab, hd⟩, ?_, ⟨hr, hk, hn⟩, ?_, ?_⟩
  · show okCh (setT t a b d) r _
    exact ⟨by rw [setT_len]; exact hr, hk, by rw [setT_len]; exact hn⟩
  · show okCh (grownT t row) _ _
    exact ⟨by rw [hg]; omega, by rw [hg]; omega, hab, hd⟩
  · show (grownT (setT t a b d) row, addR r (setT t a b d).length k) = (setT (grownT t row) a b d, addR r t.length k)
    rw [setT_len]
    congr 1
    rw [setT_mk (t := t) h.sq ha hb, grownT_mk (mkT_sq _ _) hl, grownT_mk (t := t) h.sq hl, setT_mk (mkT_sq _ _) (by omega) (by omega)]
    refine mkT_congr fun i j hi hj => ?_
    rw [growF_congr ent_mk i j, setF_congr ent_mk i j hi hj]
    unfold growF setF
    by_cases c1 : ((i : Int) = a ∧ (j : Int) = b) ∨ ((i : Int) = b ∧ (j : Int) = a)
    · rw [if_pos (by omega), if_pos c1, if_pos c1]
    · rw [if_neg c1, if_neg c1]
/-! ### places less -/
theorem without_cons (x : Int) (r : List Int) (p : Int) : withoutL (x :: r) p = if x = p then withoutL r p else (x - if p < x then 1 else 0) :: withoutL r p := by
  unfold withoutL
  rw [List.filter_cons]
  by_cases c : x = p
  · simp [c]
  · by_cases c2 : p < x <;> simp [c, c2]
theorem without_comm (p q : Int) (hpq : p ≠ q) : ∀ r : List Int, withoutL (withoutL r p) (q - if p < q then 1 else 0) = withoutL (withoutL r q) (p - if q < p then 1 else 0)
  | [] => rfl
  | x :: r => by
    have ih := without_comm p q hpq r
    by_cases c1 : x = p
    · have c2 : x ≠ q := fun e => hpq (c1.symm.trans e)
      have l1 : withoutL (x :: r) p = withoutL r p := by rw [without_cons, if_pos c1]
      have l2 : withoutL (x :: r) q = (x - if q < x then 1 else 0) :: withoutL r q := by rw [without_cons, if_neg c2]
      have e : (x - if q < x then 1 else 0) = p - if q < p then 1 else 0 := by rw [c1]
      have l3 : withoutL ((x - if q < x then 1 else 0) :: withoutL r q) (p - if q < p then 1 else 0) = withoutL (withoutL r q) (p - if q < p then 1 else 0) := by rw [without_cons, if_pos e]
      rw [l1, l2, l3]
      exact ih
    · have l1 : withoutL (x :: r) p = (x - if p < x then 1 else 0) :: withoutL r p := by rw [without_cons, if_neg c1]
      by_cases c2 : x = q
      · have l2 : withoutL (x :: r) q = withoutL r q := by rw [without_cons, if_pos c2]
        have e : (x - if p < x then 1 else 0) = q - if p < q then 1 else 0 := by rw [c2]
        have l3 : withoutL ((x - if p < x then 1 else 0) :: withoutL r p) (q - if p < q then 1 else 0) = withoutL (withoutL r p) (q - if p < q then 1 else 0) := by rw [without_cons, if_pos e]
        rw [l1, l2, l3]
        exact ih
      · have l2 : withoutL (x :: r) q = (x - if q < x then 1 else 0) :: withoutL r q := by rw [without_cons, if_neg c2]
        have e1 : ¬ ((x - if p < x then 1 else 0) = (q - if p < q then 1 else 0)) := by split <;> split <;> omega
        have e2 : ¬ ((x - if q < x then 1 else 0) = (p - if q < p then 1 else 0)) := by split <;> split <;> omega
        have l3 : withoutL ((x - if p < x then 1 else 0) :: withoutL r p) (q - if p < q then 1 else 0) = ((x - if p < x then 1 else 0) - if (q - if p < q then 1 else 0) < (x - if p < x then 1 else 0) then 1 else 0) :: withoutL (withoutL r p) (q - if p < q then 1 else 0) := by rw [without_cons, if_neg e1]
        have l4 : withoutL ((x - if q < x then 1 else 0) :: withoutL r q) (p - if q < p then 1 else 0) = ((x - if q < x then 1 else 0) - if (p - if q < p then 1 else 0) < (x - if q < x then 1 else 0) then 1 else 0) :: withoutL (withoutL r q) (p - if q < p then 1 else 0) := by rw [without_cons, if_neg e2]
        rw [l1, l2, l3, l4, ih]
        congr 1
        repeat' split
        all_goals omega
theorem dropF_congr {n p : Nat} {e f : Nat → Nat → Int} (hp : p < n) (h : ∀ i j, i < n → j < n → e i j = f i j) : ∀ i j, i < n - 1 → j < n - 1 → dropF e p i j = dropF f p i j := fun i j hi hj => by
  unfold dropF
  have sk : ∀ i, i < n - 1 → skipI p i < n := fun i hi => by unfold skipI; split <;> omega
  exact h _ _ (sk i hi) (sk j hj)
theorem comm_drop {t : List (List Int)} {r : List Int} {p q : Int} (h : Tab t) (hR : Rg t.length r) (hn : 3 ≤ t.length) (hp : 0 ≤ p ∧ p < t.length) (hq : 0 ≤ q ∧ q < t.length) (hpq : p ≠ q) :
    Comm t r (.drop p) (.drop (q - if p < q then 1 else 0)) (.drop q) (.drop (p - if q < p then 1 else 0)) := by
  have lp : ∀ p : Int, (0 ≤ p ∧ p < t.length) → (restT t (leftOf t.length p)).length = t.length - 1 := fun p hp => by
    have e : p = ((p.toNat : Nat) : Int) := by omega
    rw [e, dropT_mk (by omega), mkT_len]
  refine ⟨⟨hp, by omega⟩, ?_, ⟨hq, by omega⟩, ?_, ?_⟩
  · show okCh (restT t (leftOf t.length p)) _ _
    refine ⟨?_, by rw [lp p hp]; omega⟩
    rw [lp p hp]
    split <;> omega
  · show okCh (restT t (leftOf t.length q)) _ _
    refine ⟨?_, by rw [lp q hq]; omega⟩
    rw [lp q hq]
    split <;> omega
  · show (restT (restT t (leftOf t.length p)) (leftOf (restT t (leftOf t.length p)).length _), withoutL (withoutL r p) _) = (restT (restT t (leftOf t.length q)) (leftOf (restT t (leftOf t.length q)).length _), withoutL (withoutL r q) _)
    rw [without_comm p q hpq r, lp p hp, lp q hq]
    congr 1
    obtain ⟨m, rfl⟩ : ∃ m : Nat, p = m := ⟨p.toNat, by omega⟩
    obtain ⟨k, rfl⟩ : ∃ k : Nat, q = k := ⟨q.toNat, by omega⟩
    have e1 : ((k : Int) - if (m : Int) < k then 1 else 0) = ((k - (if m < k then 1 else 0) : Nat) : Int) := by split <;> split <;> omega
    have e2 : ((m : Int) - if (k : Int) < m then 1 else 0) = ((m - (if k < m then 1 else 0) : Nat) : Int) := by split <;> split <;> omega
    rw [e1, e2, dropT_mk (t := t) (by omega), dropT_mk (t := t) (by omega), dropT_mk (by split <;> omega), dropT_mk (by split <;> omega)]
    refine mkT_congr fun i j hi hj => ?_
    rw [dropF_congr (n := t.length - 1) (by split <;> omega) ent_mk i j hi hj, dropF_congr (n := t.length - 1) (by split <;> omega) ent_mk i j hi hj]
    unfold dropF
    have key : ∀ i, skipI m (skipI (k - if m < k then 1 else 0) i) = skipI k (skipI (m - if k < m then 1 else 0) i) := fun i => by
      unfold skipI
      repeat' split
      all_goals omega
    rw [key i, key j]
/-! ### a place more, a place less -/
theorem idx_filter : ∀ (row : List Int) (k p : Nat), ((row.zipIdx k).filter fun q => !decide (((q.2 : Nat) : Int) = ((p + k : Nat) : Int))).map (·.1) = row.eraseIdx p
  | [], k, p => rfl
  | x :: row, k, p => by
    rw [List.zipIdx_cons, List.filter_cons]
    cases p with
    | zero =>
      rw [if_neg (by simp), List.eraseIdx_cons_zero, List.filter_eq_self.mpr]
      · simp
      · intro q hq
        have := List.mem_zipIdx hq
        simp; omega
    | succ p =>
      rw [if_pos (by simp; omega), List.map_cons, List.eraseIdx_cons_succ]
      have ih := idx_filter row (k + 1) p
      rw [show p + (k + 1) = p + 1 + k by omega] at ih
      rw [ih]
theorem without_app (a b : List Int) (p : Int) : withoutL (a ++ b) p = withoutL a p ++ withoutL b p := by
  unfold withoutL
  rw [List.filter_append, List.map_append]
theorem idx_lt {r : List Int} {x : Int} (h : x ∈ r) : ∃ j : Nat, idxI r x = j ∧ r[j]? = some x ∧ (∀ m, m < j → r[m]? ≠ some x) := by
  have hlt : r.findIdx (· == x) < r.length := List.findIdx_lt_length_of_exists ⟨x, h, by simp⟩
  refine ⟨r.findIdx (· == x), rfl, ?_, fun m hm e => ?_⟩
  · have hg : (r[r.findIdx (· == x)]) = x := by simpa using List.findIdx_getElem (p := (· == x)) (w := hlt)
    rw [List.getElem?_eq_getElem hlt, hg]
  · obtain ⟨h1, h2⟩ := List.getElem?_eq_some_iff.mp e
    have := List.not_of_lt_findIdx hm
    simp [h2] at this
theorem without_len {r : List Int} {p : Int} (nd : r.Nodup) : (withoutL r p).length = r.length - (if p ∈ r then 1 else 0) := by
  unfold withoutL
  rw [List.length_map]
  have l3 := List.length_eq_countP_add_countP (l := r) (fun x => !decide (x = p))
  rw [List.countP_eq_length_filter] at l3
  have l4 : (r.countP fun a => ¬ (!decide (a = p)) = true) = r.count p := by
    rw [List.count_eq_countP]
    refine List.countP_congr fun x _ => ?_
    simp
  have l5 := List.nodup_iff_count.mp nd p
  by_cases hp : p ∈ r
  · have := List.count_pos_iff.mpr hp
    rw [if_pos hp]; omega
  · have := List.count_eq_zero.mpr hp
    rw [if_neg hp]; omega
theorem rowB_erase {n p : Nat} {row : List Int} (h : rowB n row = true) (hp : p < n) : rowB ((n - 1 : Nat) : Int) (row.eraseIdx p) = true := by
  have hl := rowB_len h
  unfold rowB at h ⊢
  have h2 := (ba h).2
  rw [List.length_eraseIdx, if_pos (by omega), hl]
  rw [decide_eq_true rfl, Bool.true_and, List.all_eq_true]
  intro x hx
  exact List.all_eq_true.mp h2 x (List.mem_of_mem_eraseIdx hx)
theorem comm_more {t : List (List Int)} {r row : List Int} {p k : Nat} {two : Int} (h : Tab t) (hR : Rg t.length r) (hn : 3 ≤ t.length) (h30 : t.length ≤ 29) (hr : rowB t.length row = true) (hp : p < t.length) (hk : r[k]? = some two) (hne : two ≠ p) :
    Comm t r (.add row k) (.drop p) (.drop p) (.add (row.eraseIdx p) ((k : Int) - if idxI r p < k then 1 else 0)) := by
  have hl := rowB_len hr
  have hrl := hR.len
  have hkl : k < r.length := (List.getElem?_eq_some_iff.mp hk).1
  have hg : (grownT t row).length = t.length + 1 := by rw [grownT_mk h.sq hl, mkT_len]
  have hd : (restT t (leftOf t.length (p : Int))).length = t.length - 1 := by rw [dropT_mk hp, mkT_len]
  have hpr : (p : Int) ∈ r := by
    -- the ring has each place
    have h1 := (rg_without hR (p := (p : Int)) (by omega)).len
    rw [without_len hR.nd] at h1
    by_cases c : (p : Int) ∈ r
    · exact c
    · rw [if_neg c] at h1; omega
  obtain ⟨j, hj, hj1, hj2⟩ := idx_lt hpr
  have hjk : j ≠ k := fun e => by rw [e, hk] at hj1; exact hne (Option.some.inj hj1)
  have hwl : (withoutL r (p : Int)).length = t.length - 1 := (rg_without hR (by omega)).len
  have hjl : j < r.length := (List.getElem?_eq_some_iff.mp hj1).1
  have ek : ((k : Int) - if idxI r p < k then 1 else 0) = ((k - (if j < k then 1 else 0) : Nat) : Int) := by
    rw [hj]; split <;> split <;> omega
  have hek : (k - (if j < k then 1 else 0)) < t.length - 1 := by split <;> omega
  refine ⟨⟨hr, by omega, by omega⟩, ?_, ⟨by omega, by omega⟩, ?_, ?_⟩
  · show okCh (grownT t row) _ _
    exact ⟨by rw [hg]; omega, by rw [hg]; omega⟩
  · show okCh (restT t (leftOf t.length (p : Int))) (withoutL r (p : Int)) _
    refine ⟨by rw [hd]; exact rowB_erase hr hp, ?_, by rw [hd]; omega⟩
    rw [hwl, ek]; omega
  · show (restT (grownT t row) (leftOf (grownT t row).length (p : Int)), withoutL (addR r t.length k) (p : Int)) = (grownT (restT t (leftOf t.length (p : Int))) (row.eraseIdx p), addR (withoutL r (p : Int)) (restT t (leftOf t.length (p : Int))).length _)
    rw [hg, hd, ek]
    congr 1
    · rw [grownT_mk (t := t) h.sq hl, dropT_mk (t := mkT _ _) (by omega), dropT_mk (t := t) hp, grownT_mk (mkT_sq _ _) (by rw [List.length_eraseIdx, if_pos (by omega)]; omega)]
      rw [show t.length + 1 - 1 = (t.length - 1) + 1 by omega]
      refine mkT_congr fun i j hi hj => ?_
      rw [growF_congr ent_mk i j, dropF_congr (n := t.length + 1) (by omega) ent_mk i j (by omega) (by omega)]
      unfold dropF growF
      have sk : ∀ i, i < t.length - 1 + 1 → (skipI p i < t.length ↔ i < t.length - 1) ∧ (skipI p i = t.length ↔ i = t.length - 1) := fun i hi => by unfold skipI; split <;> omega
      have er : ∀ i, (row.eraseIdx p).getD i 0 = row.getD (skipI p i) 0 := fun i => by
        rw [List.getD_eq_getElem?_getD, List.getD_eq_getElem?_getD, List.getElem?_eraseIdx]
        unfold skipI
        split <;> rfl
      rw [er i, er j]
      simp only [(sk i hi).1, (sk i hi).2, (sk j hj).1, (sk j hj).2]
    · rw [addR_eq (by omega), addR_eq (by rw [hwl]; omega), without_app, without_cons, if_neg (by omega), if_pos (by omega)]
      have htk : (withoutL (r.take (k + 1)) (p : Int)).length = k - (if j < k then 1 else 0) + 1 := by
        rw [without_len (hR.nd.sublist (List.take_sublist _ _)), List.length_take]
        have hm : (p : Int) ∈ r.take (k + 1) ↔ j < k := by
          constructor
          · intro hm
            obtain ⟨m, hm1⟩ := List.mem_iff_getElem?.mp hm
            have hml : m < k + 1 := by
              have := (List.getElem?_eq_some_iff.mp hm1).1
              rw [List.length_take] at this
              omega
            rw [List.getElem?_take_of_lt hml] at hm1
            have : ¬ m < j := fun c => hj2 m c hm1
            omega
          · intro hm
            exact List.mem_of_getElem? (i := j) (by rw [List.getElem?_take_of_lt (by omega)]; exact hj1)
        by_cases c : j < k
        · rw [if_pos (hm.mpr c), if_pos c]; omega
        · rw [if_neg (fun z => c (hm.mp z)), if_neg c]; omega
      have hsp : withoutL r (p : Int) = withoutL (r.take (k + 1)) (p : Int) ++ withoutL (r.drop (k + 1)) (p : Int) := by rw [← without_app, List.take_append_drop]
      simp only [Int.toNat_natCast]
      rw [hsp, ← htk, List.take_left, List.drop_left]
      congr 2
      omega
theorem comm_two {t : List (List Int)} {r q1 q2 q : List Int} (h1 : Rg t.length q1) (h2 : Rg t.length q2) (h : Rg t.length q) : Comm t r (.turn q1) (.turn q) (.turn q2) (.turn q) := ⟨h1, h, h2, h, rfl⟩
end D81


/-! G4: live.py -/
namespace D81
open PySem PySem.Spec PyProof.Rows L2 AL
/-! ### the state of a live ring -/
structure LS where
  t : List (List Int)
  r : List Int
  st : List (Str × List (List Int) × List Int)
def stD (q : Str × List (List Int) × List Int) : PyData := .tuple [.str q.1, Tb q.2.1, L q.2.2]
def lvF (s : LS) : List (Str × Im) := [("own_table", .d (Tb s.t)), ("own_ring", .d (L s.r)), ("own_steps", .d (.list (s.st.map stD))), ("own_kind", iS "live")]
def lv (C dx : Addr) (s : LS) : Cell := .ins C dx (lvF s)
structure OkS (s : LS) : Prop where
  tab : Tab s.t
  rg : Rg s.t.length s.r
  st : s.st.length ≤ 1000
  nm : ∀ q ∈ s.st, PyData.strOk q.1 = true
def triedB (t : List (List Int)) (r : List Int) : List Ch → List Bool
  | [] => []
  | c :: cs => skipB (goCh t r c).1 (goCh t r c).2 :: triedB (goCh t r c).1 (goCh t r c).2 cs
def okPath (t : List (List Int)) (r : List Int) : List Ch → Prop
  | [] => True
  | c :: cs => okCh t r c ∧ okPath (goCh t r c).1 (goCh t r c).2 cs
def chName : Ch → Str
  | .change _ _ _ => "change" | .add _ _ => "add" | .drop _ => "drop" | .turn _ => "turn"
/-- a call made -/
def LS.go (s : LS) (c : Ch) : LS := ⟨(goCh s.t s.r c).1, (goCh s.t s.r c).2, s.st ++ [(chName c, s.t, s.r)]⟩
theorem sh_st {s : LS} (h : OkS s) : Sh 4 (.list (s.st.map stD)) := sh_list fun d hd => by
  obtain ⟨q, hq, rfl⟩ := List.mem_map.mp hd
  exact sh_tup (sh_cons (sh_str _ (h.nm q hq)) (sh_cons (sh_Tb _) (sh_cons ((sh_L _).mono (by decide)) sh_nil)))
theorem sh_ch (c : Ch) : Sh 2 (chD c) := by
  cases c with
  | change a b d => exact sh_tup (sh_cons (sh_str _) (sh_cons (sh_int _ _) (sh_cons (sh_int _ _) (sh_cons (sh_int _ _) sh_nil))))
  | add row i => exact sh_tup (sh_cons (sh_str _) (sh_cons (sh_L _) (sh_cons (sh_int _ _) sh_nil)))
  | drop p => exact sh_tup (sh_cons (sh_str _) (sh_cons (sh_int _ _) sh_nil))
  | turn q => exact sh_tup (sh_cons (sh_str _) (sh_cons (sh_L _) sh_nil))
section
variable {w : World} {K : PySem.W.Frag} {mg : Str → Option Value} {base : Heap} (T : Wo w K mg)
def e_behind : List (List Int) × List Int × Ch → List Im := fun a => [.d (Tb a.1), .d (L a.2.1), .d (chD a.2.2)]
def p_behind : List (List Int) × List Int × Ch → Prop := fun a => Tab a.1 ∧ Rg a.1.length a.2.1 ∧ okCh a.1 a.2.1 a.2.2
def o_behind : List (List Int) × List Int × Ch → Im := fun a => iT [Tb (goCh a.1 a.2.1 a.2.2).1, L (goCh a.1 a.2.1 a.2.2).2]
theorem sizes (T : Wo w K mg) {q : Str × He.Dv} (h : q ∈ [(("change" : Str), He.Dv.int 4), ("add", .int 3), ("drop", .int 2), ("turn", .int 2)]) : ∃ u, PySem.W.nsIn K (He.ga K "SIZES") q.1 = some (some u) ∧ RelV (q.2.v K) u := He.valsB_ok T.v_SIZES h
theorem nd_behind : (["table", "ring", "change"] : List Str).Nodup := by decide +kernel
include T in
theorem g_behind : Fn PRG w K mg base 6 "behind" (pu (sp e_behind p_behind o_behind)) := by
  refine fn_sp (N := ["table", "ring", "change"]) (ps := ["table", "ring", "change"]) T.m_behind T.fd_behind ⟨rfl, rfl, rfl, nd_behind, rfl, by decide +kernel, by decide +kernel⟩
    (fun _ _ _ _ _ _ us hl => match us, hl with | [_, _, _], _ => rfl) (fun _ => rfl) (fun cdv A outer s H E O a hr h => ?_)
  have nd := nd_behind
  obtain ⟨t, r, c⟩ := a
  obtain ⟨h0, h1, h2⟩ := h
  have hs := (sh_ch c).ok
  cases c with
  | change x y d =>
    refine wps_guard (et_w (ew_or (et_not (et_val (ev_isT T.b_isinstance T.b_tuple (ev_var 2)))) fun _ => ew_or (tw_cmp (ec_eq hr.units (ev_var 2) (ev_tup ed_nil (by decide)) hs rfl)) fun _ => ew_or1 (et_not (et_val (ev_isS T.b_isinstance T.b_str (ev_ixT (ev_var 2) ev_int rfl)))))) rfl ?_
    refine wps_guard (tw_cmp (ec_neI (ev_getK (i := 4) T.t_SIZES (sizes T (q := ("change", .int 4)) (by simp)) (ev_gref T.m_SIZES) (ev_ixT (ev_var 2) ev_int rfl) ev_int ⟨rfl, rfl, rfl, rfl⟩) (ev_lenT T.b_len (ev_var 2)))) rfl ?_
    refine wps_cons (wp_if (tw_cmp (ec_eqS (ev_ixT (ev_var 2) ev_int rfl) ev_str)) (fun _ => ?_) (fun h => absurd h (by decide +kernel)))
    exact wps_ret (ev_sp (t, r, x, y, d) ((g_behind_change T).mono (by decide)) hr (ea_cons (ev_var 0) (ea_cons (ev_var 1) (ea_cons (ev_ixT (ev_var 2) ev_int rfl) (ea_cons (ev_ixT (ev_var 2) ev_int rfl) (ea_cons (ev_ixT (ev_var 2) ev_int rfl) ea_nil))))) ⟨h0, h2⟩) ⟨rfl, rfl⟩
  | add row i =>
    refine wps_guard (et_w (ew_or (et_not (et_val (ev_isT T.b_isinstance T.b_tuple (ev_var 2)))) fun _ => ew_or (tw_cmp (ec_eq hr.units (ev_var 2) (ev_tup ed_nil (by decide)) hs rfl)) fun _ => ew_or1 (et_not (et_val (ev_isS T.b_isinstance T.b_str (ev_ixT (ev_var 2) ev_int rfl)))))) rfl ?_
    refine wps_guard (tw_cmp (ec_neI (ev_getK (i := 3) T.t_SIZES (sizes T (q := ("add", .int 3)) (by simp)) (ev_gref T.m_SIZES) (ev_ixT (ev_var 2) ev_int rfl) ev_int ⟨rfl, rfl, rfl, rfl⟩) (ev_lenT T.b_len (ev_var 2)))) rfl ?_
    refine wps_cons (wp_if (tw_cmp (ec_eqS (ev_ixT (ev_var 2) ev_int rfl) ev_str)) (fun h => absurd h (by decide +kernel)) (fun _ => wps_nil ?_))
    refine wps_cons (wp_if (tw_cmp (ec_eqS (ev_ixT (ev_var 2) ev_int rfl) ev_str)) (fun _ => ?_) (fun h => absurd h (by decide +kernel)))
    exact wps_ret (ev_sp (t, r, row, i) ((g_behind_add T).mono (by decide)) hr (ea_cons (ev_var 0) (ea_cons (ev_var 1) (ea_cons (ev_ixT (ev_var 2) ev_int rfl) (ea_cons (ev_ixT (ev_var 2) ev_int rfl) ea_nil)))) ⟨h0, h1, h2⟩) ⟨rfl, rfl⟩
  | drop p =>
    refine wps_guard (et_w (ew_or (et_not (et_val (ev_isT T.b_isinstance T.b_tuple (ev_var 2)))) fun _ => ew_or (tw_cmp (ec_eq hr.units (ev_var 2) (ev_tup ed_nil (by decide)) hs rfl)) fun _ => ew_or1 (et_not (et_val (ev_isS T.b_isinstance T.b_str (ev_ixT (ev_var 2) ev_int rfl)))))) rfl ?_
    refine wps_guard (tw_cmp (ec_neI (ev_getK (i := 2) T.t_SIZES (sizes T (q := ("drop", .int 2)) (by simp)) (ev_gref T.m_SIZES) (ev_ixT (ev_var 2) ev_int rfl) ev_int ⟨rfl, rfl, rfl, rfl⟩) (ev_lenT T.b_len (ev_var 2)))) rfl ?_
    refine wps_cons (wp_if (tw_cmp (ec_eqS (ev_ixT (ev_var 2) ev_int rfl) ev_str)) (fun h => absurd h (by decide +kernel)) (fun _ => wps_nil ?_))
    refine wps_cons (wp_if (tw_cmp (ec_eqS (ev_ixT (ev_var 2) ev_int rfl) ev_str)) (fun h => absurd h (by decide +kernel)) (fun _ => wps_nil ?_))
    exact wps_ret (ew_if (tw_cmp (ec_eqS (ev_ixT (ev_var 2) ev_int rfl) ev_str)) (fun _ => ev_sp (t, r, p) ((g_behind_drop T).mono (by decide)) hr (ea_cons (ev_var 0) (ea_cons (ev_var 1) (ea_cons (ev_ixT (ev_var 2) ev_int rfl) ea_nil))) ⟨h0, h1, h2⟩) (fun h => absurd h (by decide +kernel))) ⟨rfl, rfl⟩
  | turn q =>
    refine wps_guard (et_w (ew_or (et_not (et_val (ev_isT T.b_isinstance T.b_tuple (ev_var 2)))) fun _ => ew_or (tw_cmp (ec_eq hr.units (ev_var 2) (ev_tup ed_nil (by decide)) hs rfl)) fun _ => ew_or1 (et_not (et_val (ev_isS T.b_isinstance T.b_str (ev_ixT (ev_var 2) ev_int rfl)))))) rfl ?_
    refine wps_guard (tw_cmp (ec_neI (ev_getK (i := 2) T.t_SIZES (sizes T (q := ("turn", .int 2)) (by simp)) (ev_gref T.m_SIZES) (ev_ixT (ev_var 2) ev_int rfl) ev_int ⟨rfl, rfl, rfl, rfl⟩) (ev_lenT T.b_len (ev_var 2)))) rfl ?_
    refine wps_cons (wp_if (tw_cmp (ec_eqS (ev_ixT (ev_var 2) ev_int rfl) ev_str)) (fun h => absurd h (by decide +kernel)) (fun _ => wps_nil ?_))
    refine wps_cons (wp_if (tw_cmp (ec_eqS (ev_ixT (ev_var 2) ev_int rfl) ev_str)) (fun h => absurd h (by decide +kernel)) (fun _ => wps_nil ?_))
    exact wps_ret (ew_if (tw_cmp (ec_eqS (ev_ixT (ev_var 2) ev_int rfl) ev_str)) (fun h => absurd h (by decide +kernel)) (fun _ => ev_sp (t, r, q) ((g_behind_turn T).mono (by decide)) hr (ea_cons (ev_var 0) (ea_cons (ev_var 1) (ea_cons (ev_ixT (ev_var 2) ev_int rfl) ea_nil))) ⟨h0, h2⟩)) ⟨rfl, rfl⟩
end
end D81


/-! G5: LiveRing -/
namespace D81
open PySem PySem.Spec PyProof.Rows L2 AL
section
variable {w : World} {K : PySem.W.Frag} {mg : Str → Option Value} {base : Heap} (T : Wo w K mg)
abbrev LC (K : PySem.W.Frag) : Addr := He.ga K "LiveRing"
def At (K : PySem.W.Frag) (O : Own) (l dx : Addr) (s : LS) : Prop := O l = some (lv (LC K) dx s)
/-! ### check_after, bounds, __len__ -/
def e_LiveRing_check_after : Addr × PyData × PyData → List Im := fun a => [iP a.1, .d a.2.1, .d a.2.2]
def p_LiveRing_check_after (K : PySem.W.Frag) : Addr × PyData × PyData → Own → Prop := fun _ _ => True
def q_LiveRing_check_after (K : PySem.W.Frag) : Addr × PyData × PyData → Own → Im → Own → Prop := fun _ O it O' => it = iN ∧ O' = O
theorem nd_LiveRing_check_after : (["self", "table", "ring"] : List Str).Nodup := by decide +kernel
include T in
theorem g_LiveRing_check_after : Mt PRG w K mg base 1 (He.ga K "LiveRing") "check_after" (ef e_LiveRing_check_after (p_LiveRing_check_after K) (q_LiveRing_check_after K)) := by
  refine mt_ef (N := ["self", "table", "ring"]) (ps := ["self", "table", "ring"]) T.h_LiveRing_check_after T.fd_LiveRing_check_after ⟨rfl, rfl, rfl, nd_LiveRing_check_after, rfl, by decide +kernel, by decide +kernel⟩
    (fun _ _ _ _ _ _ us hl => match us, hl with | [_, _, _], _ => rfl) (fun _ => rfl) (fun cdv A outer s H E O a hr h => ?_)
  have nd := nd_LiveRing_check_after
  exact wps_one (wp_pass ⟨rfl, rfl⟩)
def e_LiveRing_bounds : Addr → List Im := fun a => [iP a]
def p_LiveRing_bounds (K : PySem.W.Frag) : Addr → Own → Prop := fun _ _ => True
def q_LiveRing_bounds (K : PySem.W.Frag) : Addr → Own → Im → Own → Prop := fun _ O it O' => it = iL [] ∧ O' = O
theorem nd_LiveRing_bounds : (["self"] : List Str).Nodup := by decide +kernel
include T in
theorem g_LiveRing_bounds : Mt PRG w K mg base 1 (He.ga K "LiveRing") "bounds" (ef e_LiveRing_bounds (p_LiveRing_bounds K) (q_LiveRing_bounds K)) := by
  refine mt_ef (N := ["self"]) (ps := ["self"]) T.h_LiveRing_bounds T.fd_LiveRing_bounds ⟨rfl, rfl, rfl, nd_LiveRing_bounds, rfl, by decide +kernel, by decide +kernel⟩
    (fun _ _ _ _ _ _ us hl => match us, hl with | [_], _ => rfl) (fun _ => rfl) (fun cdv A outer s H E O a hr h => ?_)
  have nd := nd_LiveRing_bounds
  exact wps_ret (ev_list ed_nil (by decide)) ⟨rfl, rfl⟩
/-- what is read at a live ring -/
abbrev Rd := Addr × Addr × LS
def e_rd : Rd → List Im := fun a => [iP a.1]
def p_rd (K : PySem.W.Frag) : Rd → Own → Prop := fun a O => At K O a.1 a.2.1 a.2.2 ∧ OkS a.2.2
def q_rd (f : LS → Im) : Rd → Own → Im → Own → Prop := fun a O it O' => it = f a.2.2 ∧ O' = O
abbrev e_LiveRing_len := e_rd
abbrev p_LiveRing_len := p_rd
abbrev q_LiveRing_len (K : PySem.W.Frag) := q_rd fun s => iI s.r.length
theorem nd_LiveRing_len : (["self"] : List Str).Nodup := by decide +kernel
include T in
theorem g_LiveRing_len : Mt PRG w K mg base 1 (He.ga K "LiveRing") "__len__" (ef e_LiveRing_len (p_LiveRing_len K) (q_LiveRing_len K)) := by
  refine mt_ef (N := ["self"]) (ps := ["self"]) T.h_LiveRing_len T.fd_LiveRing_len ⟨rfl, rfl, rfl, nd_LiveRing_len, rfl, by decide +kernel, by decide +kernel⟩
    (fun _ _ _ _ _ _ us hl => match us, hl with | [_], _ => rfl) (fun _ => rfl) (fun cdv A outer s H E O a hr h => ?_)
  have nd := nd_LiveRing_len
  obtain ⟨l, dx, s⟩ := a
  obtain ⟨h0, h1⟩ := h
  exact wps_ret (ev_lenL T.b_len (ev_fld (ev_var 0) T.c_LiveRing T.n_LiveRing_own_ring h0 rfl)) ⟨rfl, rfl⟩
/-! ### properties -/
abbrev e_LiveRing_table := e_rd
abbrev p_LiveRing_table := p_rd
abbrev q_LiveRing_table (K : PySem.W.Frag) := q_rd fun s => .d (Tb s.t)
theorem nd_LiveRing_table : (["self", "row"] : List Str).Nodup := by decide +kernel
include T in
theorem g_LiveRing_table : Pp PRG w K mg base 1 (He.ga K "LiveRing") "table" (ef e_LiveRing_table (p_LiveRing_table K) (q_LiveRing_table K)) := by
  refine pp_ef (N := ["self", "row"]) (ps := ["self"]) T.fd_LiveRing_table ⟨rfl, rfl, rfl, nd_LiveRing_table, rfl, by decide +kernel, by decide +kernel⟩
    (fun _ _ _ _ _ _ us hl => match us, hl with | [_], _ => rfl) (fun _ => rfl) (fun cdv A outer s H E O a hr h => ?_)
  have nd := nd_LiveRing_table
  obtain ⟨l, dx, s⟩ := a
  obtain ⟨h0, h1⟩ := h
  have h30 : s.t.length ≤ 30 := h1.tab.hi
  refine wps_ret (ev_lcR (own := [("row", 1)]) (fun r => r) rfl nd (blkOk_by (own := [("row", 1)]) (by rfl)) (itr_listTb (ev_fld (ev_var 0) T.c_LiveRing T.n_LiveRing_own_table h0 rfl)) (sz_le (show s.t.length ≤ _ by omega)) (fun z hz => ⟨_, fun _ _ _ _ _ => eg_name 1 nd, fun _ _ _ _ _ => ev_listL T.b_list (ev_var 1)⟩)) ⟨?_, rfl⟩
  show Im.d (Tb _) = Im.d (Tb _)
  rw [List.map_id']
abbrev e_LiveRing_ring := e_rd
abbrev p_LiveRing_ring := p_rd
abbrev q_LiveRing_ring (K : PySem.W.Frag) := q_rd fun s => .d (L s.r)
theorem nd_LiveRing_ring : (["self"] : List Str).Nodup := by decide +kernel
include T in
theorem g_LiveRing_ring : Pp PRG w K mg base 1 (He.ga K "LiveRing") "ring" (ef e_LiveRing_ring (p_LiveRing_ring K) (q_LiveRing_ring K)) := by
  refine pp_ef (N := ["self"]) (ps := ["self"]) T.fd_LiveRing_ring ⟨rfl, rfl, rfl, nd_LiveRing_ring, rfl, by decide +kernel, by decide +kernel⟩
    (fun _ _ _ _ _ _ us hl => match us, hl with | [_], _ => rfl) (fun _ => rfl) (fun cdv A outer s H E O a hr h => ?_)
  have nd := nd_LiveRing_ring
  obtain ⟨l, dx, s⟩ := a
  obtain ⟨h0, h1⟩ := h
  exact wps_ret (ev_listL T.b_list (ev_fld (ev_var 0) T.c_LiveRing T.n_LiveRing_own_ring h0 rfl)) ⟨rfl, rfl⟩
abbrev e_LiveRing_is_skip := e_rd
abbrev p_LiveRing_is_skip := p_rd
abbrev q_LiveRing_is_skip (K : PySem.W.Frag) := q_rd fun s => iB (skipB s.t s.r)
theorem nd_LiveRing_is_skip : (["self"] : List Str).Nodup := by decide +kernel
include T in
theorem g_LiveRing_is_skip : Pp PRG w K mg base 3 (He.ga K "LiveRing") "is_skip" (ef e_LiveRing_is_skip (p_LiveRing_is_skip K) (q_LiveRing_is_skip K)) := by
  refine pp_ef (N := ["self"]) (ps := ["self"]) T.fd_LiveRing_is_skip ⟨rfl, rfl, rfl, nd_LiveRing_is_skip, rfl, by decide +kernel, by decide +kernel⟩
    (fun _ _ _ _ _ _ us hl => match us, hl with | [_], _ => rfl) (fun _ => rfl) (fun cdv A outer s H E O a hr h => ?_)
  have nd := nd_LiveRing_is_skip
  obtain ⟨l, dx, s⟩ := a
  obtain ⟨h0, h1⟩ := h
  exact wps_ret (ev_sp (s.t, s.r) (g_skips T) hr (ea_cons (ev_fld (ev_var 0) T.c_LiveRing T.n_LiveRing_own_table h0 rfl) (ea_cons (ev_fld (ev_var 0) T.c_LiveRing T.n_LiveRing_own_ring h0 rfl) ea_nil)) ⟨h1.tab, h1.rg⟩) ⟨rfl, rfl⟩
abbrev e_LiveRing_length := e_rd
abbrev p_LiveRing_length := p_rd
abbrev q_LiveRing_length (K : PySem.W.Frag) := q_rd fun s => iI (lenOf s.t s.r)
theorem OkS.lenpre {s : LS} (h : OkS s) : p_length_of (s.t, s.r) := ⟨h.tab, h.rg.pl, show s.r.length ≤ 100000 by have := h.tab.hi; have := h.rg.len; omega⟩
theorem nd_LiveRing_length : (["self"] : List Str).Nodup := by decide +kernel
include T in
theorem g_LiveRing_length : Pp PRG w K mg base 2 (He.ga K "LiveRing") "length" (ef e_LiveRing_length (p_LiveRing_length K) (q_LiveRing_length K)) := by
  refine pp_ef (N := ["self"]) (ps := ["self"]) T.fd_LiveRing_length ⟨rfl, rfl, rfl, nd_LiveRing_length, rfl, by decide +kernel, by decide +kernel⟩
    (fun _ _ _ _ _ _ us hl => match us, hl with | [_], _ => rfl) (fun _ => rfl) (fun cdv A outer s H E O a hr h => ?_)
  have nd := nd_LiveRing_length
  obtain ⟨l, dx, s⟩ := a
  obtain ⟨h0, h1⟩ := h
  exact wps_ret (ev_sp (s.t, s.r) (g_length_of T) hr (ea_cons (ev_fld (ev_var 0) T.c_LiveRing T.n_LiveRing_own_table h0 rfl) (ea_cons (ev_fld (ev_var 0) T.c_LiveRing T.n_LiveRing_own_ring h0 rfl) ea_nil)) h1.lenpre) ⟨rfl, rfl⟩
abbrev e_LiveRing_log := e_rd
abbrev p_LiveRing_log := p_rd
abbrev q_LiveRing_log (K : PySem.W.Frag) := q_rd fun s => iL (s.st.map fun q => .str q.1)
theorem nd_LiveRing_log : (["self", "name", "table", "ring"] : List Str).Nodup := by decide +kernel
include T in
theorem g_LiveRing_log : Pp PRG w K mg base 1 (He.ga K "LiveRing") "log" (ef e_LiveRing_log (p_LiveRing_log K) (q_LiveRing_log K)) := by
  refine pp_ef (N := ["self", "name", "table", "ring"]) (ps := ["self"]) T.fd_LiveRing_log ⟨rfl, rfl, rfl, nd_LiveRing_log, rfl, by decide +kernel, by decide +kernel⟩
    (fun _ _ _ _ _ _ us hl => match us, hl with | [_], _ => rfl) (fun _ => rfl) (fun cdv A outer s H E O a hr h => ?_)
  have nd := nd_LiveRing_log
  obtain ⟨l, dx, s⟩ := a
  obtain ⟨h0, h1⟩ := h
  exact wps_ret (ev_lcM (own := [("name", 1), ("table", 2), ("ring", 3)]) (fun q => .str q.1) rfl nd (blkOk_by (own := [("name", 1), ("table", 2), ("ring", 3)]) (by rfl)) (itr_eq (itr_list (ev_fld (ev_var 0) T.c_LiveRing T.n_LiveRing_own_steps h0 rfl)) (show (s.st.map stD).map Im.d = s.st.map fun q => .d (stD q) by rw [List.map_map]; rfl)) (sz_le (Nat.le_trans h1.st (by decide)))
    (fun z hz => ⟨_, fun _ _ _ _ _ => eg_threeD 1 2 3 rfl nd, fun _ _ _ _ _ => ev_var 1⟩)) ⟨rfl, rfl⟩
/-! ### described -/
theorem lg {i : Int} (h0 : 0 ≤ i) (h : i < 2 ^ 200) : i.natAbs.log2 < 1920 := by
  by_cases hz : i.natAbs = 0
  · rw [hz]; decide
  · refine (Nat.log2_lt hz).mpr (Nat.lt_of_lt_of_le (show i.natAbs < 2 ^ 200 by omega) (Nat.pow_le_pow_right (by decide) (by decide)))
def descD (t : List (List Int)) (r : List Int) : List PyData := [.str (("places " : Str) ++ Str.ofString (toString ((r.length : Nat) : Int))), .str (("length " : Str) ++ Str.ofString (toString (lenOf t r))), .str (if skipB t r then "skip" else "bar")]
theorem adds_ok {x : Str} {i : Int} (h : i.natAbs.log2 < 1920) (hx : x.length ≤ 100 := by decide) : x.length + (Str.ofString (toString i)).length ≤ sizeLine := by
  have := int_text_len_1921 h
  exact sz_le (by omega)
theorem OkS.lensz {s : LS} (h : OkS s) : (lenOf s.t s.r).natAbs.log2 < 1920 := by
  obtain ⟨h1, h2⟩ := len_bound h.tab h.rg.pl
  have := h.tab.hi
  have := h.rg.len
  refine lg h1 ?_
  have h3 : (s.r.length : Int) * 1000000000000000000000000000000 ≤ 30 * 1000000000000000000000000000000 := Int.mul_le_mul_of_nonneg_right (by omega) (by decide)
  omega
theorem OkS.ringsz {s : LS} (h : OkS s) : (((s.r.length : Nat) : Int)).natAbs.log2 < 1920 := by
  have := h.tab.hi
  have := h.rg.len
  exact lg (by omega) (by omega)
abbrev e_LiveRing_described := e_rd
abbrev p_LiveRing_described := p_rd
abbrev q_LiveRing_described (K : PySem.W.Frag) := q_rd fun s => iL (descD s.t s.r)
theorem nd_LiveRing_described : (["self", "word", "length"] : List Str).Nodup := by decide +kernel
include T in
theorem g_LiveRing_described : Mt PRG w K mg base 3 (He.ga K "LiveRing") "described" (ef e_LiveRing_described (p_LiveRing_described K) (q_LiveRing_described K)) := by
  refine mt_ef (N := ["self", "word", "length"]) (ps := ["self"]) T.h_LiveRing_described T.fd_LiveRing_described ⟨rfl, rfl, rfl, nd_LiveRing_described, rfl, by decide +kernel, by decide +kernel⟩
    (fun _ _ _ _ _ _ us hl => match us, hl with | [_], _ => rfl) (fun _ => rfl) (fun cdv A outer s H E O a hr h => ?_)
  have nd := nd_LiveRing_described
  obtain ⟨l, dx, s⟩ := a
  obtain ⟨h0, h1⟩ := h
  refine wps_set 1 nd (it := iS (if skipB s.t s.r then "skip" else "bar")) (ew_if (et_val (ev_sp (s.t, s.r) (g_skips T) hr (ea_cons (ev_fld (ev_var 0) T.c_LiveRing T.n_LiveRing_own_table h0 rfl) (ea_cons (ev_fld (ev_var 0) T.c_LiveRing T.n_LiveRing_own_ring h0 rfl) ea_nil)) ⟨h1.tab, h1.rg⟩)) (fun h => ev_str.eq (by rw [if_pos h])) (fun h => ev_str.eq (by rw [if_neg (by rw [h]; decide)]))) ?_
  refine wps_set 2 nd (ev_sp (s.t, s.r) ((g_length_of T).mono (by decide)) hr (ea_cons (ev_fld (ev_var 0) T.c_LiveRing T.n_LiveRing_own_table h0 rfl) (ea_cons (ev_fld (ev_var 0) T.c_LiveRing T.n_LiveRing_own_ring h0 rfl) ea_nil)) h1.lenpre) ?_
  exact wps_ret (ev_list (ed_cons (ev_adds ev_str (ev_strI T.b_str (ev_lenL T.b_len (ev_fld (ev_var 0) T.c_LiveRing T.n_LiveRing_own_ring h0 rfl)) h1.ringsz) (adds_ok h1.ringsz)) (ed_cons (ev_adds ev_str (ev_strI T.b_str (ev_var 2) h1.lensz) (adds_ok h1.lensz)) (ed_cons (ev_var 1) ed_nil))) (sz_le (by simp))) ⟨rfl, rfl⟩
/-! ### __init__, again, twin, __eq__ -/
abbrev Mk4 := Addr × Addr × List (List Int) × List Int
def e_LiveRing_init : Mk4 → List Im := fun a => [iP a.1, .d (Tb a.2.2.1), .d (L a.2.2.2)]
def p_LiveRing_init (K : PySem.W.Frag) : Mk4 → Own → Prop := fun a O => O a.1 = some (.ins (LC K) a.2.1 []) ∧ Tab a.2.2.1 ∧ Rg a.2.2.1.length a.2.2.2
def q_LiveRing_init (K : PySem.W.Frag) : Mk4 → Own → Im → Own → Prop := fun a O it O' => it = iN ∧ O' = setO O a.1 (lv (LC K) a.2.1 ⟨a.2.2.1, a.2.2.2, []⟩)
theorem nd_LiveRing_init : (["self", "table", "ring", "row"] : List Str).Nodup := by decide +kernel
include T in
theorem g_LiveRing_init : Mr PRG w K mg base 6 "LiveRing" (He.ga K "LiveRing") (ef e_LiveRing_init (p_LiveRing_init K) (q_LiveRing_init K)) := by
  refine mr_ef (N := ["self", "table", "ring", "row"]) (ps := ["self", "table", "ring"]) T.k_LiveRing T.m_LiveRing T.fd_LiveRing_init ⟨rfl, rfl, rfl, nd_LiveRing_init, rfl, by decide +kernel, by decide +kernel⟩
    (fun _ _ _ _ _ _ us hl => match us, hl with | [_, _, _], _ => rfl) (fun _ => rfl) (fun cdv A outer s H E O a hr h => ?_)
  have nd := nd_LiveRing_init
  obtain ⟨l, dx, t, r⟩ := a
  obtain ⟨h0, h1, h2⟩ := h
  have h30 : t.length ≤ 30 := h1.hi
  refine wps_do (ev_sp (t, r) (g_require_both T) hr (ea_cons (ev_var 1) (ea_cons (ev_var 2) ea_nil)) ⟨h1, h2⟩) ?_
  refine wps_fld (it := .d (Tb t)) ((ev_lcR (own := [("row", 3)]) (fun r => r) rfl nd (blkOk_by (own := [("row", 3)]) (by rfl)) (itr_listTb (ev_var 1)) (sz_le (show t.length ≤ _ by omega)) (fun z hz => ⟨_, fun _ _ _ _ _ => eg_name 3 nd, fun _ _ _ _ _ => ev_listL T.b_list (ev_var 3)⟩)).eq (by rw [List.map_id'])) (ev_var 0) h0 T.c_LiveRing T.n_LiveRing_own_table ?_
  refine wps_fld (ev_listL T.b_list (ev_var 2)) (ev_var 0) setO_same T.c_LiveRing T.n_LiveRing_own_ring ?_
  refine wps_fld (ev_list ed_nil (by decide)) (ev_var 0) setO_same T.c_LiveRing T.n_LiveRing_own_steps ?_
  refine wps_fld ev_str (ev_var 0) setO_same T.c_LiveRing T.n_LiveRing_own_kind ?_
  rw [setO_setO, setO_setO, setO_setO]
  refine wps_do' (ew_mef (l, Tb t, L r) ((g_LiveRing_check_after T).mono (by decide)) T.c_LiveRing hr (ev_var 0) setO_same (ea_cons (ev_var 1) (ea_cons (ev_var 2) ea_nil)) rfl trivial (fun it O' h => ?_))
  obtain ⟨rfl, rfl⟩ := h
  exact wps_nil ⟨rfl, rfl⟩
abbrev e_LiveRing_again := e_rd
abbrev p_LiveRing_again := p_rd
def q_LiveRing_again (K : PySem.W.Frag) : Rd → Own → Im → Own → Prop := fun a O it O' => ∃ l dx, O l = none ∧ it = iP l ∧ O' = setO O l (lv (LC K) dx ⟨a.2.2.t, a.2.2.r, []⟩)
theorem nd_LiveRing_again : (["self"] : List Str).Nodup := by decide +kernel
include T in
theorem g_LiveRing_again : Mt PRG w K mg base 8 (He.ga K "LiveRing") "again" (ef e_LiveRing_again (p_LiveRing_again K) (q_LiveRing_again K)) := by
  refine mt_ef (N := ["self"]) (ps := ["self"]) T.h_LiveRing_again T.fd_LiveRing_again ⟨rfl, rfl, rfl, nd_LiveRing_again, rfl, by decide +kernel, by decide +kernel⟩
    (fun _ _ _ _ _ _ us hl => match us, hl with | [_], _ => rfl) (fun _ => rfl) (fun cdv A outer s H E O a hr h => ?_)
  have nd := nd_LiveRing_again
  obtain ⟨l, dx, s⟩ := a
  obtain ⟨h0, h1⟩ := h
  refine wps_retW (ew_make (g_LiveRing_init T) hr (Ea.w (ea_cons (ev_fld (ev_var 0) T.c_LiveRing T.n_LiveRing_own_table h0 rfl) (ea_cons (ev_fld (ev_var 0) T.c_LiveRing T.n_LiveRing_own_ring h0 rfl) ea_nil)) fun l' dx' hl => ⟨(l', dx', s.t, s.r), rfl, ⟨setO_same, h1.tab, h1.rg⟩, fun it O' hq => ?_⟩))
  obtain ⟨rfl, rfl⟩ := hq
  exact ⟨rfl, l', dx', hl, rfl, setO_setO.trans rfl⟩
abbrev e_LiveRing_twin := e_rd
abbrev p_LiveRing_twin := p_rd
def q_LiveRing_twin (K : PySem.W.Frag) : Rd → Own → Im → Own → Prop := fun a O it O' => ∃ l dx, O l = none ∧ it = iP l ∧ O' = setO O l (lv (LC K) dx a.2.2)
theorem nd_LiveRing_twin : (["self", "found"] : List Str).Nodup := by decide +kernel
include T in
theorem g_LiveRing_twin : Mt PRG w K mg base 9 (He.ga K "LiveRing") "twin" (ef e_LiveRing_twin (p_LiveRing_twin K) (q_LiveRing_twin K)) := by
  refine mt_ef (N := ["self", "found"]) (ps := ["self"]) T.h_LiveRing_twin T.fd_LiveRing_twin ⟨rfl, rfl, rfl, nd_LiveRing_twin, rfl, by decide +kernel, by decide +kernel⟩
    (fun _ _ _ _ _ _ us hl => match us, hl with | [_], _ => rfl) (fun _ => rfl) (fun cdv A outer s H E O a hr h => ?_)
  have nd := nd_LiveRing_twin
  obtain ⟨l, dx, s⟩ := a
  obtain ⟨h0, h1⟩ := h
  refine wps_setW 1 nd (ew_mef0 (l, dx, s) (g_LiveRing_again T) T.c_LiveRing hr (ev_var 0) h0 rfl ⟨h0, h1⟩ fun it O' h => ?_)
  obtain ⟨l', dx', hl, rfl, rfl⟩ := h
  have hne : l ≠ l' := fun e => by
    have h0' : O l = some _ := h0
    rw [e, hl] at h0'; cases h0'
  refine wps_fld (ev_listL T.b_list (ev_fld (ev_var 0) T.c_LiveRing T.n_LiveRing_own_steps (by rw [setO_ne hne]; exact h0) rfl)) (ev_var 1) setO_same T.c_LiveRing T.n_LiveRing_own_steps ?_
  rw [setO_setO]
  exact wps_ret (ev_var 1) ⟨l', dx', hl, rfl, rfl⟩
abbrev Eq4 := Rd × Rd
def e_LiveRing_eq : Eq4 → List Im := fun a => [iP a.1.1, iP a.2.1]
def p_LiveRing_eq (K : PySem.W.Frag) : Eq4 → Own → Prop := fun a O => p_rd K a.1 O ∧ p_rd K a.2 O
def eqB (s u : LS) : Bool := decide (s.t = u.t) && decide (plainTrip s.r = plainTrip u.r)
def q_LiveRing_eq (K : PySem.W.Frag) : Eq4 → Own → Im → Own → Prop := fun a O it O' => it = iB (eqB a.1.2.2 a.2.2.2) ∧ O' = O
theorem OkS.ptpre {s : LS} (h : OkS s) : p_plain_trip s.r := by
  have := h.tab.hi
  have := h.tab.lo
  have := h.rg.len
  exact ⟨fun e => by rw [e] at this; simp at this; omega, by omega⟩
theorem nd_LiveRing_eq : (["self", "other"] : List Str).Nodup := by decide +kernel
include T in
theorem g_LiveRing_eq : Mt PRG w K mg base 3 (He.ga K "LiveRing") "__eq__" (ef e_LiveRing_eq (p_LiveRing_eq K) (q_LiveRing_eq K)) := by
  refine mt_ef (N := ["self", "other"]) (ps := ["self", "other"]) T.h_LiveRing_eq T.fd_LiveRing_eq ⟨rfl, rfl, rfl, nd_LiveRing_eq, rfl, by decide +kernel, by decide +kernel⟩
    (fun _ _ _ _ _ _ us hl => match us, hl with | [_, _], _ => rfl) (fun _ => rfl) (fun cdv A outer s H E O a hr h => ?_)
  have nd := nd_LiveRing_eq
  obtain ⟨⟨l, dx, s⟩, ⟨l2, dx2, s2⟩⟩ := a
  obtain ⟨⟨h0, h1⟩, ⟨h2, h3⟩⟩ := h
  have hb : ∀ {ρ' : Ro} {e : Expr} {pos apos : Pos} {q : Addr} {dq : Addr} {sq : LS}, True := trivial
  refine wps_guard (et_w (ew_or (et_not (et_val (ev_isO T.b_isinstance (ev_var 1) (ev_gref T.m_LiveRing) h2 T.c_LiveRing T.oc_LiveRing T.o_get T.o_tak T.om_LiveRing T.q_LiveRing))) fun _ => ew_or (tw_cmp (ec_neS (ev_fld (ev_var 0) T.c_LiveRing T.n_LiveRing_own_kind h0 rfl) (ev_fld (ev_var 1) T.c_LiveRing T.n_LiveRing_own_kind h2 rfl))) fun _ => ew_or1 (tw_cmp (ec_ne (d := .list []) (f := .list []) hr.units
    (ew_mef0 l ((g_LiveRing_bounds T).mono (by decide)) T.c_LiveRing hr (ev_var 0) h0 rfl trivial fun it O' h => h) (ew_mef0 l2 ((g_LiveRing_bounds T).mono (by decide)) T.c_LiveRing hr (ev_var 1) h2 rfl trivial fun it O' h => h) rfl rfl)))) (by rw [decide_eq_true rfl]; rfl) ?_
  exact wps_ret (ev_and (ev_cmp (ec_eqTb hr.units (ev_fld (ev_var 0) T.c_LiveRing T.n_LiveRing_own_table h0 rfl) (ev_fld (ev_var 1) T.c_LiveRing T.n_LiveRing_own_table h2 rfl))) fun _ => ev_one (ev_cmp (ec_eqL hr.units (ev_sp s.r ((g_plain_trip T).mono (by decide)) hr (ea_cons (ev_fld (ev_var 0) T.c_LiveRing T.n_LiveRing_own_ring h0 rfl) ea_nil) h1.ptpre) (ev_sp s2.r ((g_plain_trip T).mono (by decide)) hr (ea_cons (ev_fld (ev_var 1) T.c_LiveRing T.n_LiveRing_own_ring h2 rfl) ea_nil) h3.ptpre)))) ⟨rfl, rfl⟩
/-! ### calls -/
abbrev Md := Addr × Addr × LS × Str × List (List Int) × List Int
def e_LiveRing_made : Md → List Im := fun a => [iP a.1, iS a.2.2.2.1, iT [Tb a.2.2.2.2.1, L a.2.2.2.2.2]]
def p_LiveRing_made (K : PySem.W.Frag) : Md → Own → Prop := fun a O => At K O a.1 a.2.1 a.2.2.1 ∧ OkS a.2.2.1 ∧ Tab a.2.2.2.2.1 ∧ Rg a.2.2.2.2.1.length a.2.2.2.2.2
def q_LiveRing_made (K : PySem.W.Frag) : Md → Own → Im → Own → Prop := fun a O it O' => it = iB (skipB a.2.2.2.2.1 a.2.2.2.2.2) ∧ O' = setO O a.1 (lv (LC K) a.2.1 ⟨a.2.2.2.2.1, a.2.2.2.2.2, a.2.2.1.st ++ [(a.2.2.2.1, a.2.2.1.t, a.2.2.1.r)]⟩)
theorem nd_LiveRing_made : (["self", "name", "after", "table", "ring"] : List Str).Nodup := by decide +kernel
include T in
theorem g_LiveRing_made : Mt PRG w K mg base 3 (He.ga K "LiveRing") "made" (ef e_LiveRing_made (p_LiveRing_made K) (q_LiveRing_made K)) := by
  refine mt_ef (N := ["self", "name", "after", "table", "ring"]) (ps := ["self", "name", "after"]) T.h_LiveRing_made T.fd_LiveRing_made ⟨rfl, rfl, rfl, nd_LiveRing_made, rfl, by decide +kernel, by decide +kernel⟩
    (fun _ _ _ _ _ _ us hl => match us, hl with | [_, _, _], _ => rfl) (fun _ => rfl) (fun cdv A outer s H E O a hr h => ?_)
  have nd := nd_LiveRing_made
  obtain ⟨l, dx, s, n, t, r⟩ := a
  obtain ⟨h0, h1, h2, h3⟩ := h
  refine wps_asg (ev_var 2) (eg_pairD 3 4 rfl nd) ?_
  refine wps_do' (ew_mef (l, Tb t, L r) ((g_LiveRing_check_after T).mono (by decide)) T.c_LiveRing hr (ev_var 0) h0 (ea_cons (ev_var 3) (ea_cons (ev_var 4) ea_nil)) rfl trivial (fun it O' h => ?_))
  obtain ⟨rfl, rfl⟩ := h
  refine wps_fld (it := .d (.list ((s.st ++ [(n, s.t, s.r)]).map stD))) ((ev_list (ed_star (ev_fld (ev_var 0) T.c_LiveRing T.n_LiveRing_own_steps h0 rfl) (ed_cons (ev_tup (ed_cons (ev_var 1) (ed_cons (ev_fld (ev_var 0) T.c_LiveRing T.n_LiveRing_own_table h0 rfl) (ed_cons (ev_fld (ev_var 0) T.c_LiveRing T.n_LiveRing_own_ring h0 rfl) ed_nil))) (sz_le (by simp))) ed_nil)) (by rw [List.length_append, List.length_map]; exact sz_le (show s.st.length + 1 ≤ 100000 from Nat.le_trans (Nat.succ_le_succ h1.st) (by decide)))).eq (by rw [List.map_append]; rfl)) (ev_var 0) h0 T.c_LiveRing T.n_LiveRing_own_steps ?_
  refine wps_fld (ev_var 3) (ev_var 0) setO_same T.c_LiveRing T.n_LiveRing_own_table ?_
  refine wps_fld (ev_var 4) (ev_var 0) setO_same T.c_LiveRing T.n_LiveRing_own_ring ?_
  rw [setO_setO, setO_setO]
  exact wps_ret (ev_sp (t, r) (g_skips T) hr (ea_cons (ev_var 3) (ea_cons (ev_var 4) ea_nil)) ⟨h2, h3⟩) ⟨rfl, rfl⟩
end
end D81


/-! G6: the calls of a live ring -/
namespace D81
open PySem PySem.Spec PyProof.Rows L2 AL
section
variable {w : World} {K : PySem.W.Frag} {mg : Str → Option Value} {base : Heap} (T : Wo w K mg)
/-- a call c at a live ring -/
def pC {α : Type} (g : α → Rd × Ch) (K : PySem.W.Frag) : α → Own → Prop := fun a O => p_rd K (g a).1 O ∧ okCh (g a).1.2.2.t (g a).1.2.2.r (g a).2
def qC {α : Type} (g : α → Rd × Ch) (K : PySem.W.Frag) : α → Own → Im → Own → Prop := fun a O it O' => it = iB (skipB ((g a).1.2.2.go (g a).2).t ((g a).1.2.2.go (g a).2).r) ∧ O' = setO O (g a).1.1 (lv (LC K) (g a).1.2.1 ((g a).1.2.2.go (g a).2))
def g_ch : Rd × Int × Int × Int → Rd × Ch := fun a => (a.1, .change a.2.1 a.2.2.1 a.2.2.2)
def e_LiveRing_change : Rd × Int × Int × Int → List Im := fun a => [iP a.1.1, iI a.2.1, iI a.2.2.1, iI a.2.2.2]
abbrev p_LiveRing_change := pC g_ch
abbrev q_LiveRing_change := qC g_ch
theorem nd_LiveRing_change : (["self", "one", "other", "distance"] : List Str).Nodup := by decide +kernel
include T in
theorem g_LiveRing_change : Mt PRG w K mg base 5 (He.ga K "LiveRing") "change" (ef e_LiveRing_change (p_LiveRing_change K) (q_LiveRing_change K)) := by
  refine mt_ef (N := ["self", "one", "other", "distance"]) (ps := ["self", "one", "other", "distance"]) T.h_LiveRing_change T.fd_LiveRing_change ⟨rfl, rfl, rfl, nd_LiveRing_change, rfl, by decide +kernel, by decide +kernel⟩
    (fun _ _ _ _ _ _ us hl => match us, hl with | [_, _, _, _], _ => rfl) (fun _ => rfl) (fun cdv A outer s H E O a hr h => ?_)
  have nd := nd_LiveRing_change
  obtain ⟨⟨l, dx, s⟩, x, y, d⟩ := a
  obtain ⟨⟨h0, h1⟩, h2⟩ := h
  obtain ⟨g1, g2⟩ := go_ok h1.tab h1.rg h2
  refine wps_retW (ew_mef (l, dx, s, ("change" : Str), (goCh s.t s.r (.change x y d)).1, (goCh s.t s.r (.change x y d)).2) ((g_LiveRing_made T).mono (by decide)) T.c_LiveRing hr (ev_var 0) h0 (ea_cons ev_str (ea_cons (ev_sp (s.t, s.r, x, y, d) (g_behind_change T) hr (ea_cons (ev_fld (ev_var 0) T.c_LiveRing T.n_LiveRing_own_table h0 rfl) (ea_cons (ev_fld (ev_var 0) T.c_LiveRing T.n_LiveRing_own_ring h0 rfl) (ea_cons (ev_var 1) (ea_cons (ev_var 2) (ea_cons (ev_var 3) ea_nil))))) ⟨h1.tab, h2⟩) ea_nil)) rfl ⟨h0, h1, g1, g2⟩ fun it O' h => h)
def g_ad : Rd × List Int × Int → Rd × Ch := fun a => (a.1, .add a.2.1 a.2.2)
def e_LiveRing_add : Rd × List Int × Int → List Im := fun a => [iP a.1.1, .d (L a.2.1), iI a.2.2]
abbrev p_LiveRing_add := pC g_ad
abbrev q_LiveRing_add := qC g_ad
theorem nd_LiveRing_add : (["self", "row", "index"] : List Str).Nodup := by decide +kernel
include T in
theorem g_LiveRing_add : Mt PRG w K mg base 5 (He.ga K "LiveRing") "add" (ef e_LiveRing_add (p_LiveRing_add K) (q_LiveRing_add K)) := by
  refine mt_ef (N := ["self", "row", "index"]) (ps := ["self", "row", "index"]) T.h_LiveRing_add T.fd_LiveRing_add ⟨rfl, rfl, rfl, nd_LiveRing_add, rfl, by decide +kernel, by decide +kernel⟩
    (fun _ _ _ _ _ _ us hl => match us, hl with | [_, _, _], _ => rfl) (fun _ => rfl) (fun cdv A outer s H E O a hr h => ?_)
  have nd := nd_LiveRing_add
  obtain ⟨⟨l, dx, s⟩, x, y⟩ := a
  obtain ⟨⟨h0, h1⟩, h2⟩ := h
  obtain ⟨g1, g2⟩ := go_ok h1.tab h1.rg h2
  refine wps_retW (ew_mef (l, dx, s, ("add" : Str), (goCh s.t s.r (.add x y)).1, (goCh s.t s.r (.add x y)).2) ((g_LiveRing_made T).mono (by decide)) T.c_LiveRing hr (ev_var 0) h0 (ea_cons ev_str (ea_cons (ev_sp (s.t, s.r, x, y) (g_behind_add T) hr (ea_cons (ev_fld (ev_var 0) T.c_LiveRing T.n_LiveRing_own_table h0 rfl) (ea_cons (ev_fld (ev_var 0) T.c_LiveRing T.n_LiveRing_own_ring h0 rfl) (ea_cons (ev_var 1) (ea_cons (ev_var 2) ea_nil)))) ⟨h1.tab, h1.rg, h2⟩) ea_nil)) rfl ⟨h0, h1, g1, g2⟩ fun it O' h => h)
def g_dr : Rd × Int → Rd × Ch := fun a => (a.1, .drop a.2)
def e_LiveRing_drop : Rd × Int → List Im := fun a => [iP a.1.1, iI a.2]
abbrev p_LiveRing_drop := pC g_dr
abbrev q_LiveRing_drop := qC g_dr
theorem nd_LiveRing_drop : (["self", "place"] : List Str).Nodup := by decide +kernel
include T in
theorem g_LiveRing_drop : Mt PRG w K mg base 5 (He.ga K "LiveRing") "drop" (ef e_LiveRing_drop (p_LiveRing_drop K) (q_LiveRing_drop K)) := by
  refine mt_ef (N := ["self", "place"]) (ps := ["self", "place"]) T.h_LiveRing_drop T.fd_LiveRing_drop ⟨rfl, rfl, rfl, nd_LiveRing_drop, rfl, by decide +kernel, by decide +kernel⟩
    (fun _ _ _ _ _ _ us hl => match us, hl with | [_, _], _ => rfl) (fun _ => rfl) (fun cdv A outer s H E O a hr h => ?_)
  have nd := nd_LiveRing_drop
  obtain ⟨⟨l, dx, s⟩, x⟩ := a
  obtain ⟨⟨h0, h1⟩, h2⟩ := h
  obtain ⟨g1, g2⟩ := go_ok h1.tab h1.rg h2
  refine wps_retW (ew_mef (l, dx, s, ("drop" : Str), (goCh s.t s.r (.drop x)).1, (goCh s.t s.r (.drop x)).2) ((g_LiveRing_made T).mono (by decide)) T.c_LiveRing hr (ev_var 0) h0 (ea_cons ev_str (ea_cons (ev_sp (s.t, s.r, x) ((g_behind_drop T).mono (by decide)) hr (ea_cons (ev_fld (ev_var 0) T.c_LiveRing T.n_LiveRing_own_table h0 rfl) (ea_cons (ev_fld (ev_var 0) T.c_LiveRing T.n_LiveRing_own_ring h0 rfl) (ea_cons (ev_var 1) ea_nil))) ⟨h1.tab, h1.rg, h2⟩) ea_nil)) rfl ⟨h0, h1, g1, g2⟩ fun it O' h => h)
def g_tu : Rd × List Int → Rd × Ch := fun a => (a.1, .turn a.2)
def e_LiveRing_turn : Rd × List Int → List Im := fun a => [iP a.1.1, .d (L a.2)]
abbrev p_LiveRing_turn := pC g_tu
abbrev q_LiveRing_turn := qC g_tu
theorem nd_LiveRing_turn : (["self", "ring"] : List Str).Nodup := by decide +kernel
include T in
theorem g_LiveRing_turn : Mt PRG w K mg base 6 (He.ga K "LiveRing") "turn" (ef e_LiveRing_turn (p_LiveRing_turn K) (q_LiveRing_turn K)) := by
  refine mt_ef (N := ["self", "ring"]) (ps := ["self", "ring"]) T.h_LiveRing_turn T.fd_LiveRing_turn ⟨rfl, rfl, rfl, nd_LiveRing_turn, rfl, by decide +kernel, by decide +kernel⟩
    (fun _ _ _ _ _ _ us hl => match us, hl with | [_, _], _ => rfl) (fun _ => rfl) (fun cdv A outer s H E O a hr h => ?_)
  have nd := nd_LiveRing_turn
  obtain ⟨⟨l, dx, s⟩, x⟩ := a
  obtain ⟨⟨h0, h1⟩, h2⟩ := h
  obtain ⟨g1, g2⟩ := go_ok h1.tab h1.rg h2
  refine wps_retW (ew_mef (l, dx, s, ("turn" : Str), (goCh s.t s.r (.turn x)).1, (goCh s.t s.r (.turn x)).2) ((g_LiveRing_made T).mono (by decide)) T.c_LiveRing hr (ev_var 0) h0 (ea_cons ev_str (ea_cons (ev_sp (s.t, s.r, x) ((g_behind_turn T).mono (by decide)) hr (ea_cons (ev_fld (ev_var 0) T.c_LiveRing T.n_LiveRing_own_table h0 rfl) (ea_cons (ev_fld (ev_var 0) T.c_LiveRing T.n_LiveRing_own_ring h0 rfl) (ea_cons (ev_var 1) ea_nil))) ⟨h1.tab, h2⟩) ea_nil)) rfl ⟨h0, h1, g1, g2⟩ fun it O' h => h)
/-! ### undo -/
abbrev Ud := Addr × Addr × LS × (Str × List (List Int) × List Int) × List (Str × List (List Int) × List Int)
def e_LiveRing_undo : Ud → List Im := fun a => [iP a.1]
def p_LiveRing_undo (K : PySem.W.Frag) : Ud → Own → Prop := fun a O => At K O a.1 a.2.1 a.2.2.1 ∧ OkS a.2.2.1 ∧ a.2.2.1.st = a.2.2.2.2 ++ [a.2.2.2.1] ∧ Tab a.2.2.2.1.2.1 ∧ Rg a.2.2.2.1.2.1.length a.2.2.2.1.2.2
def q_LiveRing_undo (K : PySem.W.Frag) : Ud → Own → Im → Own → Prop := fun a O it O' => it = iB (skipB a.2.2.2.1.2.1 a.2.2.2.1.2.2) ∧ O' = setO O a.1 (lv (LC K) a.2.1 ⟨a.2.2.2.1.2.1, a.2.2.2.1.2.2, a.2.2.2.2⟩)
theorem atI_last {α : Type} {xs : List α} {x : α} : atI (xs ++ [x]) (-1) = some x := by
  unfold atI ixN
  rw [if_neg (by decide), if_pos (by simp; omega)]
  have : (-1 + ((xs ++ [x]).length : Int)).toNat = xs.length := by simp; omega
  rw [this]
  simp
theorem cutA_init {α : Type} {xs : List α} {x : α} : cutA (xs ++ [x]) none (some (-1)) = xs := by
  unfold cutA
  have e : HT.sIx (xs ++ [x]).length (xs ++ [x]).length (some (-1)) = xs.length := by
    simp [HT.sIx]
    try omega
  have e0 : HT.sIx (xs ++ [x]).length 0 none = 0 := rfl
  rw [e, e0]
  simp
theorem nd_LiveRing_undo : (["self", "name", "table", "ring"] : List Str).Nodup := by decide +kernel
include T in
theorem g_LiveRing_undo : Mt PRG w K mg base 3 (He.ga K "LiveRing") "undo" (ef e_LiveRing_undo (p_LiveRing_undo K) (q_LiveRing_undo K)) := by
  refine mt_ef (N := ["self", "name", "table", "ring"]) (ps := ["self"]) T.h_LiveRing_undo T.fd_LiveRing_undo ⟨rfl, rfl, rfl, nd_LiveRing_undo, rfl, by decide +kernel, by decide +kernel⟩
    (fun _ _ _ _ _ _ us hl => match us, hl with | [_], _ => rfl) (fun _ => rfl) (fun cdv A outer s H E O a hr h => ?_)
  have nd := nd_LiveRing_undo
  obtain ⟨l, dx, s, ⟨n, t, r⟩, st⟩ := a
  obtain ⟨h0, h1, h2, h3, h4⟩ := h
  have h2' : s.st = st ++ [(n, t, r)] := h2
  have hst : s.st.map stD = st.map stD ++ [stD (n, t, r)] := by rw [h2', List.map_append]; rfl
  refine wps_guard (tw_cmp (ec_eq hr.units (ev_fld (ev_var 0) T.c_LiveRing T.n_LiveRing_own_steps h0 rfl) (ev_list ed_nil (by decide)) (sh_st h1).ok rfl)) ?_ ?_
  · show PyData.eqv (.list (s.st.map stD)) (.list []) = false
    rw [hst]
    cases st <;> rfl
  refine wps_asg (it := iT [.str n, Tb t, L r]) (ev_ix (ev_fld (ev_var 0) T.c_LiveRing T.n_LiveRing_own_steps h0 rfl) (ev_neg ev_int) (show atI (s.st.map stD) (-1) = some (.tuple [.str n, Tb t, L r]) by rw [hst]; exact atI_last)) (eg_threeD 1 2 3 rfl nd) ?_
  refine wps_fld (it := .d (.list (st.map stD))) ((ev_sl (ev_fld (ev_var 0) T.c_LiveRing T.n_LiveRing_own_steps h0 rfl) po_n (po_s (ev_neg ev_int))).eq (show iL (cutA (s.st.map stD) none (some (-1))) = iL (st.map stD) by rw [hst, cutA_init])) (ev_var 0) h0 T.c_LiveRing T.n_LiveRing_own_steps ?_
  refine wps_fld (ev_var 2) (ev_var 0) setO_same T.c_LiveRing T.n_LiveRing_own_table ?_
  refine wps_fld (ev_var 3) (ev_var 0) setO_same T.c_LiveRing T.n_LiveRing_own_ring ?_
  rw [setO_setO, setO_setO]
  exact wps_ret (ev_sp (t, r) (g_skips T) hr (ea_cons (ev_var 2) (ea_cons (ev_var 3) ea_nil)) ⟨h3, h4⟩) ⟨rfl, rfl⟩
/-! ### tried -/
def e_LiveRing_tried : Rd × List Ch → List Im := fun a => [iP a.1.1]
def r_LiveRing_tried : Rd × List Ch → List Im := fun a => a.2.map fun c => .d (chD c)
def p_LiveRing_tried (K : PySem.W.Frag) : Rd × List Ch → Own → Prop := fun a O => p_rd K a.1 O ∧ a.2.length ≤ 1000 ∧ okPath a.1.2.2.t a.1.2.2.r a.2
def q_LiveRing_tried (K : PySem.W.Frag) : Rd × List Ch → Own → Im → Own → Prop := fun a O it O' => it = iL ((triedB a.1.2.2.t a.1.2.2.r a.2).map .bool) ∧ O' = O
theorem lr_LiveRing_tried (a : Rd × List Ch) (O : Own) (h : p_LiveRing_tried K a O) : (e_LiveRing_tried a).length + (r_LiveRing_tried a).length ≤ sizeLine := by
  have := h.2.1
  show 1 + (a.2.map _).length ≤ _
  rw [List.length_map]
  exact sz_le (by omega)
/-- where some calls lead to -/
def goAll (t : List (List Int)) (r : List Int) : List Ch → List (List Int) × List Int
  | [] => (t, r)
  | c :: cs => goAll (goCh t r c).1 (goCh t r c).2 cs
theorem goAll_snoc : ∀ (cs : List Ch) (t : List (List Int)) (r : List Int) (c : Ch), goAll t r (cs ++ [c]) = goCh (goAll t r cs).1 (goAll t r cs).2 c
  | [], _, _, _ => rfl
  | _ :: cs, t, r, c => goAll_snoc cs _ _ c
theorem triedB_snoc : ∀ (cs : List Ch) (t : List (List Int)) (r : List Int) (c : Ch), triedB t r (cs ++ [c]) = triedB t r cs ++ [skipB (goCh (goAll t r cs).1 (goAll t r cs).2 c).1 (goCh (goAll t r cs).1 (goAll t r cs).2 c).2]
  | [], _, _, _ => rfl
  | d :: cs, t, r, c => congrArg (skipB (goCh t r d).1 (goCh t r d).2 :: ·) (triedB_snoc cs _ _ c)
theorem okPath_snoc : ∀ {cs : List Ch} {t : List (List Int)} {r : List Int} {c : Ch}, okPath t r (cs ++ [c]) → okPath t r cs ∧ okCh (goAll t r cs).1 (goAll t r cs).2 c
  | [], _, _, _, h => ⟨trivial, h.1⟩
  | _ :: cs, t, r, c, h => ⟨⟨h.1, (okPath_snoc h.2).1⟩, (okPath_snoc h.2).2⟩
theorem okPath_app : ∀ {cs ds : List Ch} {t : List (List Int)} {r : List Int}, okPath t r (cs ++ ds) → okPath t r cs
  | [], _, _, _, _ => trivial
  | _ :: cs, ds, t, r, h => ⟨h.1, okPath_app h.2⟩
theorem goAll_ok : ∀ {cs : List Ch} {t : List (List Int)} {r : List Int}, Tab t → Rg t.length r → okPath t r cs → Tab (goAll t r cs).1 ∧ Rg (goAll t r cs).1.length (goAll t r cs).2
  | [], _, _, h0, h1, _ => ⟨h0, h1⟩
  | c :: cs, t, r, h0, h1, h => goAll_ok (cs := cs) (t := (goCh t r c).1) (r := (goCh t r c).2) (go_ok h0 h1 h.1).1 (go_ok h0 h1 h.1).2 h.2
theorem take_path {cs : List Ch} {k : Nat} {c : Ch} {t : List (List Int)} {r : List Int} (e : cs[k]? = some c) (h : okPath t r cs) : okPath t r (cs.take k ++ [c]) := by
  rw [← take_snoc e]
  exact okPath_app (ds := cs.drop (k + 1)) (by rw [List.take_append_drop]; exact h)
theorem tried_len : ∀ (cs : List Ch) (t : List (List Int)) (r : List Int), (triedB t r cs).length = cs.length
  | [], _, _ => rfl
  | _ :: cs, _, _ => congrArg Nat.succ (tried_len cs _ _)
theorem nd_LiveRing_tried : (["self", "changes", "table", "ring", "found", "change"] : List Str).Nodup := by decide +kernel
include T in
theorem g_LiveRing_tried : Mt PRG w K mg base 7 (He.ga K "LiveRing") "tried" (ef (fun a => e_LiveRing_tried a ++ r_LiveRing_tried a) (p_LiveRing_tried K) (q_LiveRing_tried K)) := by
  refine mt_star (N := ["self", "changes", "table", "ring", "found", "change"]) (ps := ["self"]) (pv := "changes") T.h_LiveRing_tried T.fd_LiveRing_tried ⟨rfl, rfl, rfl, nd_LiveRing_tried, rfl, by decide +kernel, by decide +kernel⟩
    (fun _ _ _ _ _ _ us rest hl => match us, hl, rest with | [_], _, [] => rfl | [_], _, _ :: _ => rfl) (fun _ => rfl) lr_LiveRing_tried (fun cdv A outer s H E O a hr h => ?_)
  have nd := nd_LiveRing_tried
  obtain ⟨⟨l, dx, s⟩, cs⟩ := a
  obtain ⟨⟨h0, h1⟩, h2, h3⟩ := h
  have hz : cs.length ≤ 1000 := h2
  refine wps_par 2 3 rfl nd (ea_cons (ev_fld (ev_var 0) T.c_LiveRing T.n_LiveRing_own_table h0 rfl) (ea_cons (ev_fld (ev_var 0) T.c_LiveRing T.n_LiveRing_own_ring h0 rfl) ea_nil)) ?_
  refine wps_setW 4 nd (ew_listP ea_nil (by decide) fun p hp => ?_)
  have hne : l ≠ p := fun e => by
    have h0' : O l = some _ := h0
    rw [e, hp] at h0'; cases h0'
  refine wps_for (vs := [5]) (as := cs) (enc := fun c => .d (chD c)) (fun k ρ' O' => ρ' = [some (iP l), some (.t (cs.map fun c => .d (chD c))), some (.d (Tb (goAll s.t s.r (cs.take k)).1)), some (.d (L (goAll s.t s.r (cs.take k)).2)), some (iP p), none] ∧ O' = setO O p (.lst ((triedB s.t s.r (cs.take k)).map iB))) rfl
    (itr_eq (itr_t (ev_var 1)) rfl) ⟨_, Le.refl _, rfl, rfl⟩ (fun _ _ _ _ _ => trivial) (fun k c ρ O' hc hI => ?_) (fun ρ O' hI => ?_)
  · obtain ⟨rfl, rfl⟩ := hI
    have hp3 := okPath_snoc (take_path hc h3)
    obtain ⟨g1, g2⟩ := goAll_ok h1.tab h1.rg hp3.1
    obtain ⟨g3, g4⟩ := go_ok g1 g2 hp3.2
    refine ⟨_, eg_name 5 nd, ?_⟩
    refine wps_asg (ev_sp ((goAll s.t s.r (cs.take k)).1, (goAll s.t s.r (cs.take k)).2, c) (g_behind T) hr (ea_cons (ev_var 2) (ea_cons (ev_var 3) (ea_cons (ev_var 5) ea_nil))) ⟨g1, g2, hp3.2⟩) (eg_pairD 2 3 rfl nd) ?_
    refine wps_do' (ew_mef (l, _, _) ((g_LiveRing_check_after T).mono (by decide)) T.c_LiveRing hr (ev_var 0) (by rw [setO_ne hne]; exact h0) (ea_cons (ev_var 2) (ea_cons (ev_var 3) ea_nil)) rfl trivial (fun it O' h => ?_))
    obtain ⟨rfl, rfl⟩ := h
    refine wps_cons (wp_append (ev_var 4) (Ev.w (ev_sp ((goCh (goAll s.t s.r (cs.take k)).1 (goAll s.t s.r (cs.take k)).2 c).1, (goCh (goAll s.t s.r (cs.take k)).1 (goAll s.t s.r (cs.take k)).2 c).2) ((g_skips T).mono (by decide)) hr (ea_cons (ev_var 2) (ea_cons (ev_var 3) ea_nil)) ⟨g3, g4⟩) ⟨_, setO_same, ?_, wps_nil ⟨_, le_mask [true, true, true, true, true, false] _, ?_, ?_⟩⟩) setO_same)
    · rw [List.length_map, tried_len, List.length_take]
      exact Nat.lt_of_le_of_lt (Nat.min_le_right _ _) (Nat.lt_of_le_of_lt hz (by decide))
    · rw [take_snoc hc, goAll_snoc]; rfl
    · rw [setO_setO, take_snoc hc, triedB_snoc, List.map_append]; rfl
  · obtain ⟨rfl, rfl⟩ := hI
    refine wps_retW (ew_freeze (ds := (triedB s.t s.r cs).map .bool) (ev_var 4) ?_ ⟨rfl, delO_setO hp⟩)
    rw [setO_same, List.take_length, List.map_map]; rfl
end
end D81


/-! G7: the law's well: draws -/
namespace D81
open PySem PySem.Spec PyProof.Rows L2 AL
/-- what stands in a well: digits, seed, number of draws (at most n) -/
structure Wl (n : Nat) (d s c : Int) : Prop where
  d0 : 0 ≤ d
  d1 : d < 2 ^ 12600
  s0 : 0 ≤ s
  s1 : s < 2 ^ 64
  c0 : 0 ≤ c
  c1 : c ≤ n
def wc (d s c : Int) : Cell := .lst [iI d, iI s, iI c]
theorem Wl.mono {n m : Nat} {d s c : Int} (h : Wl n d s c) (l : n ≤ m) : Wl m d s c := ⟨h.d0, h.d1, h.s0, h.s1, h.c0, by have := h.c1; omega⟩
/-- the well at p: some well with at most n draws -/
def WAt (n : Nat) (O : Own) (p : Addr) : Prop := ∃ d s c, O p = some (wc d s c) ∧ Wl n d s c
/-- the well at p goes on: to one with at most n draws -/
def WTo (n : Nat) (O O' : Own) (p : Addr) : Prop := ∃ d s c, O' = setO O p (wc d s c) ∧ Wl n d s c
theorem WTo.at {n : Nat} {O O' : Own} {p : Addr} (h : WTo n O O' p) : WAt n O' p := by
  obtain ⟨d, s, c, rfl, h⟩ := h
  exact ⟨d, s, c, setO_same, h⟩
theorem WTo.trans {n m : Nat} {O O1 O2 : Own} {p : Addr} (h : WTo n O O1 p) (k : WTo m O1 O2 p) : WTo m O O2 p := by
  obtain ⟨d, s, c, rfl, h⟩ := h
  obtain ⟨d', s', c', rfl, k⟩ := k
  exact ⟨d', s', c', setO_setO, k⟩
theorem WTo.self {n : Nat} {O : Own} {p : Addr} (h : WAt n O p) : WTo n O O p := by
  obtain ⟨d, s, c, e, h⟩ := h
  exact ⟨d, s, c, (setO_self e).symm, h⟩
theorem WTo.mono {n m : Nat} {O O' : Own} {p : Addr} (h : WTo n O O' p) (l : n ≤ m) : WTo m O O' p := by
  obtain ⟨d, s, c, e, h⟩ := h
  exact ⟨d, s, c, e, h.mono l⟩
theorem WTo.ne {n : Nat} {O O' : Own} {p q : Addr} (h : WTo n O O' p) (e : q ≠ p) : O' q = O q := by
  obtain ⟨d, s, c, rfl, h⟩ := h
  exact setO_ne e
theorem p18 : (10 : Int) ^ (18 : Int).toNat = 1000000000000000000 := by decide
theorem p24 : (10 : Int) ^ (24 : Int).toNat = 1000000000000000000000000 := by decide
theorem p30 : (10 : Int) ^ (30 : Int).toNat = 1000000000000000000000000000000 := by decide
theorem p60 : (10 : Int) ^ (60 : Int).toNat = 1000000000000000000000000000000000000000000000000000000000000 := by decide
theorem bitsW {x : Int} {k : Nat} (h : x.natAbs < 2 ^ k) (hk : k * 3 ≤ 134217728) : CPowW x 3 := by
  have h1 := PySem.intBits_le_iff.mpr h
  refine ⟨by decide, ?_⟩
  have h2 : Builtin.Int.intBits x * 3 ≤ 134217728 := Nat.le_trans (Nat.mul_le_mul_right 3 h1) hk
  omega
section
variable {w : World} {K : PySem.W.Frag} {mg : Str → Option Value} {base : Heap} (T : Wo w K mg)
theorem cp (i j : Int) (h : 0 ≤ j ∧ (Builtin.Int.intBits i : Int) * j ≤ 2 ^ 27) : CPowW i j := h
/-! ### _law_well -/
def e_law_well : List Int → List Im := fun a => [.s a]
def p_law_well : List Int → Own → Prop := fun a O => True
def q_law_well : List Int → Own → Im → Own → Prop := fun a O it O' => ∃ p d s, O p = none ∧ it = iP p ∧ O' = setO O p (wc d s 0) ∧ Wl 0 d s 0
theorem step_d {d x : Int} {k : Nat} (h : 0 ≤ d ∧ d < 2 ^ (200 * k)) (hx : 0 ≤ x ∧ x < 1000000000000000000000000000000000000000000000000000000000000) : 0 ≤ d * 1000000000000000000000000000000000000000000000000000000000000 + x ∧ d * 1000000000000000000000000000000000000000000000000000000000000 + x < 2 ^ (200 * (k + 1)) := by
  refine ⟨by have := Int.mul_nonneg h.1 (show (0 : Int) ≤ 1000000000000000000000000000000000000000000000000000000000000 by decide); omega, ?_⟩
  have h1 : (d + 1) * 1000000000000000000000000000000000000000000000000000000000000 ≤ 2 ^ (200 * k) * 1000000000000000000000000000000000000000000000000000000000000 := Int.mul_le_mul_of_nonneg_right (by omega) (by decide)
  have h2 : (2 : Int) ^ (200 * (k + 1)) = 2 ^ (200 * k) * 2 ^ 200 := by rw [← Int.pow_add]; rfl
  have h3 : (2 : Int) ^ (200 * k) * 1000000000000000000000000000000000000000000000000000000000000 ≤ 2 ^ (200 * k) * 2 ^ 200 := Int.mul_le_mul_of_nonneg_left (by decide) (Int.le_of_lt (Int.lt_of_le_of_lt h.1 h.2))
  rw [h2]
  rw [Int.add_mul] at h1
  omega
theorem natAbs_lt {d : Int} {k : Nat} (h : 0 ≤ d ∧ d < 2 ^ k) : d.natAbs < 2 ^ k := by
  have : ((d.natAbs : Nat) : Int) < ((2 ^ k : Nat) : Int) := by
    rw [Int.natAbs_of_nonneg h.1]
    push_cast
    exact h.2
  exact_mod_cast this
theorem nd_law_well : (["script", "digits", "seed", "cell"] : List Str).Nodup := by decide +kernel
include T in
theorem g_law_well : Fn PRG w K mg base 1 "_law_well" (ef e_law_well (p_law_well) (q_law_well)) := by
  refine fn_ef (N := ["script", "digits", "seed", "cell"]) (ps := ["script"]) T.m_law_well T.fd_law_well ⟨rfl, rfl, rfl, nd_law_well, rfl, by decide +kernel, by decide +kernel⟩
    (fun _ _ _ _ _ _ us hl => match us, hl with | [_], _ => rfl) (fun _ => rfl) (fun cdv A outer s H E O a hr h => ?_)
  have nd := nd_law_well
  refine wps_asg (ev_tup (ed_cons ev_int (ed_cons ev_int ed_nil)) (by decide)) (eg_pairD 1 2 rfl nd) ?_
  have hcut : (cutA a none (some (63 : Int))).length ≤ 63 := by
    unfold cutA
    rw [List.length_take]
    refine Nat.le_trans (Nat.min_le_left _ _) ?_
    have e : HT.sIx a.length 0 none = 0 := rfl
    rw [e]
    simp [HT.sIx]
    try omega
  refine wps_for (vs := [3]) (fun k ρ' O' => O' = O ∧ ∃ d s : Int, ρ' = [some (.s a), some (iI d), some (iI s), none] ∧ (0 ≤ d ∧ d < 2 ^ (200 * k)) ∧ (0 ≤ s ∧ s < 2 ^ 64)) rfl (itr_listL (ev_slS (ev_var 0) po_n (po_s ev_int))) ⟨_, Le.refl _, rfl, 0, 1299709, rfl, by decide, by decide⟩ (fun _ _ _ _ _ => trivial) (fun k z ρ O' hz hI => ?_) (fun ρ O' hI => ?_)
  · obtain ⟨rfl, d, s, rfl, hd, hs⟩ := hI
    have hk : k < 63 := Nat.lt_of_lt_of_le (List.getElem?_eq_some_iff.mp hz).1 hcut
    refine ⟨_, eg_name 3 nd, ?_⟩
    have seed : ∀ s' : Int, (0 : Int) ≤ s' % 999999999999999989 ∧ s' % 999999999999999989 < 2 ^ 64 := fun s' => by
      have h1 := Int.emod_nonneg s' (by decide : (999999999999999989 : Int) ≠ 0)
      have h2 := Int.emod_lt_of_pos s' (by decide : (0 : Int) < 999999999999999989)
      exact ⟨h1, Int.lt_trans h2 (by decide)⟩
    have up : ∀ k : Nat, (2 : Int) ^ (200 * k) ≤ 2 ^ (200 * (k + 1)) := fun k => by
      have h2 : (2 : Int) ^ (200 * (k + 1)) = 2 ^ (200 * k) * 2 ^ 200 := by rw [← Int.pow_add]; rfl
      have h0 : (0 : Int) < 2 ^ (200 * k) := Int.pow_pos (by decide)
      have h3 : (2 : Int) ^ (200 * k) * 1 ≤ 2 ^ (200 * k) * 2 ^ 200 := Int.mul_le_mul_of_nonneg_left (by decide) (Int.le_of_lt h0)
      rw [h2]; omega
    refine wps_cons (wp_if (tw_cmp (ec_ge (ev_abs T.b_abs (ev_var 3)) ((ev_pow ev_int ev_int (cp _ _ (by decide))).eq (congrArg iI p18)))) (fun h => ?_) (fun h => wps_nil ?_))
    · have hx := And.intro (Int.emod_nonneg ((z.natAbs : Nat) : Int) (by decide : (1000000000000000000000000000000000000000000000000000000000000 : Int) ≠ 0)) (Int.emod_lt_of_pos ((z.natAbs : Nat) : Int) (by decide : (0 : Int) < 1000000000000000000000000000000000000000000000000000000000000))
      have hd' := step_d hd hx
      have hk2 : 200 * k ≤ 12600 := by omega
      refine wps_set 1 nd (ev_add (ev_mul (ev_var 1) ((ev_pow ev_int ev_int (cp _ _ (by decide))).eq (congrArg iI p60)) (wide_mul (a := 200 * k + 1) (b := 200) (Nat.lt_of_lt_of_le (natAbs_lt hd) (Nat.pow_le_pow_right (by decide) (by omega))) (by decide) (by omega) (by decide) (by omega))) (ev_mod (ev_intI T.b_int (ev_abs T.b_abs (ev_var 3))) ((ev_pow ev_int ev_int (cp _ _ (by decide))).eq (congrArg iI p60)) (by decide))) ?_
      refine wps_nil ?_
      refine wps_set 2 nd (ev_mod (ev_intI T.b_int (ev_add (ev_add (ev_mul (ev_var 2) ev_int (wide_mul (a := 64) (b := 17) (natAbs_lt hs) (by decide) (by decide) (by decide) (by decide))) (ev_mod (ev_intI T.b_int (ev_var 3)) ev_int (by decide))) ev_int)) ev_int (by decide)) ?_
      exact wps_nil ⟨_, le_mask [true, true, true, false] _, rfl, _, _, rfl, hd', seed _⟩
    · refine wps_set 2 nd (ev_mod (ev_intI T.b_int (ev_add (ev_add (ev_mul (ev_var 2) ev_int (wide_mul (a := 64) (b := 17) (natAbs_lt hs) (by decide) (by decide) (by decide) (by decide))) (ev_mod (ev_intI T.b_int (ev_var 3)) ev_int (by decide))) ev_int)) ev_int (by decide)) ?_
      exact wps_nil ⟨_, le_mask [true, true, true, false] _, rfl, _, _, rfl, ⟨hd.1, Int.lt_of_lt_of_le hd.2 (up k)⟩, seed _⟩
  · obtain ⟨rfl, d, s, rfl, hd, hs⟩ := hI
    refine wps_retW (ew_listP (ea_cons (ev_var 1) (ea_cons (ev_var 2) (ea_cons ev_int ea_nil))) (show 3 ≤ sizeLine by decide) fun p hp => ⟨p, d, s, hp, rfl, rfl, ?_⟩)
    refine ⟨hd.1, Int.lt_of_lt_of_le hd.2 ?_, hs.1, hs.2, Int.le_refl _, Int.le_refl _⟩
    have e : (200 * (cutA a none (some (63 : Int))).length) ≤ 12600 := by omega
    exact_mod_cast Nat.pow_le_pow_right (by decide : 0 < 2) e
/-! ### _law_draw -/
abbrev Dr := Addr × Int × Nat
def e_law_draw : Dr → List Im := fun a => [iP a.1, iI a.2.1]
def p_law_draw0 : Dr → Own → Prop := fun a O => WAt a.2.2 O a.1 ∧ a.2.2 ≤ 2 ^ 100 ∧ 0 < a.2.1 ∧ a.2.1 ≤ 1000000000000000000000000
def q_law_draw : Dr → Own → Im → Own → Prop := fun a O it O' => ∃ v, it = iI v ∧ (0 ≤ v ∧ v < a.2.1) ∧ WTo (a.2.2 + 10) O O' a.1
theorem nd_law_draw : (["well", "many", "found", "turn", "mixed"] : List Str).Nodup := by decide +kernel
theorem emod_in (x : Int) {m : Int} (h : 0 < m) : 0 ≤ x % m ∧ x % m < m := ⟨Int.emod_nonneg x (by omega), Int.emod_lt_of_pos x h⟩
include T in
theorem g_law_draw0 : Fn PRG w K mg base 1 "_law_draw" (ef e_law_draw p_law_draw0 q_law_draw) := by
  refine fn_ef (N := ["well", "many", "found", "turn", "mixed"]) (ps := ["well", "many"]) T.m_law_draw T.fd_law_draw ⟨rfl, rfl, rfl, nd_law_draw, rfl, by decide +kernel, by decide +kernel⟩
    (fun _ _ _ _ _ _ us hl => match us, hl with | [_, _], _ => rfl) (fun _ => rfl) (fun cdv A outer s H E O a hr h => ?_)
  have nd := nd_law_draw
  obtain ⟨p, m, n⟩ := a
  obtain ⟨⟨d, sd, c, hO, hW⟩, hn, hm, hm2⟩ := h
  have hm0 : 0 < m := hm
  have hm2' : m ≤ 1000000000000000000000000 := hm2
  have hn' : n ≤ 2 ^ 100 := hn
  refine wps_guard (tw_cmp (ec_gt (ev_var 1) ((ev_pow ev_int ev_int (cp _ _ (by decide))).eq (congrArg iI p24)))) (decide_eq_false (show ¬ (1000000000000000000000000 < m) by omega)) ?_
  refine wps_cons (wp_if (tw_cmp (ec_gt (ev_ixP (ev_var 0) ev_int hO rfl) ev_int)) (fun h => ?_) (fun h => wps_nil ?_))
  · have hd : 0 < d := of_decide_eq_true h
    refine wps_set 2 nd (ev_mod (ev_intI T.b_int (ev_ixP (ev_var 0) ev_int hO rfl)) (ev_var 1) hm0) ?_
    refine wps_sub (it := iI (d / m)) (ev_fdiv (ev_ixP (ev_var 0) ev_int hO rfl) (ev_var 1) (wide_div (b := 80) hm0 (natAbs_lt ⟨by omega, Int.lt_of_le_of_lt hm2' (by decide)⟩) (by decide) (by decide))) (ev_var 0) ev_int hO (j := 0) rfl ?_
    refine wps_ret (ev_var 2) ⟨d % m, rfl, emod_in d hm0, d / m, sd, c, rfl, ?_⟩
    exact { hW.mono (Nat.le_add_right _ 10) with d0 := Int.ediv_nonneg hW.d0 (by omega), d1 := Int.lt_of_le_of_lt (Int.ediv_le_self _ hW.d0) hW.d1 }
  · have hc1 : c ≤ (n : Int) := hW.c1
    have hc0 := hW.c0
    have hcb : 0 ≤ c + 1 ∧ c + 1 < 2 ^ 101 := by
      have : (n : Int) ≤ 2 ^ 100 := by exact_mod_cast hn'
      constructor
      · omega
      · have h2 : (2 : Int) ^ 101 = 2 ^ 100 + 2 ^ 100 := by decide
        have h3 : (1 : Int) < 2 ^ 100 := by decide
        omega
    refine wps_sub (it := iI (c + 1)) (ev_add (ev_ixP (ev_var 0) ev_int hO rfl) ev_int) (ev_var 0) ev_int hO (j := 2) rfl ?_
    have hb : ∀ (y : Int) (k : Int), (0 ≤ y ∧ y < 2 ^ 200) → (0 ≤ k ∧ k < 2 ^ 64) → (y + k * (c + 1)).natAbs < 2 ^ 201 := fun y k hy hk => by
      have h1 := wide_lt (natAbs_lt hk) (natAbs_lt hcb)
      have h2 := natAbs_lt hy
      have h3 := Int.natAbs_add_le y (k * (c + 1))
      have h4 : (2 : Nat) ^ (64 + 101) ≤ 2 ^ 200 := Nat.pow_le_pow_right (by decide) (by decide)
      have h5 : (2 : Nat) ^ 201 = 2 ^ 200 + 2 ^ 200 := by decide
      omega
    have hs : 0 ≤ sd ∧ sd < 2 ^ 200 := ⟨hW.s0, Int.lt_trans hW.s1 (by decide)⟩
    refine wps_set 4 nd (ev_mod (ev_intI T.b_int (ev_pow (ev_add (ev_ixP (ev_var 0) ev_int setO_same rfl) (ev_mul ev_int (ev_ixP (ev_var 0) ev_int setO_same rfl) (wide_mul (a := 64) (b := 101) (by decide) (natAbs_lt hcb) (by decide) (by decide) (by decide)))) ev_int (bitsW (k := 201) (hb _ _ hs (by decide)) (by decide)))) ev_int (by decide)) ?_
    refine wps_set 4 nd (ev_mod (ev_intI T.b_int (ev_pow (ev_add (ev_var 4) (ev_mul ev_int (ev_ixP (ev_var 0) ev_int setO_same rfl) (wide_mul (a := 64) (b := 101) (by decide) (natAbs_lt hcb) (by decide) (by decide) (by decide)))) ev_int (bitsW (k := 201) (hb _ _ ⟨(emod_in _ (by decide)).1, Int.lt_trans (emod_in _ (by decide)).2 (by decide)⟩ (by decide)) (by decide)))) ev_int (by decide)) ?_
    refine wps_ret (ev_mod (ev_intI T.b_int (ev_fdiv (ev_var 4) ev_int (wide_div (b := 64) (by decide) (by decide) (by decide) (by decide)))) (ev_var 1) hm0) ⟨_, rfl, emod_in _ hm0, d, sd, c + 1, rfl, ?_⟩
    exact { hW with c0 := by omega, c1 := by show c + 1 ≤ ((n + 10 : Nat) : Int); push_cast; omega }
def p_law_draw1 : Dr → Own → Prop := fun a O => WAt a.2.2 O a.1 ∧ a.2.2 ≤ 2 ^ 99 ∧ 1000000000000000000000000 < a.2.1 ∧ a.2.1 < 2 ^ 110
def q_law_draw1 : Dr → Own → Im → Own → Prop := fun a O it O' => ∃ v, it = iI v ∧ (0 ≤ v ∧ v < a.2.1) ∧ WTo (a.2.2 + 30) O O' a.1
include T in
theorem g_law_draw1 : Fn PRG w K mg base 2 "_law_draw" (ef e_law_draw p_law_draw1 q_law_draw1) := by
  refine fn_ef (N := ["well", "many", "found", "turn", "mixed"]) (ps := ["well", "many"]) T.m_law_draw T.fd_law_draw ⟨rfl, rfl, rfl, nd_law_draw, rfl, by decide +kernel, by decide +kernel⟩
    (fun _ _ _ _ _ _ us hl => match us, hl with | [_, _], _ => rfl) (fun _ => rfl) (fun cdv A outer s H E O a hr h => ?_)
  have nd := nd_law_draw
  obtain ⟨p, m, n⟩ := a
  obtain ⟨hA, hn, hm, hm2⟩ := h
  dsimp only [e_law_draw, q_law_draw1]
  have hn' : n ≤ 2 ^ 99 := hn
  have hm' : 1000000000000000000000000 < m := hm
  have hm2' : m < 2 ^ 110 := hm2
  have hbits : Builtin.Int.intBits m ≤ 110 := PySem.intBits_le_iff.mpr (natAbs_lt ⟨by omega, hm2'⟩)
  have hk : (1 + ((Builtin.Int.intBits m : Nat) : Int) / 79).toNat ≤ 2 := by omega
  refine wps_cons (wp_if (tw_cmp (ec_gt (ev_var 1) ((ev_pow ev_int ev_int (cp _ _ (by decide))).eq (congrArg iI p24)))) (fun _ => ?_) (fun h => absurd (decide_eq_true hm') (by rw [h]; decide)))
  refine wps_set 2 nd ev_int ?_
  refine wps_for (vs := [3]) (fun k ρ' O' => ∃ f : Int, ρ' = [some (iP p), some (iI m), some (iI f), none, none] ∧ (0 ≤ f ∧ f < 2 ^ (80 * k)) ∧ WTo (n + 10 * k) O O' p) rfl (itr_range1 T.b_range (ev_add ev_int (ev_fdiv (ev_bits (ev_var 1)) ev_int (wide_div (b := 7) (by decide) (by decide) (by decide) (by decide)))) (by omega)) ⟨_, Le.refl _, 0, rfl, by decide, (WTo.self hA).mono (Nat.le_refl _)⟩ (fun _ _ _ _ _ => trivial) (fun k z ρ O' hz hI => ?_) (fun ρ O' hI => ?_)
  · obtain ⟨f, rfl, hf, hO'⟩ := hI
    have hk2 : k < 2 := by
      have := (List.getElem?_eq_some_iff.mp hz).1
      rw [rangeI_len] at this
      omega
    have hf2 : f.natAbs < 2 ^ 160 := Nat.lt_of_lt_of_le (natAbs_lt hf) (Nat.pow_le_pow_right (by decide) (by omega))
    have hN : n + 10 * k ≤ 2 ^ 100 := by
      have : (2 : Nat) ^ 100 = 2 ^ 99 + 2 ^ 99 := by decide
      have : (20 : Nat) ≤ 2 ^ 99 := by decide
      omega
    refine ⟨_, eg_name 3 nd, wps_setW 2 nd ?_⟩
    refine ew_addW (ev_mul (ev_var 2) ((ev_pow ev_int ev_int (cp _ _ (by decide))).eq (congrArg iI p24)) (wide_mul (a := 160) (b := 80) hf2 (by decide) (by decide) (by decide) (by decide))) (ew_ef (p, 1000000000000000000000000, n + 10 * k) ((g_law_draw0 T).mono (by decide)) hr (ea_cons (ev_var 0) (ea_cons ((ev_pow ev_int ev_int (cp _ _ (by decide))).eq (congrArg iI p24)) ea_nil)) ⟨hO'.at, hN, show (0 : Int) < 1000000000000000000000000 by decide, Int.le_refl _⟩ fun it O'' hq => ?_)
    obtain ⟨v, rfl, hv, hW⟩ := hq
    refine ⟨v, rfl, wps_nil ⟨_, le_mask [true, true, true, false, false] _, _, rfl, ?_, (hO'.trans hW).mono (show n + 10 * k + 10 ≤ n + 10 * (k + 1) by omega)⟩⟩
    have hv' : 0 ≤ v ∧ v < 1000000000000000000000000 := hv
    have h2 : (2 : Int) ^ (80 * (k + 1)) = 2 ^ (80 * k) * 2 ^ 80 := by rw [← Int.pow_add]; rfl
    have h1 : (f + 1) * 1000000000000000000000000 ≤ 2 ^ (80 * k) * 1000000000000000000000000 := Int.mul_le_mul_of_nonneg_right (by omega) (by decide)
    have h3 : (2 : Int) ^ (80 * k) * 1000000000000000000000000 ≤ 2 ^ (80 * k) * 2 ^ 80 := Int.mul_le_mul_of_nonneg_left (by decide) (Int.le_of_lt (Int.lt_of_le_of_lt hf.1 hf.2))
    rw [Int.add_mul] at h1
    refine ⟨?_, ?_⟩
    · have := Int.mul_nonneg hf.1 (show (0 : Int) ≤ 1000000000000000000000000 by decide)
      omega
    · rw [h2]; omega
  · obtain ⟨f, rfl, hf, hO'⟩ := hI
    refine wps_ret (ev_mod (ev_intI T.b_int (ev_var 2)) (ev_var 1) (by omega)) ⟨_, rfl, emod_in _ (by omega), hO'.mono ?_⟩
    rw [rangeI_len]
    show n + 10 * _ ≤ n + 30
    omega
def p_law_draw : Dr → Own → Prop := fun a O => WAt a.2.2 O a.1 ∧ a.2.2 ≤ 2 ^ 99 ∧ 0 < a.2.1 ∧ a.2.1 < 2 ^ 110
include T in
theorem g_law_draw : Fn PRG w K mg base 2 "_law_draw" (ef e_law_draw p_law_draw q_law_draw1) := by
  refine Fn.imp (((g_law_draw0 T).mono (by decide : 1 ≤ 2)).or (g_law_draw1 T)) fun is O R h => ?_
  obtain ⟨a, rfl, ⟨h1, h2, h3, h4⟩, z⟩ := h
  by_cases hb : a.2.1 ≤ 1000000000000000000000000
  · refine .inl ⟨a, rfl, ⟨h1, Nat.le_trans h2 (by decide), h3, hb⟩, fun it O' hq => z it O' ?_⟩
    obtain ⟨v, e, hv, hW⟩ := hq
    exact ⟨v, e, hv, hW.mono (by omega)⟩
  · exact .inr ⟨a, rfl, ⟨h1, h2, by omega, h4⟩, z⟩
end
end D81


/-! G8: the law's sequences and tables -/
namespace D81
open PySem PySem.Spec PyProof.Rows L2 AL
theorem split_at {α : Type} {xs : List α} {j : Nat} {x : α} (h : xs[j]? = some x) : xs = xs.take j ++ x :: xs.drop (j + 1) := by
  obtain ⟨h1, h2⟩ := List.getElem?_eq_some_iff.mp h
  rw [← h2, ← List.drop_eq_getElem_cons h1, List.take_append_drop]
section
variable {w : World} {K : PySem.W.Frag} {mg : Str → Option Value} {base : Heap} (T : Wo w K mg)
abbrev Mx := Addr × List PyData × Nat
def e_law_mixed : Mx → List Im := fun a => [iP a.1, iL a.2.1]
def p_law_mixed : Mx → Own → Prop := fun a O => WAt a.2.2 O a.1 ∧ a.2.2 ≤ 2 ^ 98 ∧ a.2.1.length ≤ 1000
def q_law_mixed : Mx → Own → Im → Own → Prop := fun a O it O' => ∃ es, it = iL es ∧ es.Perm a.2.1 ∧ WTo (a.2.2 + 30 * a.2.1.length) O O' a.1
theorem nd_law_mixed : (["well", "items", "left", "found", "turn", "at"] : List Str).Nodup := by decide +kernel
include T in
theorem g_law_mixed : Fn PRG w K mg base 3 "_law_mixed" (ef e_law_mixed (p_law_mixed) (q_law_mixed)) := by
  refine fn_ef (N := ["well", "items", "left", "found", "turn", "at"]) (ps := ["well", "items"]) T.m_law_mixed T.fd_law_mixed ⟨rfl, rfl, rfl, nd_law_mixed, rfl, by decide +kernel, by decide +kernel⟩
    (fun _ _ _ _ _ _ us hl => match us, hl with | [_, _], _ => rfl) (fun _ => rfl) (fun cdv A outer s H E O a hr h => ?_)
  have nd := nd_law_mixed
  obtain ⟨p, ds, n⟩ := a
  obtain ⟨hA, hn, hz⟩ := h
  dsimp only [e_law_mixed, q_law_mixed] at *
  refine wps_parW 2 3 rfl nd (aw_cons (Ev.w (ev_listL T.b_list (ev_var 1)) (aw_cons (ew_listP ea_nil (by decide) fun q hq => aw_nil ⟨_, _, rfl, ?_⟩))))
  have hpq : p ≠ q := fun e => by
    obtain ⟨d, s, c, h, _⟩ := hA
    rw [e, hq] at h; cases h
  refine wps_for (vs := [4]) (fun k ρ' O' => ∃ ls fs O1, ρ' = [some (iP p), some (iL ds), some (iL ls), some (iP q), none, none] ∧ O' = setO O1 q (.lst (fs.map .d)) ∧ O1 q = none ∧ WTo (n + 30 * k) O O1 p ∧ (fs ++ ls).Perm ds ∧ fs.length = k ∧ ls.length + k = ds.length) rfl
    (itr_range1 T.b_range (ev_len T.b_len (ev_var 1)) (by omega)) ⟨_, Le.refl _, ds, [], O, rfl, rfl, hq, (WTo.self hA).mono (Nat.le_refl _), .refl _, rfl, rfl⟩ (fun _ _ _ _ _ => trivial) (fun k z ρ O' hk hI => ?_) (fun ρ O' hI => ?_)
  · obtain ⟨ls, fs, O1, rfl, rfl, hq1, hW, hp, hfl, hll⟩ := hI
    have hkl : k < ds.length := by
      have := (List.getElem?_eq_some_iff.mp hk).1
      rw [rangeI_len] at this
      omega
    have hAt : WAt (n + 30 * k) (setO O1 q (.lst (fs.map .d))) p := by
      obtain ⟨d, s, c, h1, h2⟩ := hW.at
      exact ⟨d, s, c, by rw [setO_ne hpq]; exact h1, h2⟩
    have hN : n + 30 * k ≤ 2 ^ 99 := by
      have : (2 : Nat) ^ 99 = 2 ^ 98 + 2 ^ 98 := by decide
      have : (30000 : Nat) ≤ 2 ^ 98 := by decide
      omega
    refine ⟨_, eg_name 4 nd, ?_⟩
    refine wps_setW 5 nd (ew_ef (p, (ls.length : Int), n + 30 * k) (g_law_draw T) hr (ea_cons (ev_var 0) (ea_cons (ev_len T.b_len (ev_var 2)) ea_nil)) ⟨hAt, hN, show (0 : Int) < (ls.length : Nat) by omega, show ((ls.length : Nat) : Int) < 2 ^ 110 by omega⟩ fun it O'' hq' => ?_)
    obtain ⟨v, rfl, hv, d', s', c', rfl, hW'⟩ := hq'
    dsimp only at hv
    have hO2 : setO (setO O1 q (.lst (fs.map .d))) p (wc d' s' c') = setO (setO O1 p (wc d' s' c')) q (.lst (fs.map .d)) := setO_comm (Ne.symm hpq)
    rw [hO2]
    have hvl : v.toNat < ls.length := by omega
    have hx : ls[v.toNat]? = some ls[v.toNat] := by simp [hvl]
    have hat : atI ls v = some ls[v.toNat] := by rw [atI_nat' (by omega)]; exact hx
    refine wps_cons (wp_append (ev_var 3) (Ev.w (ev_ix (ev_var 2) (ev_var 5) hat) ⟨_, setO_same, ?_, ?_⟩) setO_same)
    · rw [List.length_map]
      exact Nat.lt_of_lt_of_le (show fs.length < 100000 by omega) (sz_le (Nat.le_refl _))
    rw [setO_setO]
    refine wps_set 2 nd (ev_cat (ev_sl (ev_var 2) po_n (po_s (ev_var 5))) (ev_sl (ev_var 2) (po_s (ev_add (ev_var 5) ev_int)) po_n) ?_) ?_
    · have := cutA_len ls none (some v)
      have := cutA_len ls (some (v + 1)) none
      exact sz_le (by omega)
    have hsp := split_at hx
    rw [cut_to (by omega), cut_from (by omega), show (v + 1).toNat = v.toNat + 1 by omega]
    refine wps_nil ⟨_, le_mask [true, true, true, true, false, false] _, _, fs ++ [ls[v.toNat]], setO O1 p (wc d' s' c'), rfl, by rw [List.map_append]; rfl, by rw [setO_ne (Ne.symm hpq)]; exact hq1, (hW.trans ⟨d', s', c', rfl, hW'⟩).mono (by show n + 30 * k + 30 ≤ n + 30 * (k + 1); omega), ?_, by simp [hfl], ?_⟩
    · refine List.Perm.trans ?_ hp
      rw [List.append_assoc]
      refine List.Perm.append_left fs ?_
      conv => rhs; rw [hsp]
      exact (List.perm_middle (a := ls[v.toNat]) (l₁ := ls.take v.toNat) (l₂ := ls.drop (v.toNat + 1))).symm
    · rw [List.length_append, List.length_take, List.length_drop]
      omega
  · obtain ⟨ls, fs, O1, rfl, rfl, hq1, hW, hp, hfl, hll⟩ := hI
    rw [rangeI_len] at hW hfl hll
    have hln : ls = [] := List.length_eq_zero_iff.mp (by omega)
    subst hln
    rw [List.append_nil] at hp
    refine wps_retW (ew_freeze (ev_var 3) setO_same ⟨fs, rfl, hp, ?_⟩)
    rw [delO_setO hq1]
    exact hW.mono (by show n + 30 * _ ≤ n + 30 * ds.length; omega)
end
end D81


/-! G9: the law's tables; changes by calls and by functions -/
namespace D81
open PySem PySem.Spec PyProof.Rows L2 AL
theorem _root_.AL.Mu.keep {O0 O : Own} {ps : List Addr} {rows : List (List Int)} (m : Mu O0 O ps rows) {b : Addr} (h : O0 b ≠ none) : O b = O0 b := m.out b fun hb => h (m.fr b hb)
theorem rep_zero (n : Nat) : (List.replicate n [PyData.int 0]).flatten.map Im.d = (List.replicate n (0 : Int)).map iI := by
  induction n with
  | zero => rfl
  | succ n ih => rw [List.replicate_succ, List.flatten_cons, List.map_append, ih]; rfl
theorem zero_mk (n : Nat) : List.replicate n (List.replicate n (0 : Int)) = mkT n fun _ _ => 0 := by
  unfold mkT
  apply List.ext_getElem?
  intro i
  by_cases h : i < n
  · rw [List.getElem?_replicate, if_pos h, List.getElem?_map, List.getElem?_range h]
    show some _ = some _
    congr 1
    apply List.ext_getElem?
    intro j
    by_cases h2 : j < n
    · rw [List.getElem?_replicate, if_pos h2, List.getElem?_map, List.getElem?_range h2]; rfl
    · rw [List.getElem?_eq_none (by simp; omega), List.getElem?_eq_none (by simp; omega)]
  · rw [List.getElem?_eq_none (by simp; omega), List.getElem?_eq_none (by simp; omega)]
theorem tab_zero {n : Nat} (h1 : 1 ≤ n) (h2 : n ≤ 30) : Tab (List.replicate n (List.replicate n (0 : Int))) := by
  rw [zero_mk]
  exact mkT_tab h1 h2 (fun _ _ _ _ => by decide) (fun _ _ => rfl) (fun _ _ _ _ => rfl)
theorem atL_set {r : List Int} {j v : Int} (h : 0 ≤ j ∧ j < r.length) : atI ((r.set j.toNat v).map iI) j = some (iI v) := by
  rw [atI_nat' (by rw [List.length_map, List.length_set]; exact h), List.getElem?_map, List.getElem?_set_self (by omega)]; rfl
section
variable {w : World} {K : PySem.W.Frag} {mg : Str → Option Value} {base : Heap} (T : Wo w K mg)
abbrev An := Addr × Nat × Nat
def e_law_any : An → List Im := fun a => [iP a.1, iI a.2.1]
def p_law_any : An → Own → Prop := fun a O => WAt a.2.2 O a.1 ∧ a.2.2 ≤ 2 ^ 97 ∧ 1 ≤ a.2.1 ∧ a.2.1 ≤ 30
def q_law_any : An → Own → Im → Own → Prop := fun a O it O' => ∃ t, it = .d (Tb t) ∧ Tab t ∧ t.length = a.2.1 ∧ WTo (a.2.2 + 100000) O O' a.1
theorem nd_law_any : (["well", "count", "great", "rows", "place", "one", "row", "other", "back"] : List Str).Nodup := by decide +kernel
include T in
theorem g_law_any : Fn PRG w K mg base 3 "_law_any" (ef e_law_any (p_law_any) (q_law_any)) := by
  refine fn_ef (N := ["well", "count", "great", "rows", "place", "one", "row", "other", "back"]) (ps := ["well", "count"]) T.m_law_any T.fd_law_any ⟨rfl, rfl, rfl, nd_law_any, rfl, by decide +kernel, by decide +kernel⟩
    (fun _ _ _ _ _ _ us hl => match us, hl with | [_, _], _ => rfl) (fun _ => rfl) (fun cdv A outer s H E O a hr h => ?_)
  have nd := nd_law_any
  obtain ⟨p, cn, n⟩ := a
  obtain ⟨hA, hn, h1, h2⟩ := h
  dsimp only [e_law_any, q_law_any] at *
  refine wps_setW 2 nd (ew_ixLW (ev_listI (ei_cons ev_int (ei_cons ev_int (ei_cons ((ev_pow ev_int ev_int (cp _ _ (by decide))).eq (congrArg iI p30)) ei_nil))) (show 3 ≤ sizeLine by decide)) (ew_ef (p, 3, n) (g_law_draw T) hr (ea_cons (ev_var 0) (ea_cons ev_int ea_nil)) ⟨hA, Nat.le_trans hn (by decide), show (0 : Int) < 3 by decide, show (3 : Int) < 2 ^ 110 by decide⟩ fun it O1 hq => ?_))
  obtain ⟨v, rfl, hv, hW⟩ := hq
  dsimp only at hv hW
  refine ⟨v, rfl, by constructor <;> simp <;> omega, ?_⟩
  have hg : ∃ g : Int, atL [4, 50, 1000000000000000000000000000000] v = g ∧ 0 < g ∧ g ≤ 1000000000000000000000000000000 := by
    have : v = 0 ∨ v = 1 ∨ v = 2 := by omega
    rcases this with rfl | rfl | rfl
    · exact ⟨4, rfl, by decide, by decide⟩
    · exact ⟨50, rfl, by decide, by decide⟩
    · exact ⟨1000000000000000000000000000000, rfl, by decide, by decide⟩
  obtain ⟨g, hge, hg0, hg1⟩ := hg
  rw [hge]
  refine wps_lcE (own := [("place", 4)]) 3 (fun k O' acc => ∃ ps, acc = ps.map iP ∧ Mu O1 O' ps (List.replicate k (List.replicate cn 0))) rfl nd (blkOk_by (own := [("place", 4)]) (by rfl)) (itr_range1 T.b_range (ev_var 1) (by omega)) (by rw [rangeI_len]; exact sz_le (by omega)) ⟨[], rfl, Mu.nil⟩ (fun _ _ _ _ _ => trivial)
    (fun k z O' acc hz hI => ⟨_, fun _ _ _ _ _ => eg_name 4 nd, fun _ _ _ _ _ => ew_repP (ev_list (ed_cons ev_int ed_nil) (by decide)) (ev_var 1) (by omega) (sz_le (by simp; omega)) fun q hq => ?_⟩) (fun O' acc hI => ?_)
  · obtain ⟨ps, rfl, m⟩ := hI
    refine ⟨ps ++ [q], by rw [List.map_append]; rfl, ?_⟩
    rw [show ((cn : Nat) : Int).toNat = cn by omega, rep_zero, List.replicate_succ']
    exact m.new hq
  obtain ⟨ps0, rfl, m0⟩ := hI
  rw [rangeI_len, show (((cn : Nat) : Int) - 0).toNat = cn by omega] at m0
  refine ⟨_, as_self, ?_⟩
  refine wps_for (vs := [5]) (fun k ρ' O' => ∃ ps t O2, ρ' = [some (iP p), some (iI cn), some (iI g), some (.l (ps.map iP)), none, none, none, none, none] ∧ Mu O2 O' ps t ∧ Tab t ∧ t.length = cn ∧ WTo (n + 30 + 900 * k) O O2 p) rfl (itr_range1 T.b_range (ev_var 1) (by omega)) ⟨_, le_mask [true, true, true, true, false, false, false, false, false] _, ps0, _, O1, rfl, m0, tab_zero h1 h2, by simp, hW.mono (Nat.le_refl _)⟩ (fun _ _ _ _ _ => trivial) (fun k one ρ O' hk hI => ?_) (fun ρ O' hI => ?_)
  · obtain ⟨ps, t, O2, rfl, m, ht, htl, hW2⟩ := hI
    have hk1 := mem_rangeI.mp (List.mem_of_getElem? hk)
    have hkl : k < cn := by
      have := (List.getElem?_eq_some_iff.mp hk).1
      rw [rangeI_len] at this
      omega
    have hpl : ps.length = cn := m.len.trans htl
    obtain ⟨q, hq, _⟩ := m.at (atR_nat (t := t) (i := one) (by omega))
    refine ⟨_, eg_name 5 nd, ?_⟩
    refine wps_set 6 nd (ev_ixl (ev_var 3) (ev_var 5) (ptr_at (by omega) hq)) ?_
    refine wps_for (vs := [7]) (fun j ρ' O' => ∃ t O2, ρ' = [some (iP p), some (iI cn), some (iI g), some (.l (ps.map iP)), none, some (iI one), some (iP q), none, none] ∧ Mu O2 O' ps t ∧ Tab t ∧ t.length = cn ∧ WTo (n + 30 + 900 * k + 30 * j) O O2 p) rfl (itr_range1 T.b_range (ev_var 5) (by omega)) ⟨_, le_mask [true, true, true, true, false, true, true, false, false] _, t, O2, rfl, m, ht, htl, hW2.mono (Nat.le_refl _)⟩ (fun _ _ _ _ _ => trivial) (fun j other ρ O' hj hI => ?_) (fun ρ O' hI => ?_)
    · obtain ⟨t, O2, rfl, m, ht, htl, hW2⟩ := hI
      have hj1 := mem_rangeI.mp (List.mem_of_getElem? hj)
      have hjl : j < one.toNat := by
        have := (List.getElem?_eq_some_iff.mp hj).1
        rw [rangeI_len] at this
        omega
      have hO2 : O2 p ≠ none := by
        obtain ⟨d, s, c, e, _⟩ := hW2.at
        rw [e]; simp
      have hAt : WAt (n + 30 + 900 * k + 30 * j) O' p := by
        obtain ⟨d, s, c, e, hw⟩ := hW2.at
        exact ⟨d, s, c, by rw [m.keep hO2]; exact e, hw⟩
      have hN : n + 30 + 900 * k + 30 * j ≤ 2 ^ 99 := by
        have : (2 : Nat) ^ 99 = 2 ^ 97 + 2 ^ 97 + 2 ^ 98 := by decide
        have : (100000 : Nat) ≤ 2 ^ 97 := by decide
        omega
      have ho : 0 ≤ one ∧ one < t.length := by omega
      have hot : 0 ≤ other ∧ other < t.length := by omega
      refine ⟨_, eg_name 7 nd, ?_⟩
      refine wps_subW (l := q) (i := other) (ew_ef (p, g, n + 30 + 900 * k + 30 * j) (g_law_draw T) hr (ea_cons (ev_var 0) (ea_cons (ev_var 2) ea_nil)) ⟨hAt, hN, hg0, show g < 2 ^ 110 by omega⟩ fun it O'' hq' => ?_)
      obtain ⟨v, rfl, hv, d', s', c', rfl, hw'⟩ := hq'
      dsimp only at hv hw'
      have m1 : Mu (setO O2 p (wc d' s' c')) (setO O' p (wc d' s' c')) ps t := m.other hO2
      obtain ⟨q', hq', hc⟩ := m1.at (atR_nat ho)
      have eq1 : q' = q := by rw [hq] at hq'; exact (Option.some.inj hq').symm
      subst eq1
      have hrl : (atR t one).length = t.length := ht.rlen (show InB t.length one by constructor <;> omega)
      refine ⟨_, _, _, _, ev_var 6, ev_var 7, hc, ixN_nat (by rw [List.length_map, hrl]; exact hot), ?_⟩
      rw [set_im]
      have m2 : Mu (setO O2 p (wc d' s' c')) _ ps (setE t one other v) := m1.set hq
      obtain ⟨q2, hq2, hc2⟩ := m2.at (atR_nat (by rw [setE_len]; exact hot))
      refine wps_set 8 nd (ev_ixl (ev_var 3) (ev_var 7) (ptr_at (by omega) hq2)) ?_
      refine wps_sub (it := iI v) (ev_ixP (ev_var 6) (ev_var 7) setO_same (atL_set (by rw [hrl]; exact hot))) (ev_var 8) (ev_var 5) hc2 (ixN_nat (by rw [List.length_map, atR_setE hot ho, if_neg (by omega), ht.rlen (show InB t.length other by constructor <;> omega)]; exact ho)) ?_
      rw [set_im]
      have m3 : Mu (setO O2 p (wc d' s' c')) _ ps (setT t one other v) := m2.set hq2
      refine wps_nil ⟨_, le_mask [true, true, true, true, false, true, true, false, false] _, _, _, rfl, m3, tab_setT ht ho hot (by omega) ⟨hv.1, by omega⟩, by rw [setT_len]; exact htl, (hW2.trans ⟨d', s', c', rfl, hw'⟩).mono (by omega)⟩
    · obtain ⟨t, O2, rfl, m, ht, htl, hW2⟩ := hI
      refine wps_nil ⟨_, le_mask [true, true, true, true, false, false, false, false, false] _, ps, t, O2, rfl, m, ht, htl, hW2.mono ?_⟩
      rw [rangeI_len]
      omega
  · obtain ⟨ps, t, O2, rfl, m, ht, htl, hW2⟩ := hI
    refine wps_retW (ew_mu (ev_var 3) m ⟨t, rfl, ht, htl, hW2.mono ?_⟩)
    rw [rangeI_len]
    show n + 30 + 900 * _ ≤ n + 100000
    omega
/-! ### a call, told as a tuple -/
abbrev Ca := Rd × Ch
def e_law_call : Ca → List Im := fun a => [iP a.1.1, .d (chD a.2)]
abbrev p_law_call (K : PySem.W.Frag) := pC (fun a : Ca => a) K
abbrev q_law_call (K : PySem.W.Frag) := qC (fun a : Ca => a) K
theorem g_law_call_nd : (["live", "change"] : List Str).Nodup := by decide +kernel
include T in
theorem g_law_call : Fn PRG w K mg base 7 "_law_call" (ef e_law_call (p_law_call K) (q_law_call K)) := by
  refine fn_ef (N := ["live", "change"]) (ps := ["live", "change"]) T.m_law_call T.fd_law_call ⟨rfl, rfl, rfl, g_law_call_nd, rfl, by decide +kernel, by decide +kernel⟩
    (fun _ _ _ _ _ _ us hl => match us, hl with | [_, _], _ => rfl) (fun _ => rfl) (fun cdv A outer s H E O a hr h => ?_)
  have nd := g_law_call_nd
  obtain ⟨⟨l, dx, s⟩, c⟩ := a
  obtain ⟨⟨h0, h1⟩, h2⟩ := h
  cases c with
  | change x y d =>
    refine wps_cons (wp_if (tw_cmp (ec_eqS (ev_ixT (ev_var 1) ev_int rfl) ev_str)) (fun _ => ?_) (fun h => absurd h (by decide +kernel)))
    exact wps_retW (ew_mef ((l, dx, s), x, y, d) ((g_LiveRing_change T).mono (by decide)) T.c_LiveRing hr (ev_var 0) h0 (ea_cons (ev_ixT (ev_var 1) ev_int rfl) (ea_cons (ev_ixT (ev_var 1) ev_int rfl) (ea_cons (ev_ixT (ev_var 1) ev_int rfl) ea_nil))) rfl ⟨⟨h0, h1⟩, h2⟩ fun it O' h => h)
  | add row i =>
    refine wps_cons (wp_if (tw_cmp (ec_eqS (ev_ixT (ev_var 1) ev_int rfl) ev_str)) (fun h => absurd h (by decide +kernel)) (fun _ => wps_nil ?_))
    refine wps_cons (wp_if (tw_cmp (ec_eqS (ev_ixT (ev_var 1) ev_int rfl) ev_str)) (fun _ => ?_) (fun h => absurd h (by decide +kernel)))
    exact wps_retW (ew_mef ((l, dx, s), row, i) ((g_LiveRing_add T).mono (by decide)) T.c_LiveRing hr (ev_var 0) h0 (ea_cons (ev_listL T.b_list (ev_ixT (ev_var 1) ev_int rfl)) (ea_cons (ev_ixT (ev_var 1) ev_int rfl) ea_nil)) rfl ⟨⟨h0, h1⟩, h2⟩ fun it O' h => h)
  | drop p =>
    refine wps_cons (wp_if (tw_cmp (ec_eqS (ev_ixT (ev_var 1) ev_int rfl) ev_str)) (fun h => absurd h (by decide +kernel)) (fun _ => wps_nil ?_))
    refine wps_cons (wp_if (tw_cmp (ec_eqS (ev_ixT (ev_var 1) ev_int rfl) ev_str)) (fun h => absurd h (by decide +kernel)) (fun _ => wps_nil ?_))
    exact wps_retW (ew_if (tw_cmp (ec_eqS (ev_ixT (ev_var 1) ev_int rfl) ev_str)) (fun _ => ew_mef ((l, dx, s), p) ((g_LiveRing_drop T).mono (by decide)) T.c_LiveRing hr (ev_var 0) h0 (ea_cons (ev_ixT (ev_var 1) ev_int rfl) ea_nil) rfl ⟨⟨h0, h1⟩, h2⟩ fun it O' h => h) (fun h => absurd h (by decide +kernel)))
  | turn q =>
    refine wps_cons (wp_if (tw_cmp (ec_eqS (ev_ixT (ev_var 1) ev_int rfl) ev_str)) (fun h => absurd h (by decide +kernel)) (fun _ => wps_nil ?_))
    refine wps_cons (wp_if (tw_cmp (ec_eqS (ev_ixT (ev_var 1) ev_int rfl) ev_str)) (fun h => absurd h (by decide +kernel)) (fun _ => wps_nil ?_))
    exact wps_retW (ew_if (tw_cmp (ec_eqS (ev_ixT (ev_var 1) ev_int rfl) ev_str)) (fun h => absurd h (by decide +kernel)) (fun _ => ew_mef ((l, dx, s), q) ((g_LiveRing_turn T).mono (by decide)) T.c_LiveRing hr (ev_var 0) h0 (ea_cons (ev_listL T.b_list (ev_ixT (ev_var 1) ev_int rfl)) ea_nil) rfl ⟨⟨h0, h1⟩, h2⟩ fun it O' h => h))
/-! ### some changes, by the functions -/
abbrev Bf := List (List Int) × List Int × List Ch
def e_law_by_functions : Bf → List Im := fun a => [.d (Tb a.1), .d (L a.2.1), .d (.list (a.2.2.map chD))]
def p_law_by_functions : Bf → Prop := fun a => Tab a.1 ∧ Rg a.1.length a.2.1 ∧ okPath a.1 a.2.1 a.2.2
def o_law_by_functions : Bf → Im := fun a => iT [Tb (goAll a.1 a.2.1 a.2.2).1, L (goAll a.1 a.2.1 a.2.2).2]
theorem nd_law_by_functions : (["table", "ring", "changes", "change", "row", "back"] : List Str).Nodup := by decide +kernel
include T in
theorem g_law_by_functions : Fn PRG w K mg base 6 "_law_by_functions" (pu (sp e_law_by_functions p_law_by_functions o_law_by_functions)) := by
  refine fn_sp (N := ["table", "ring", "changes", "change", "row", "back"]) (ps := ["table", "ring", "changes"]) T.m_law_by_functions T.fd_law_by_functions ⟨rfl, rfl, rfl, nd_law_by_functions, rfl, by decide +kernel, by decide +kernel⟩
    (fun _ _ _ _ _ _ us hl => match us, hl with | [_, _, _], _ => rfl) (fun _ => rfl) (fun cdv A outer s H E O a hr h => ?_)
  have nd := nd_law_by_functions
  obtain ⟨t0, r0, cs⟩ := a
  obtain ⟨h0, h1, h2⟩ := h
  dsimp only [e_law_by_functions, o_law_by_functions] at *
  refine wps_for (vs := [3]) (fun k ρ' O' => ρ' = [some (.d (Tb (goAll t0 r0 (cs.take k)).1)), some (.d (L (goAll t0 r0 (cs.take k)).2)), some (.d (.list (cs.map chD))), none, none, none] ∧ O' = O) rfl (itr_eq (itr_list (ev_var 2)) (show (cs.map chD).map Im.d = cs.map fun c => .d (chD c) by rw [List.map_map]; rfl)) ⟨_, Le.refl _, rfl, rfl⟩ (fun _ _ _ _ _ => trivial) (fun k c ρ O' hc hI => ?_) (fun ρ O' hI => ?_)
  · obtain ⟨rfl, rfl⟩ := hI
    have hp3 := okPath_snoc (take_path hc h2)
    obtain ⟨ht, hR⟩ := goAll_ok h0 h1 hp3.1
    have hok := hp3.2
    have fin : ∀ {t' : List (List Int)} {r' : List Int}, (t', r') = goCh (goAll t0 r0 (cs.take k)).1 (goAll t0 r0 (cs.take k)).2 c → t' = (goAll t0 r0 (cs.take (k + 1))).1 ∧ r' = (goAll t0 r0 (cs.take (k + 1))).2 := fun {t' r'} e => by
      rw [take_snoc hc, goAll_snoc, ← e]; exact ⟨rfl, rfl⟩
    generalize hT : (goAll t0 r0 (cs.take k)).1 = t at *
    generalize hRr : (goAll t0 r0 (cs.take k)).2 = r at *
    have h30 : t.length ≤ 30 := ht.hi
    have hrl : r.length = t.length := hR.len
    refine ⟨_, eg_name 3 nd, ?_⟩
    cases c with
    | change x y d =>
      obtain ⟨h1', h2', h3', h4'⟩ := hok
      refine wps_cons (wp_if (tw_cmp (ec_eqS (ev_ixT (ev_var 3) ev_int rfl) ev_str)) (fun _ => ?_) (fun h => absurd h (by decide +kernel)))
      refine wps_lcE (own := [("row", 4)]) 0 (fun k O2 acc => ∃ ps, acc = ps.map iP ∧ Mu O' O2 ps (t.take k)) rfl nd (blkOk_by (own := [("row", 4)]) (by rfl)) (itr_listTb (ev_var 0)) (sz_le (show t.length ≤ _ by omega)) ⟨[], rfl, Mu.nil⟩ (fun _ _ _ _ _ => trivial)
        (fun k z O2 acc hz hI => ⟨_, fun _ _ _ _ _ => eg_name 4 nd, fun _ _ _ _ _ => ew_listLP T.b_list (ev_var 4) fun p hp => ?_⟩) (fun O2 acc hI => ?_)
      · obtain ⟨ps, rfl, m⟩ := hI
        refine ⟨ps ++ [p], by rw [List.map_append]; rfl, ?_⟩
        rw [take_snoc hz]
        have := m.new (r := z) hp
        rw [List.map_map]
        exact this
      · obtain ⟨ps, rfl, m⟩ := hI
        rw [List.take_length] at m
        refine ⟨_, as_self, ?_⟩
        have hpl : ps.length = t.length := m.len
        obtain ⟨q, hq, hc1⟩ := m.at (atR_nat h1')
        obtain ⟨q2, hq2, hc2⟩ := m.at (atR_nat h2')
        refine wps_par 4 5 rfl nd (ea_cons (ev_ixl (ev_var 0) (ev_ixT (ev_var 3) ev_int rfl) (ptr_at (by rw [hpl]; exact h1') hq)) (ea_cons (ev_ixl (ev_var 0) (ev_ixT (ev_var 3) ev_int rfl) (ptr_at (by rw [hpl]; exact h2') hq2)) ea_nil)) ?_
        refine wps_sub (it := iI d) (ev_ixT (ev_var 3) ev_int rfl) (ev_var 4) (ev_ixT (ev_var 3) ev_int rfl) hc1 (ixN_nat (by rw [List.length_map, ht.rlen (show InB t.length x by constructor <;> omega)]; exact h2')) ?_
        rw [set_im]
        have m2 : Mu O' _ ps (setE t x y d) := m.set hq
        obtain ⟨q3, hq3, hc3⟩ := m2.at (atR_nat (by rw [setE_len]; exact h2'))
        have e3 : q3 = q2 := by rw [hq2] at hq3; exact (Option.some.inj hq3).symm
        subst e3
        refine wps_sub (it := iI d) (ev_ixT (ev_var 3) ev_int rfl) (ev_var 5) (ev_ixT (ev_var 3) ev_int rfl) hc3 (ixN_nat (by rw [List.length_map, atR_setE h2' h1', if_neg (Ne.symm h3'), ht.rlen (show InB t.length y by constructor <;> omega)]; exact h1')) ?_
        rw [set_im]
        have m3 : Mu O' _ ps (setT t x y d) := m2.set hq3
        refine wps_mu m3 0 rfl (wps_nil (wps_nil ⟨_, le_mask [true, true, true, false, false, false] _, ?_, rfl⟩))
        obtain ⟨f1, f2⟩ := fin rfl
        rw [← f1, ← f2]; rfl
    | add row i =>
      obtain ⟨h1', h2', h3'⟩ := hok
      have c1 := cutA_len r none (some (i + 1))
      have c2 := cutA_len r (some (i + 1)) none
      refine wps_cons (wp_if (tw_cmp (ec_eqS (ev_ixT (ev_var 3) ev_int rfl) ev_str)) (fun h => absurd h (by decide +kernel)) (fun _ => ?_))
      refine wps_cons (wp_if (tw_cmp (ec_eqS (ev_ixT (ev_var 3) ev_int rfl) ev_str)) (fun _ => ?_) (fun h => absurd h (by decide +kernel)))
      refine wps_set 1 nd (ev_catL (ev_catL (ev_slL (ev_var 1) po_n (po_s (ev_add (ev_ixT (ev_var 3) ev_int rfl) ev_int))) (ev_listI (ei_cons (ev_lenTb T.b_len (ev_var 0)) ei_nil) (show 1 ≤ sizeLine by decide)) (sz_le (by simp; omega))) (ev_slL (ev_var 1) (po_s (ev_add (ev_ixT (ev_var 3) ev_int rfl) ev_int)) po_n) (sz_le (by simp; omega))) ?_
      refine wps_set 0 nd (ev_sp (t, row) (g_grown T) (hr.mono (by decide)) (ea_cons (ev_var 0) (ea_cons (ev_listL T.b_list (ev_ixT (ev_var 3) ev_int rfl)) ea_nil)) ⟨ht, h1', h3'⟩) ?_
      refine wps_nil (wps_nil (wps_nil ⟨_, le_mask [true, true, true, false, false, false] _, ?_, rfl⟩))
      obtain ⟨f1, f2⟩ := fin rfl
      rw [← f1, ← f2]
      show [_, some (Im.d (L _)), _, _, _, _] = _
      unfold addR
      rw [List.append_assoc]; rfl
    | drop p =>
      obtain ⟨h1', h2'⟩ := hok
      refine wps_cons (wp_if (tw_cmp (ec_eqS (ev_ixT (ev_var 3) ev_int rfl) ev_str)) (fun h => absurd h (by decide +kernel)) (fun _ => ?_))
      refine wps_cons (wp_if (tw_cmp (ec_eqS (ev_ixT (ev_var 3) ev_int rfl) ev_str)) (fun h => absurd h (by decide +kernel)) (fun _ => ?_))
      refine wps_cons (wp_if (tw_cmp (ec_eqS (ev_ixT (ev_var 3) ev_int rfl) ev_str)) (fun _ => ?_) (fun h => absurd h (by decide +kernel)))
      refine wps_par 0 1 rfl nd (ea_cons (ev_sp (t, p) (g_shrunk T) hr (ea_cons (ev_var 0) (ea_cons (ev_ixT (ev_var 3) ev_int rfl) ea_nil)) ⟨ht, h1', h2'⟩) (ea_cons (ev_sp (t.length, r, p) (g_ring_without T) hr (ea_cons (ev_var 1) (ea_cons (ev_ixT (ev_var 3) ev_int rfl) ea_nil)) ⟨show 2 ≤ t.length by have := ht.lo; omega, h30, hR, h1'⟩) ea_nil)) ?_
      refine wps_nil (wps_nil (wps_nil (wps_nil ⟨_, le_mask [true, true, true, false, false, false] _, ?_, rfl⟩)))
      obtain ⟨f1, f2⟩ := fin rfl
      rw [← f1, ← f2]; rfl
    | turn q =>
      refine wps_cons (wp_if (tw_cmp (ec_eqS (ev_ixT (ev_var 3) ev_int rfl) ev_str)) (fun h => absurd h (by decide +kernel)) (fun _ => ?_))
      refine wps_cons (wp_if (tw_cmp (ec_eqS (ev_ixT (ev_var 3) ev_int rfl) ev_str)) (fun h => absurd h (by decide +kernel)) (fun _ => ?_))
      refine wps_cons (wp_if (tw_cmp (ec_eqS (ev_ixT (ev_var 3) ev_int rfl) ev_str)) (fun h => absurd h (by decide +kernel)) (fun _ => ?_))
      refine wps_set 1 nd (ev_listL T.b_list (ev_ixT (ev_var 3) ev_int rfl)) ?_
      refine wps_nil (wps_nil (wps_nil (wps_nil ⟨_, le_mask [true, true, true, false, false, false] _, ?_, rfl⟩)))
      obtain ⟨f1, f2⟩ := fin rfl
      rw [← f1, ← f2]; rfl
  · obtain ⟨rfl, rfl⟩ := hI
    rw [List.take_length]
    exact wps_ret (ev_tup (ed_cons (ev_var 0) (ed_cons (ev_var 1) ed_nil)) (sz_le (by simp))) ⟨rfl, rfl⟩
end
end D81


/-! G10: the law's changes -/
namespace D81
open PySem PySem.Spec PyProof.Rows L2 AL
def pairsAt (one : Int) : List (Int × Int) := (rangeI 0 one).map fun o => (one, o)
def pairsOf (n : Nat) : List (Int × Int) := (rangeI 0 n).flatMap pairsAt
theorem rangeI_nd (a b : Int) : (rangeI a b).Nodup := by
  unfold rangeI
  refine List.pairwise_map.mpr (List.Pairwise.imp (fun {i j} h => ?_) List.nodup_range)
  omega
theorem mem_pairs {n : Nat} {q : Int × Int} : q ∈ pairsOf n ↔ 0 ≤ q.2 ∧ q.2 < q.1 ∧ q.1 < n := by
  unfold pairsOf pairsAt
  rw [List.mem_flatMap]
  constructor
  · rintro ⟨a, ha, hq⟩
    obtain ⟨b, hb, rfl⟩ := List.mem_map.mp hq
    have := mem_rangeI.mp ha
    have := mem_rangeI.mp hb
    show 0 ≤ b ∧ b < a ∧ a < n
    omega
  · rintro ⟨h1, h2, h3⟩
    exact ⟨q.1, mem_rangeI.mpr (by omega), List.mem_map.mpr ⟨q.2, mem_rangeI.mpr (by omega), rfl⟩⟩
theorem pairs_nd (n : Nat) : (pairsOf n).Nodup := by
  unfold pairsOf
  refine List.pairwise_flatMap.mpr ⟨fun a _ => ?_, ?_⟩
  · unfold pairsAt
    refine List.pairwise_map.mpr (List.Pairwise.imp (fun {i j} h => ?_) (rangeI_nd 0 a))
    intro e; exact h (Prod.mk.inj e).2
  · refine List.Pairwise.imp (fun {a b} hab => ?_) (rangeI_nd 0 n)
    intro x hx y hy e
    subst e
    obtain ⟨_, _, rfl⟩ := List.mem_map.mp hx
    obtain ⟨_, _, e⟩ := List.mem_map.mp hy
    exact hab (Prod.mk.inj e).1.symm
theorem pairsAt_len {n : Nat} {a : Int} (h : 0 ≤ a ∧ a < n) (hn : n ≤ 30) : (pairsAt a).length ≤ 30 := by
  unfold pairsAt
  rw [List.length_map, rangeI_len]; omega
theorem pairsK_len {n k : Nat} (hn : n ≤ 30) : (((rangeI 0 n).take k).flatMap pairsAt).length ≤ 900 := by
  have h1 := flatMap_len (f := pairsAt) (c := 30) (as := (rangeI 0 n).take k) fun a ha => pairsAt_len (mem_rangeI.mp (List.mem_of_mem_take ha)) hn
  have h2 : ((rangeI 0 n).take k).length ≤ 30 := by rw [List.length_take, rangeI_len]; omega
  have : ((rangeI 0 n).take k).length * 30 ≤ 30 * 30 := Nat.mul_le_mul_right _ h2
  omega
theorem pairs_two {n : Nat} (h : 3 ≤ n) : 2 ≤ (pairsOf n).length := by
  have h1 : ((1 : Int), (0 : Int)) ∈ pairsOf n := mem_pairs.mpr ⟨by decide, by decide, by show (1 : Int) < n; omega⟩
  have h2 : ((2 : Int), (0 : Int)) ∈ pairsOf n := mem_pairs.mpr ⟨by decide, by decide, by show (2 : Int) < n; omega⟩
  match hp : pairsOf n, h1, h2 with
  | [], h1, _ => cases h1
  | [x], h1, h2 =>
    have a1 := List.mem_singleton.mp h1
    have a2 := List.mem_singleton.mp h2
    have := a1.trans a2.symm
    cases this
  | _ :: _ :: _, _, _ => simp
/-- the first two of some items in another sequence -/
theorem two_of {α : Type} {f : α → PyData} {es : List PyData} {l : List α} (h : es.Perm (l.map f)) (nd : l.Nodup) (h2 : 2 ≤ l.length) : ∃ a b, cutA es none (some 2) = [f a, f b] ∧ a ∈ l ∧ b ∈ l ∧ a ≠ b := by
  obtain ⟨l', p, rfl⟩ := perm_map_inv f h rfl
  have nd' := p.nodup_iff.mpr nd
  have hl := p.length_eq
  match l', p, nd', hl with
  | [], _, _, hl => simp at hl; omega
  | [_], _, _, hl => simp at hl; omega
  | a :: b :: r, p, nd', _ =>
    refine ⟨a, b, ?_, p.mem_iff.mp (by simp), p.mem_iff.mp (by simp), fun e => ?_⟩
    · rw [cut_to (by simp; omega)]; rfl
    · subst e
      simp at nd'
theorem perm_rg {es : List PyData} {n : Nat} {r : List Int} (h : es.Perm (r.map .int)) (hR : Rg n r) : ∃ q, es = q.map .int ∧ Rg n q := by
  obtain ⟨q, p, rfl⟩ := perm_map_inv PyData.int h rfl
  exact ⟨q, rfl, by rw [p.length_eq]; exact hR.len, fun x hx => hR.pl x (p.mem_iff.mp hx), p.nodup_iff.mpr hR.nd⟩
def bothD (a b c d : Ch) : PyData := .list [.list [chD a, chD b], .list [chD c, chD d]]
section
variable {w : World} {K : PySem.W.Frag} {mg : Str → Option Value} {base : Heap} (T : Wo w K mg)
abbrev Cg := Addr × List (List Int) × List Int × Nat
def e_law_changes : Cg → List Im := fun a => [iP a.1, .d (Tb a.2.1), .d (L a.2.2.1)]
def p_law_changes : Cg → Own → Prop := fun a O => WAt a.2.2.2 O a.1 ∧ a.2.2.2 ≤ 2 ^ 90 ∧ Tab a.2.1 ∧ Rg a.2.1.length a.2.2.1 ∧ 3 ≤ a.2.1.length ∧ a.2.1.length ≤ 29
def q_law_changes : Cg → Own → Im → Own → Prop := fun a O it O' => ∃ c1 c2 c3 c4, it = .d (bothD c1 c2 c3 c4) ∧ Comm a.2.1 a.2.2.1 c1 c2 c3 c4 ∧ WTo (a.2.2.2 + 50000) O O' a.1
theorem lim {n m : Nat} (h : n ≤ 2 ^ 90) (l : m ≤ n + 50000) : m ≤ 2 ^ 97 := by
  have : (2 : Nat) ^ 97 = 2 ^ 90 * 128 := by decide
  have : (50000 : Nat) ≤ 2 ^ 90 := by decide
  omega
theorem nd_law_changes : (["well", "table", "ring", "count", "way", "great", "pairs", "one", "other", "first", "second", "change", "row", "place", "two", "at", "shorter", "number", "later"] : List Str).Nodup := by decide +kernel
include T in
theorem g_law_changes : Fn PRG w K mg base 4 "_law_changes" (ef e_law_changes (p_law_changes) (q_law_changes)) := by
  refine fn_ef (N := ["well", "table", "ring", "count", "way", "great", "pairs", "one", "other", "first", "second", "change", "row", "place", "two", "at", "shorter", "number", "later"]) (ps := ["well", "table", "ring"]) T.m_law_changes T.fd_law_changes ⟨rfl, rfl, rfl, nd_law_changes, rfl, by decide +kernel, by decide +kernel⟩
    (fun _ _ _ _ _ _ us hl => match us, hl with | [_, _, _], _ => rfl) (fun _ => rfl) (fun cdv A outer s H E O a hr h => ?_)
  have nd := nd_law_changes
  obtain ⟨p, t, r, n⟩ := a
  obtain ⟨hA, hn, hT, hR, h3, h29⟩ := h
  dsimp only [e_law_changes, q_law_changes] at *
  have hrl : r.length = t.length := hR.len
  -- the draws
  have dr : ∀ {m : Nat}, m ≤ n + 50000 → m ≤ 2 ^ 99 := fun l => Nat.le_trans (lim hn l) (by decide)
  refine wps_asgW (vs := [3, 4, 5]) (ew_tupW (aw_cons (Ev.w (ev_lenL T.b_len (ev_var 2)) (aw_cons (ew_ef (p, 6, n) ((g_law_draw T).mono (by decide)) hr (ea_cons (ev_var 0) (ea_cons ev_int ea_nil)) ⟨hA, dr (show n ≤ n + 50000 by omega), show (0 : Int) < 6 by decide, show (6 : Int) < 2 ^ 110 by decide⟩ fun it O1 hq => ?_)))))
  obtain ⟨wy, rfl, hwy, hW⟩ := hq
  dsimp only at hwy hW
  refine aw_cons (Ev.w (ev_add ((ev_pow ev_int ev_int (cp _ _ (by decide))).eq (congrArg iI p30)) ev_int) (aw_nil ⟨[.int r.length, .int wy, .int (1000000000000000000000000000000 + 1)], rfl, by simp, _, eg_threeD 3 4 5 rfl nd, ?_⟩))
  refine wps_setW 6 nd (ew_listP ea_nil (by decide) fun q hq => ?_)
  refine wps_for (vs := [7]) (fun k ρ' O' => ρ' = [some (iP p), some (.d (Tb t)), some (.d (L r)), some (iI r.length), some (iI wy), some (iI (1000000000000000000000000000000 + 1)), some (iP q), none, none, none, none, none, none, none, none, none, none, none, none] ∧ O' = setO O1 q (.lst (((((rangeI 0 r.length).take k).flatMap pairsAt).map dP).map .d))) rfl (itr_range1 T.b_range (ev_var 3) (by omega)) ⟨_, Le.refl _, rfl, rfl⟩ (fun _ _ _ _ _ => trivial) (fun k b ρ O' hb hI => ?_) (fun ρ O' hI => ?_)
  · obtain ⟨rfl, rfl⟩ := hI
    have hb' := mem_rangeI.mp (List.mem_of_getElem? hb)
    refine ⟨_, eg_name 7 nd, ?_⟩
    refine wps_cons (wp_extend (ds := (pairsAt b).map dP) (O2 := setO O1 q (.lst (((((rangeI 0 r.length).take k).flatMap pairsAt).map dP).map .d))) (ev_var 6) ?_ setO_same setO_same ?_ ?_)
    · refine (ev_lcM (own := [("other", 8)]) (fun s => dP (b, s)) rfl nd (blkOk_by (own := [("other", 8)]) (by rfl)) (itr_range1 T.b_range (ev_var 7) (by omega)) (by rw [rangeI_len]; exact sz_le (by omega))
        (fun z hz => ⟨_, fun _ _ _ _ _ => eg_name 8 nd, fun _ _ _ _ _ => ev_tup (ed_cons (ev_var 7) (ed_cons (ev_var 8) ed_nil)) (sz_le (by simp))⟩)).eq ?_
      unfold pairsAt
      rw [List.map_map]; rfl
    · rw [List.length_map, List.length_map, List.length_map]
      have := pairsK_len (n := r.length) (k := k) (by omega)
      have := pairsAt_len hb' (by omega)
      exact sz_le (by omega)
    · refine wps_nil ⟨_, le_mask [true, true, true, true, true, true, true, false, false, false, false, false, false, false, false, false, false, false, false] _, rfl, ?_⟩
      rw [setO_setO, take_snoc hb, List.flatMap_append, List.map_append, List.map_append]
      simp
  obtain ⟨rfl, rfl⟩ := hI
  rw [List.take_length]
  refine wps_freeze (i := 6) (ds := (pairsOf r.length).map dP) setO_same rfl ?_
  rw [delO_setO hq]
  have hpl : (pairsOf r.length).length ≤ 900 := by
    have := pairsK_len (n := r.length) (k := (rangeI 0 r.length).length) (by omega)
    rwa [List.take_length] at this
  refine wps_asgW (vs := [9, 10]) (ew_slW (ew_ef (p, (pairsOf r.length).map dP, n + 30) ((g_law_mixed T).mono (by decide)) hr (ea_cons (ev_var 0) (ea_cons (ev_var 6) ea_nil)) ⟨hW.at, Nat.le_trans (lim hn (show n + 30 ≤ n + 50000 by omega)) (by decide), by rw [List.length_map]; omega⟩ fun it O2 hq2 => ?_) (fun _ => po_n) (fun _ => po_s ev_int))
  obtain ⟨es, rfl, hp, hW2⟩ := hq2
  dsimp only at hp hW2
  rw [List.length_map] at hW2
  obtain ⟨f, s2, hcut, hf, hs, hfs⟩ := two_of hp (pairs_nd _) (pairs_two (by omega))
  refine ⟨es, rfl, ?_⟩
  rw [hcut]
  refine ⟨_, eg_pairL 9 10 rfl nd, ?_⟩
  obtain ⟨f1, f2, f3⟩ := mem_pairs.mp hf
  obtain ⟨s1', s2', s3'⟩ := mem_pairs.mp hs
  have hW2' : WTo (n + 27030) O O2 p := (hW.trans hW2).mono (by omega)
  have hMAX : (1000000000000000000000000000000 : Int) + 1 < 2 ^ 110 := by decide
  -- a distance changed
  refine wps_setW 11 nd (ew_tupW (aw_cons (Ev.w ev_str (aw_cons (Ev.w (ev_ixT (ev_var 9) ev_int rfl) (aw_cons (Ev.w (ev_ixT (ev_var 9) ev_int rfl) (aw_cons (ew_ef (p, 1000000000000000000000000000000 + 1, n + 27030) ((g_law_draw T).mono (by decide)) hr (ea_cons (ev_var 0) (ea_cons (ev_var 5) ea_nil)) ⟨hW2'.at, dr (show n + 27030 ≤ n + 50000 by omega), show (0 : Int) < 1000000000000000000000000000000 + 1 by decide, hMAX⟩ fun it O3 hq3 => ?_)))))))))
  obtain ⟨v, rfl, hv, hW3⟩ := hq3
  dsimp only at hv hW3
  have hW3' : WTo (n + 27060) O O3 p := (hW2'.trans hW3).mono (by omega)
  refine aw_nil ⟨[.str "change", .int f.1, .int f.2, .int v], rfl, by simp, ?_⟩
  have okA : okCh t r (.change f.1 f.2 v) := ⟨by omega, by omega, by omega, by omega⟩
  -- two distances
  refine wps_cons (wp_if (tw_cmp (ec_eqI (ev_var 4) ev_int)) (fun _ => ?_) (fun n0 => wps_nil ?_))
  · refine wps_setW 8 nd (ew_tupW (aw_cons (Ev.w ev_str (aw_cons (Ev.w (ev_ixT (ev_var 10) ev_int rfl) (aw_cons (Ev.w (ev_ixT (ev_var 10) ev_int rfl) (aw_cons (ew_ef (p, 9, n + 27060) ((g_law_draw T).mono (by decide)) hr (ea_cons (ev_var 0) (ea_cons ev_int ea_nil)) ⟨hW3'.at, dr (show n + 27060 ≤ n + 50000 by omega), show (0 : Int) < 9 by decide, show (9 : Int) < 2 ^ 110 by decide⟩ fun it O4 hq4 => ?_)))))))))
    obtain ⟨v2, rfl, hv2, hW4⟩ := hq4
    dsimp only at hv2 hW4
    refine aw_nil ⟨[.str "change", .int s2.2, .int s2.1, .int v2], rfl, by simp, ?_⟩
    have hC : Comm t r (.change f.1 f.2 v) (.change s2.2 s2.1 v2) (.change s2.2 s2.1 v2) (.change f.1 f.2 v) := comm_change hT okA ⟨by omega, by omega, by omega, by omega⟩ (by omega) (fun z => hfs (Prod.ext z.1 z.2))
    refine wps_ret (ev_list (ed_cons (ev_list (ed_cons (ev_var 11) (ed_cons (ev_var 8) ed_nil)) (sz_le (by simp))) (ed_cons (ev_list (ed_cons (ev_var 8) (ed_cons (ev_var 11) ed_nil)) (sz_le (by simp))) ed_nil)) (sz_le (by simp))) ⟨.change f.1 f.2 v, .change s2.2 s2.1 v2, .change s2.2 s2.1 v2, .change f.1 f.2 v, rfl, hC, (hW3'.trans hW4).mono (show n + 27060 + 30 ≤ n + 50000 by omega)⟩
  -- a distance and a ring
  refine wps_cons (wp_if (tw_cmp (ec_eqI (ev_var 4) ev_int)) (fun _ => ?_) (fun n1 => wps_nil ?_))
  · refine wps_setW 8 nd (ew_tupW (aw_cons (Ev.w ev_str (aw_cons (ew_ef (p, r.map .int, n + 27060) ((g_law_mixed T).mono (by decide)) hr (ea_cons (ev_var 0) (ea_cons (ev_var 2) ea_nil)) ⟨hW3'.at, Nat.le_trans (lim hn (show n + 27060 ≤ n + 50000 by omega)) (by decide), by rw [List.length_map]; omega⟩ fun it O4 hq4 => ?_)))))
    obtain ⟨es4, rfl, hp4, hW4⟩ := hq4
    dsimp only at hp4 hW4
    rw [List.length_map] at hW4
    obtain ⟨q1, rfl, hq1⟩ := perm_rg hp4 hR
    refine aw_nil ⟨[.str "turn", L q1], rfl, by simp, ?_⟩
    exact wps_ret (ev_list (ed_cons (ev_list (ed_cons (ev_var 11) (ed_cons (ev_var 8) ed_nil)) (sz_le (by simp))) (ed_cons (ev_list (ed_cons (ev_var 8) (ed_cons (ev_var 11) ed_nil)) (sz_le (by simp))) ed_nil)) (sz_le (by simp))) ⟨.change f.1 f.2 v, .turn q1, .turn q1, .change f.1 f.2 v, rfl, comm_turn okA hq1, (hW3'.trans hW4).mono (show n + 27060 + 30 * r.length ≤ n + 50000 by omega)⟩
  -- a row
  refine wps_lcE (own := [("place", 13)]) 12 (fun k O' acc => ∃ ns : List Int, acc = (ns.map PyData.int).map Im.d ∧ ns.length = k ∧ (∀ x ∈ ns, 0 ≤ x ∧ x ≤ 1000000000000000000000000000000) ∧ WTo (n + 27060 + 30 * k) O O' p) rfl nd (blkOk_by (own := [("place", 13)]) (by rfl)) (itr_listL (ev_var 2)) (sz_le (by omega)) ⟨[], rfl, rfl, by simp, hW3'⟩ (fun _ _ _ _ _ => trivial)
    (fun k z O4 acc hz hI => ?_) (fun O4 acc hI => ?_)
  · obtain ⟨ns, rfl, hnl, hni, hW4⟩ := hI
    have hkl : k < r.length := (List.getElem?_eq_some_iff.mp hz).1
    refine ⟨_, fun _ _ _ _ _ => eg_name 13 nd, fun _ _ _ _ _ => ew_ef (p, 1000000000000000000000000000000 + 1, n + 27060 + 30 * k) ((g_law_draw T).mono (by decide)) hr (ea_cons (ev_var 0) (ea_cons (ev_var 5) ea_nil)) ⟨hW4.at, dr (show n + 27060 + 30 * k ≤ n + 50000 by omega), show (0 : Int) < 1000000000000000000000000000000 + 1 by decide, hMAX⟩ fun it O5 hq5 => ?_⟩
    obtain ⟨x, rfl, hx, hW5⟩ := hq5
    dsimp only at hx hW5
    refine ⟨ns ++ [x], by rw [List.map_append, List.map_append]; rfl, by rw [List.length_append, hnl]; rfl, fun y hy => ?_, (hW4.trans hW5).mono (by omega)⟩
    rcases List.mem_append.mp hy with hy | hy
    · exact hni y hy
    · rw [List.mem_singleton.mp hy]; omega
  obtain ⟨row, rfl, hwl, hwi, hW4⟩ := hI
  have hW4' : WTo (n + 28000) O O4 p := hW4.mono (by omega)
  refine ⟨_, as_data, ?_⟩
  have hrow : rowB t.length row = true := by
    unfold rowB
    rw [decide_eq_true (by omega), Bool.true_and, List.all_eq_true]
    intro x hx
    have := hwi x hx
    simp; omega
  -- a place more and a distance
  refine wps_cons (wp_if (tw_cmp (ec_eqI (ev_var 4) ev_int)) (fun _ => ?_) (fun n2 => wps_nil ?_))
  · refine wps_setW 8 nd (ew_tupW (aw_cons (Ev.w ev_str (aw_cons (Ev.w (ev_var 12) (aw_cons (ew_ef (p, (r.length : Int), n + 28000) ((g_law_draw T).mono (by decide)) hr (ea_cons (ev_var 0) (ea_cons (ev_var 3) ea_nil)) ⟨hW4'.at, dr (show n + 28000 ≤ n + 50000 by omega), show (0 : Int) < (r.length : Nat) by omega, show ((r.length : Nat) : Int) < 2 ^ 110 by omega⟩ fun it O5 hq5 => ?_)))))))
    obtain ⟨k, rfl, hk, hW5⟩ := hq5
    dsimp only at hk hW5
    refine aw_nil ⟨[.str "add", L row, .int k], rfl, by simp, ?_⟩
    have hC := comm_add (k := k) hT okA ⟨hrow, by omega, by omega⟩
    exact wps_ret (ev_list (ed_cons (ev_list (ed_cons (ev_var 11) (ed_cons (ev_var 8) ed_nil)) (sz_le (by simp))) (ed_cons (ev_list (ed_cons (ev_var 8) (ed_cons (ev_var 11) ed_nil)) (sz_le (by simp))) ed_nil)) (sz_le (by simp))) ⟨.change f.1 f.2 v, .add row k, .add row k, .change f.1 f.2 v, rfl, hC, (hW4'.trans hW5).mono (show n + 28000 + 30 ≤ n + 50000 by omega)⟩
  -- two places
  refine wps_asgW (vs := [7, 14]) (ew_slW (ew_ef (p, (rangeI 0 r.length).map .int, n + 28000) ((g_law_mixed T).mono (by decide)) hr (ea_cons (ev_var 0) (ea_cons (ev_listRg rfl T.b_list T.b_range (ev_var 3) (by omega)) ea_nil)) ⟨hW4'.at, Nat.le_trans (lim hn (show n + 28000 ≤ n + 50000 by omega)) (by decide), by rw [List.length_map, rangeI_len]; omega⟩ fun it O5 hq5 => ?_) (fun _ => po_n) (fun _ => po_s ev_int))
  obtain ⟨es5, rfl, hp5, hW5⟩ := hq5
  dsimp only at hp5 hW5
  rw [List.length_map, rangeI_len] at hW5
  have hW5' : WTo (n + 29000) O O5 p := (hW4'.trans hW5).mono (show n + 28000 + 30 * _ ≤ n + 29000 by omega)
  obtain ⟨one, two, hcut5, hone, htwo, h12⟩ := two_of hp5 (rangeI_nd _ _) (by rw [rangeI_len]; omega)
  have hone' := mem_rangeI.mp hone
  have htwo' := mem_rangeI.mp htwo
  refine ⟨es5, rfl, ?_⟩
  rw [hcut5]
  refine ⟨_, eg_pairL 7 14 rfl nd, ?_⟩
  -- two places less
  have ift : ∀ a b : Int, (if decide (a < b) = true then (1 : Int) else 0) = if a < b then 1 else 0 := fun a b => by by_cases c : a < b <;> simp [c]
  refine wps_cons (wp_if (tw_cmp (ec_eqI (ev_var 4) ev_int)) (fun _ => ?_) (fun n3 => wps_nil ?_))
  · have hC := comm_drop hT hR h3 (p := one) (q := two) (by omega) (by omega) h12
    refine wps_ret (ev_list (ed_cons (ev_list (ed_cons (ev_tup (ed_cons ev_str (ed_cons (ev_var 7) ed_nil)) (sz_le (by simp))) (ed_cons (ev_tup (ed_cons ev_str (ed_cons (ev_sub (ev_var 14) (ev_intB T.b_int (ev_cmp (ec_gt (ev_var 14) (ev_var 7))))) ed_nil)) (sz_le (by simp))) ed_nil)) (sz_le (by simp))) (ed_cons (ev_list (ed_cons (ev_tup (ed_cons ev_str (ed_cons (ev_var 14) ed_nil)) (sz_le (by simp))) (ed_cons (ev_tup (ed_cons ev_str (ed_cons (ev_sub (ev_var 7) (ev_intB T.b_int (ev_cmp (ec_gt (ev_var 7) (ev_var 14))))) ed_nil)) (sz_le (by simp))) ed_nil)) (sz_le (by simp))) ed_nil)) (sz_le (by simp)))
      ⟨.drop one, .drop (two - if one < two then 1 else 0), .drop two, .drop (one - if two < one then 1 else 0), ?_, hC, hW5'.mono (show n + 29000 ≤ n + 50000 by omega)⟩
    rw [ift, ift]; rfl
  -- a place less and one more
  have htr : two ∈ r := by
    have h1 := (rg_without hR (p := two) (by omega)).len
    rw [without_len hR.nd] at h1
    by_cases c : two ∈ r
    · exact c
    · rw [if_neg c] at h1; omega
  have hor : one ∈ r := by
    have h1 := (rg_without hR (p := one) (by omega)).len
    rw [without_len hR.nd] at h1
    by_cases c : one ∈ r
    · exact c
    · rw [if_neg c] at h1; omega
  refine wps_cons (wp_if (tw_cmp (ec_eqI (ev_var 4) ev_int)) (fun _ => ?_) (fun n4 => wps_nil ?_))
  · refine wps_set 15 nd (ev_index (u65 hr) (ev_var 2) (ev_var 14) htr) ?_
    refine wps_cons (wp_setLcF (own := [("place", 13), ("number", 17)]) 16 (fun q : Int × Nat => !decide (((q.2 : Nat) : Int) = one)) (fun q => .int q.1) rfl nd (sw_true rfl rfl rfl (by rfl)) (blkOk_by (own := [("place", 13), ("number", 17)]) (by rfl)) (itr_enumL T.b_enumerate (ev_var 12)) (by rw [List.length_zipIdx]; exact sz_le (by omega)) (fun z hz => ⟨_, fun _ _ _ _ _ => eg_pair 13 17 rfl nd, fun _ _ _ _ _ => iw_one (tw_cmp (ec_neI (ev_var 13) (ev_var 7))), fun _ _ _ _ _ _ => ev_var 17⟩) ?_)
    show Wps _ _ _ _ _
    obtain ⟨k, hk, hk1, hk2⟩ := idx_lt htr
    have es : ((row.zipIdx.filter fun q : Int × Nat => !decide (((q.2 : Nat) : Int) = one)).map fun q => PyData.int q.1) = (row.eraseIdx one.toNat).map .int := by
      have := idx_filter row 0 one.toNat
      rw [← this, List.map_map]
      rw [show (((one.toNat + 0 : Nat)) : Int) = one by omega]
      rfl
    rw [es, hk]
    refine wps_ret (ev_list (ed_cons (ev_list (ed_cons (ev_tup (ed_cons ev_str (ed_cons (ev_var 12) (ed_cons (ev_var 15) ed_nil))) (sz_le (by simp))) (ed_cons (ev_tup (ed_cons ev_str (ed_cons (ev_var 7) ed_nil)) (sz_le (by simp))) ed_nil)) (sz_le (by simp))) (ed_cons (ev_list (ed_cons (ev_tup (ed_cons ev_str (ed_cons (ev_var 7) ed_nil)) (sz_le (by simp))) (ed_cons (ev_tup (ed_cons ev_str (ed_cons (ev_var 16) (ed_cons (ev_sub (ev_var 15) (ev_intB T.b_int (ev_cmp (ec_lt (ev_index (u65 hr) (ev_var 2) (ev_var 7) hor) (ev_var 15))))) ed_nil))) (sz_le (by simp))) ed_nil)) (sz_le (by simp))) ed_nil)) (sz_le (by simp)))
      ⟨.add row k, .drop one, .drop one, .add (row.eraseIdx one.toNat) ((k : Int) - if idxI r one < k then 1 else 0), ?_, ?_, hW5'.mono (show n + 29000 ≤ n + 50000 by omega)⟩
    · rw [ift]; rfl
    · have e1 : one = ((one.toNat : Nat) : Int) := by omega
      have := comm_more (p := one.toNat) (k := k) (row := row) hT hR h3 h29 hrow (by omega) hk1 (by omega)
      rw [← e1] at this
      exact this
  -- two rings
  refine wps_setW 18 nd (ew_tupW (aw_cons (Ev.w ev_str (aw_cons (ew_ef (p, r.map .int, n + 29000) ((g_law_mixed T).mono (by decide)) hr (ea_cons (ev_var 0) (ea_cons (ev_var 2) ea_nil)) ⟨hW5'.at, Nat.le_trans (lim hn (show n + 29000 ≤ n + 50000 by omega)) (by decide), by rw [List.length_map]; omega⟩ fun it O6 hq6 => ?_)))))
  obtain ⟨es6, rfl, hp6, hW6⟩ := hq6
  dsimp only at hp6 hW6
  rw [List.length_map] at hW6
  obtain ⟨q0, rfl, hq0⟩ := perm_rg hp6 hR
  have hW6' : WTo (n + 30000) O O6 p := (hW5'.trans hW6).mono (by omega)
  refine aw_nil ⟨[.str "turn", L q0], rfl, by simp, ?_⟩
  refine wps_retW (ew_listW (aw_cons (ew_listW (aw_cons (ew_tupW (aw_cons (Ev.w ev_str (aw_cons (ew_ef (p, r.map .int, n + 30000) ((g_law_mixed T).mono (by decide)) hr (ea_cons (ev_var 0) (ea_cons (ev_var 2) ea_nil)) ⟨hW6'.at, Nat.le_trans (lim hn (show n + 30000 ≤ n + 50000 by omega)) (by decide), by rw [List.length_map]; omega⟩ fun it O7 hq7 => ?_)))))))))
  obtain ⟨es7, rfl, hp7, hW7⟩ := hq7
  dsimp only at hp7 hW7
  rw [List.length_map] at hW7
  obtain ⟨q1, rfl, hq1⟩ := perm_rg hp7 hR
  have hW7' : WTo (n + 31000) O O7 p := (hW6'.trans hW7).mono (by omega)
  refine aw_nil ⟨[.str "turn", L q1], rfl, by simp, ?_⟩
  refine aw_cons (Ev.w (ev_var 18) (aw_nil ⟨[.tuple [.str "turn", L q1], .tuple [.str "turn", L q0]], rfl, by simp, ?_⟩))
  refine aw_cons (ew_listW (aw_cons (ew_tupW (aw_cons (Ev.w ev_str (aw_cons (ew_ef (p, r.map .int, n + 31000) ((g_law_mixed T).mono (by decide)) hr (ea_cons (ev_var 0) (ea_cons (ev_var 2) ea_nil)) ⟨hW7'.at, Nat.le_trans (lim hn (show n + 31000 ≤ n + 50000 by omega)) (by decide), by rw [List.length_map]; omega⟩ fun it O8 hq8 => ?_)))))))
  obtain ⟨es8, rfl, hp8, hW8⟩ := hq8
  dsimp only at hp8 hW8
  rw [List.length_map] at hW8
  obtain ⟨q2, rfl, hq2⟩ := perm_rg hp8 hR
  refine aw_nil ⟨[.str "turn", L q2], rfl, by simp, ?_⟩
  refine aw_cons (Ev.w (ev_var 18) (aw_nil ⟨[.tuple [.str "turn", L q2], .tuple [.str "turn", L q0]], rfl, by simp, ?_⟩))
  refine aw_nil ⟨[.list [.tuple [.str "turn", L q1], .tuple [.str "turn", L q0]], .list [.tuple [.str "turn", L q2], .tuple [.str "turn", L q0]]], rfl, by simp, ?_⟩
  exact ⟨.turn q1, .turn q0, .turn q2, .turn q0, rfl, comm_two hq1 hq2 hq0, (hW7'.trans hW8).mono (show n + 31000 + 30 * r.length ≤ n + 50000 by omega)⟩
end
end D81


/-! G11: a live ring led; taken back -/
namespace D81
open PySem PySem.Spec PyProof.Rows L2 AL
theorem wpsO {X : Cx} {ρ : Ro} {O O' : Own} {sts : List Stmt} {R : Out → Own → Prop} (e : O = O') (h : Wps X ρ O' sts R) : Wps X ρ O sts R := by rw [e]; exact h
def LS.goL (s : LS) : List Ch → LS
  | [] => s
  | c :: cs => LS.goL (s.go c) cs
theorem goL_tr : ∀ (cs : List Ch) (s : LS), ((s.goL cs).t, (s.goL cs).r) = goAll s.t s.r cs
  | [], _ => rfl
  | c :: cs, s => goL_tr cs (s.go c)
theorem goL_snoc : ∀ (cs : List Ch) (s : LS) (c : Ch), s.goL (cs ++ [c]) = (s.goL cs).go c
  | [], _, _ => rfl
  | _ :: cs, s, c => goL_snoc cs _ c
theorem goL_st : ∀ (cs : List Ch) (s : LS), ((s.goL cs).st.map fun q => PyData.str q.1) = (s.st.map fun q => PyData.str q.1) ++ cs.map fun c => PyData.str (chName c)
  | [], s => by simp [LS.goL]
  | c :: cs, s => by
    show ((LS.goL (s.go c) cs).st.map _) = _
    rw [goL_st cs (s.go c)]
    simp [LS.go]
theorem OkS.lenb {s : LS} (h : OkS s) : 0 ≤ ((s.r.length : Nat) : Int) ∧ ((s.r.length : Nat) : Int) < 2 ^ 63 := by
  have := h.tab.hi
  have := h.rg.len
  omega
theorem rangeI_ne {n : Nat} (h : 1 ≤ n) : rangeI 0 n ≠ [] := fun e => by
  have h1 := congrArg List.length e
  rw [rangeI_len] at h1
  have h2 : ((n : Int) - 0).toNat = 0 := h1
  omega
theorem atI_head {α : Type} {x : α} {xs : List α} : atI (x :: xs) 0 = some x := by
  rw [atI_nat' ⟨by decide, by simp <;> omega⟩]; rfl
theorem ch_head (c : Ch) : ∃ ds, chD c = .tuple (.str (chName c) :: ds) := by cases c <;> exact ⟨_, rfl⟩
theorem chName_ok (c : Ch) : PyData.strOk (chName c) = true := by
  cases c with
  | change => exact (by decide +kernel : PyData.strOk "change" = true)
  | add => exact (by decide +kernel : PyData.strOk "add" = true)
  | drop => exact (by decide +kernel : PyData.strOk "drop" = true)
  | turn => exact (by decide +kernel : PyData.strOk "turn" = true)
theorem OkS.go {s : LS} {c : Ch} (h : OkS s) (hc : okCh s.t s.r c) (hl : s.st.length ≤ 900) : OkS (s.go c) := by
  obtain ⟨g1, g2⟩ := go_ok h.tab h.rg hc
  refine ⟨g1, g2, ?_, fun q hq => ?_⟩
  · show (s.st ++ [_]).length ≤ 1000
    rw [List.length_append]; simp; omega
  · rcases List.mem_append.mp hq with hq | hq
    · exact h.nm q hq
    · rw [List.mem_singleton.mp hq]; exact chName_ok c
def s0 (t : List (List Int)) (r : List Int) : LS := ⟨t, r, []⟩
theorem s0_ok {t : List (List Int)} {r : List Int} (h0 : Tab t) (h1 : Rg t.length r) : OkS (s0 t r) := ⟨h0, h1, Nat.zero_le _, fun _ h => (by cases h)⟩
section
variable {w : World} {K : PySem.W.Frag} {mg : Str → Option Value} {base : Heap} (T : Wo w K mg)
abbrev Ld := List (List Int) × List Int × Ch × Ch × Addr × List Im
def e_law_led_right : Ld → List Im := fun a => [.d (Tb a.1), .d (L a.2.1), .d (.list [chD a.2.2.1, chD a.2.2.2.1]), iP a.2.2.2.2.1]
def p_law_led_right : Ld → Own → Prop := fun a O => Tab a.1 ∧ Rg a.1.length a.2.1 ∧ okCh a.1 a.2.1 a.2.2.1 ∧ okCh (goCh a.1 a.2.1 a.2.2.1).1 (goCh a.1 a.2.1 a.2.2.1).2 a.2.2.2.1 ∧ O a.2.2.2.2.1 = some (.lst a.2.2.2.2.2) ∧ a.2.2.2.2.2.length ≤ 10
def q_law_led_right (K : PySem.W.Frag) : Ld → Own → Im → Own → Prop := fun a O it O' => ∃ l dx, it = iB true ∧ O l = none ∧ O' l = some (lv (LC K) dx ((s0 a.1 a.2.1).goL [a.2.2.1, a.2.2.2.1])) ∧ O' a.2.2.2.2.1 = some (.lst (a.2.2.2.2.2 ++ [iP l])) ∧ ∀ b, O b ≠ none → b ≠ a.2.2.2.2.1 → O' b = O b
theorem nd_led : (["table", "ring", "changes", "lives", "live", "tried", "twin", "told", "at", "change", "due"] : List Str).Nodup := by decide +kernel
theorem ne_of {O : Own} {a b : Addr} (ha : O a ≠ none) (hb : O b = none) : a ≠ b := fun e => ha (by rw [e]; exact hb)
theorem some_ne {O : Own} {a : Addr} {c : Cell} (h : O a = some c) : O a ≠ none := by rw [h]; simp
include T in
theorem g_law_led_right : Fn PRG w K mg base 10 "_law_led_right" (ef e_law_led_right p_law_led_right (q_law_led_right K)) := by
  refine fn_ef (N := ["table", "ring", "changes", "lives", "live", "tried", "twin", "told", "at", "change", "due"]) (ps := ["table", "ring", "changes", "lives"]) T.m_law_led_right T.fd_law_led_right ⟨rfl, rfl, rfl, nd_led, rfl, by decide +kernel, by decide +kernel⟩
    (fun _ _ _ _ _ _ us hl => match us, hl with | [_, _, _, _], _ => rfl) (fun _ => rfl) (fun cdv A outer s H E O a hr h => ?_)
  have nd := nd_led
  obtain ⟨t, r, c1, c2, ll, ls⟩ := a
  obtain ⟨hT, hR, k1, k2, hll, hls⟩ := h
  dsimp only [e_law_led_right, q_law_led_right] at *
  have ok0 := s0_ok hT hR
  have hll0 := some_ne hll
  refine wps_setW 4 nd (ew_make (g_LiveRing_init T) (hr.mono (by decide)) (Ea.w (ea_cons (ev_var 0) (ea_cons (ev_listL T.b_list (ev_var 1)) ea_nil)) fun l dx hl => ⟨(l, dx, t, r), rfl, ⟨setO_same, hT, hR⟩, fun it O' hq => ?_⟩))
  obtain ⟨rfl, rfl⟩ := hq
  refine ⟨rfl, ?_⟩
  refine wpsO (O' := setO O l (lv (LC K) dx (s0 t r))) (setO_setO.trans rfl) ?_
  have fr1 : ∀ b, O b ≠ none → setO O l (lv (LC K) dx (s0 t r)) b = O b := fun b hb => setO_ne (ne_of hb hl)
  have hl1 : At K (setO O l (lv (LC K) dx (s0 t r))) l dx (s0 t r) := setO_same
  generalize hO1 : setO O l (lv (LC K) dx (s0 t r)) = O1 at fr1 hl1 ⊢
  refine wps_setW 5 nd (ew_mef ((l, dx, s0 t r), [c1, c2]) (g_LiveRing_tried T |>.mono (by decide)) T.c_LiveRing hr (ev_var 4) hl1 (ea_cons (ev_ix (ev_var 2) ev_int rfl) (ea_cons (ev_ix (ev_var 2) ev_int rfl) ea_nil)) rfl ⟨⟨hl1, ok0⟩, show 2 ≤ 1000 by decide, ⟨k1, k2, trivial⟩⟩ fun it O' hq => ?_)
  obtain ⟨rfl, eO⟩ := hq
  have eO' := eO.symm
  subst eO'
  dsimp only
  refine wps_guard (et_w (ew_or (tw_cmp (ec_neTb hr.units (ev_pef (l, dx, s0 t r) (g_LiveRing_table T) T.c_LiveRing (hr.mono (by decide)) (ev_var 4) hl1 rfl ⟨hl1, ok0⟩ fun _ _ h => h) (ev_var 0))) fun _ => ew_or (tw_cmp (ec_neL hr.units (ev_pef (l, dx, s0 t r) (g_LiveRing_ring T) T.c_LiveRing (hr.mono (by decide)) (ev_var 4) hl1 rfl ⟨hl1, ok0⟩ fun _ _ h => h) (ev_var 1))) fun _ => ew_or1 (tw_cmp (ec_ne (d := .list []) (f := .list []) hr.units (ev_pef (l, dx, s0 t r) (g_LiveRing_log T) T.c_LiveRing (hr.mono (by decide)) (ev_var 4) hl1 rfl ⟨hl1, ok0⟩ fun _ _ h => h) (ev_list ed_nil (by decide)) rfl rfl)))) (by simp [s0]; rfl) ?_
  refine wps_parW 6 7 rfl nd (aw_cons (ew_mef0 (l, dx, s0 t r) ((g_LiveRing_twin T).mono (by decide)) T.c_LiveRing hr (ev_var 4) hl1 rfl ⟨hl1, ok0⟩ fun it O' hq => ?_))
  obtain ⟨l2, dx2, hl2, rfl, rfl⟩ := hq
  refine aw_cons (ew_listP ea_nil (by decide) fun q hq => aw_nil ⟨_, _, rfl, ?_⟩)
  have hne2 : l ≠ l2 := ne_of (some_ne hl1) hl2
  have hlq : l ≠ q := fun e => by
    have h := hq
    rw [← e, setO_ne hne2] at h
    exact some_ne hl1 h
  have h2q : l2 ≠ q := fun e => by
    have h := hq
    rw [← e, setO_same] at h; cases h
  have fr2 : ∀ b, O b ≠ none → b ≠ l ∧ b ≠ l2 ∧ b ≠ q := fun b hb => by
    have hb1 : O1 b ≠ none := by rw [fr1 b hb]; exact hb
    refine ⟨ne_of hb hl, ne_of hb1 hl2, fun e => ?_⟩
    have h := hq
    rw [← e, setO_ne (ne_of hb1 hl2)] at h
    exact hb1 h
  have okk : ∀ k, OkS ((s0 t r).goL ([c1, c2].take k)) := fun k => by
    match k with
    | 0 => exact ok0
    | 1 => exact ok0.go k1 (Nat.zero_le _)
    | k + 2 =>
      rw [List.take_of_length_le (by simp)]
      exact (ok0.go k1 (Nat.zero_le _)).go k2 (show 1 ≤ 900 by decide)
  have pth : okPath t r [c1, c2] := ⟨k1, k2, trivial⟩
  refine wps_for (vs := [8, 9]) (as := [c1, c2].zipIdx) (enc := fun z => .t [iI (z.2 : Nat), .d (chD z.1)]) (fun k ρ' O' => ρ' = [some (.d (Tb t)), some (.d (L r)), some (.d (.list [chD c1, chD c2])), some (iP ll), some (iP l), some (iL ((triedB t r [c1, c2]).map .bool)), some (iP l2), some (iP q), none, none, none] ∧ At K O' l dx ((s0 t r).goL ([c1, c2].take k)) ∧ At K O' l2 dx2 (s0 t r) ∧ O' q = some (.lst ((triedB t r ([c1, c2].take k)).map iB)) ∧ ∀ b, O b ≠ none → O' b = O b) rfl
    (itr_eq (itr_enum T.b_enumerate (.inr ⟨[chD c1, chD c2], rfl, ev_var 2⟩)) (show enumI ([chD c1, chD c2].map Im.d) = _ from enumI_map (fun c => .d (chD c)) [c1, c2])) ⟨_, Le.refl _, rfl, ?_, ?_, setO_same, fun b hb => ?_⟩ (fun _ _ _ _ _ => trivial) (fun k z ρ O' hz hI => ?_) (fun ρ O' hI => ?_)
  · show setO _ q _ l = _
    rw [setO_ne hlq, setO_ne hne2]; exact hl1
  · show setO _ q _ l2 = _
    rw [setO_ne h2q, setO_same]
  · obtain ⟨b1, b2, b3⟩ := fr2 b hb
    rw [setO_ne b3, setO_ne b2, fr1 b hb]
  · obtain ⟨rfl, a1, a2, a3, a4⟩ := hI
    obtain ⟨c, i⟩ := z
    obtain ⟨hi, hz'⟩ := List.mem_zipIdx' (List.mem_of_getElem? hz)
    have hki : i = k := by
      rw [List.getElem?_zipIdx] at hz
      cases e : [c1, c2][k]? with
      | none => rw [e] at hz; cases hz
      | some y => rw [e] at hz; simp at hz; omega
    subst hki
    have hc : [c1, c2][i]? = some c := by rw [hz']; exact List.getElem?_eq_getElem hi
    have hp3 := okPath_snoc (take_path hc pth)
    have tr := goL_tr ([c1, c2].take i) (s0 t r)
    have tr1 : ((s0 t r).goL ([c1, c2].take i)).t = (goAll t r ([c1, c2].take i)).1 := congrArg Prod.fst tr
    have tr2 : ((s0 t r).goL ([c1, c2].take i)).r = (goAll t r ([c1, c2].take i)).2 := congrArg Prod.snd tr
    have okc : okCh ((s0 t r).goL ([c1, c2].take i)).t ((s0 t r).goL ([c1, c2].take i)).r c := by rw [tr1, tr2]; exact hp3.2
    refine ⟨_, eg_pair 8 9 rfl nd, ?_⟩
    refine wps_cons (wp_append (ev_var 7) (ew_ef ((l, dx, (s0 t r).goL ([c1, c2].take i)), c) (g_law_call T |>.mono (by decide)) hr (ea_cons (ev_var 4) (ea_cons (ev_var 9) ea_nil)) ⟨⟨a1, okk i⟩, okc⟩ fun it O'' hq' => ?_) a3)
    obtain ⟨rfl, rfl⟩ := hq'
    dsimp only
    refine ⟨_, (setO_ne (Ne.symm hlq)).trans a3, ?_, ?_⟩
    · rw [List.length_map, tried_len]
      rw [List.length_take]
      exact Nat.lt_of_le_of_lt (Nat.min_le_right _ _) (Nat.lt_of_lt_of_le (show 2 < 100000 by decide) (sz_le (Nat.le_refl _)))
    have hgo : (((s0 t r).goL ([c1, c2].take i)).go c) = (s0 t r).goL ([c1, c2].take (i + 1)) := by rw [take_snoc hc, goL_snoc]
    have trn := goL_tr ([c1, c2].take (i + 1)) (s0 t r)
    have tn1 : ((s0 t r).goL ([c1, c2].take (i + 1))).t = (goAll t r ([c1, c2].take (i + 1))).1 := congrArg Prod.fst trn
    have tn2 : ((s0 t r).goL ([c1, c2].take (i + 1))).r = (goAll t r ([c1, c2].take (i + 1))).2 := congrArg Prod.snd trn
    have htold : (triedB t r ([c1, c2].take i)).map iB ++ [iB (skipB (((s0 t r).goL ([c1, c2].take i)).go c).t (((s0 t r).goL ([c1, c2].take i)).go c).r)] = (triedB t r ([c1, c2].take (i + 1))).map iB := by
      rw [hgo, tn1, tn2, take_snoc hc, triedB_snoc, List.map_append, goAll_snoc]; rfl
    have hlast : atI ((triedB t r ([c1, c2].take (i + 1))).map iB) (-1) = some (iB (skipB (goAll t r ([c1, c2].take (i + 1))).1 (goAll t r ([c1, c2].take (i + 1))).2)) := by
      rw [← htold, hgo, tn1, tn2]; exact atI_last
    refine wpsO (O' := setO (setO O' l (lv (LC K) dx ((s0 t r).goL ([c1, c2].take (i + 1))))) q (.lst ((triedB t r ([c1, c2].take (i + 1))).map iB))) (by rw [← htold, ← hgo]) ?_
    have b1 : At K (setO (setO O' l (lv (LC K) dx ((s0 t r).goL ([c1, c2].take (i + 1))))) q (.lst ((triedB t r ([c1, c2].take (i + 1))).map iB))) l dx ((s0 t r).goL ([c1, c2].take (i + 1))) := by
      show setO _ q _ l = _
      rw [setO_ne hlq, setO_same]
    have b2 : At K (setO (setO O' l (lv (LC K) dx ((s0 t r).goL ([c1, c2].take (i + 1))))) q (.lst ((triedB t r ([c1, c2].take (i + 1))).map iB))) l2 dx2 (s0 t r) := by
      show setO _ q _ l2 = _
      rw [setO_ne h2q, setO_ne (Ne.symm hne2)]; exact a2
    have b3 : setO (setO O' l (lv (LC K) dx ((s0 t r).goL ([c1, c2].take (i + 1))))) q (.lst ((triedB t r ([c1, c2].take (i + 1))).map iB)) q = some (.lst ((triedB t r ([c1, c2].take (i + 1))).map iB)) := setO_same
    have b4 : ∀ b, O b ≠ none → setO (setO O' l (lv (LC K) dx ((s0 t r).goL ([c1, c2].take (i + 1))))) q (.lst ((triedB t r ([c1, c2].take (i + 1))).map iB)) b = O b := fun b hb => by
      obtain ⟨d1, d2, d3⟩ := fr2 b hb
      rw [setO_ne d3, setO_ne d1]; exact a4 b hb
    generalize setO (setO O' l (lv (LC K) dx ((s0 t r).goL ([c1, c2].take (i + 1))))) q (.lst ((triedB t r ([c1, c2].take (i + 1))).map iB)) = O3 at b1 b2 b3 b4 ⊢
    have okp : okPath t r ([c1, c2].take (i + 1)) := by rw [take_snoc hc]; exact take_path hc pth
    obtain ⟨g1, g2⟩ := goAll_ok hT hR okp
    have hcut : cutA ([chD c1, chD c2]) none (some ((i : Int) + 1)) = ([c1, c2].take (i + 1)).map chD := by
      rw [cut_to (by simp at hi; simp; omega), show ((i : Int) + 1).toNat = i + 1 by omega, List.map_take]; rfl
    refine wps_set 10 nd (ev_sp (t, r, [c1, c2].take (i + 1)) ((g_law_by_functions T).mono (by decide)) hr (ea_cons (ev_var 0) (ea_cons (ev_var 1) (ea_cons ((ev_sl (ev_var 2) po_n (po_s (ev_add (ev_var 8) ev_int))).eq (congrArg iL hcut)) ea_nil))) ⟨hT, hR, okp⟩) ?_
    dsimp only [o_law_by_functions]
    refine wps_guard (et_w (ew_or (tw_cmp (ec_neTb hr.units (ev_pef (l, dx, (s0 t r).goL ([c1, c2].take (i + 1))) (g_LiveRing_table T) T.c_LiveRing (hr.mono (by decide)) (ev_var 4) b1 rfl ⟨b1, okk _⟩ fun _ _ h => h) (ev_ixT (ev_var 10) ev_int rfl))) fun _ => ew_or (tw_cmp (ec_neL hr.units (ev_pef (l, dx, (s0 t r).goL ([c1, c2].take (i + 1))) (g_LiveRing_ring T) T.c_LiveRing (hr.mono (by decide)) (ev_var 4) b1 rfl ⟨b1, okk _⟩ fun _ _ h => h) (ev_ixT (ev_var 10) ev_int rfl))) fun _ => ew_or1 (tw_cmp (ec_ne (d := .bool _) (f := .bool _) hr.units (ev_ixP (ev_var 7) (ev_neg ev_int) b3 hlast) (ev_sp ((goAll t r ([c1, c2].take (i + 1))).1, (goAll t r ([c1, c2].take (i + 1))).2) ((g_is_skip T).mono (by decide)) hr (ea_cons (ev_ixT (ev_var 10) ev_int rfl) (ea_cons (ev_ixT (ev_var 10) ev_int rfl) ea_nil)) ⟨g1, g2⟩) rfl rfl)))) ?_ (wps_nil ⟨_, le_mask [true, true, true, true, true, true, true, true, false, false, false] _, rfl, b1, b2, b3, b4⟩)
    rw [decide_eq_true tn1, decide_eq_true tn2]
    simp [PyData.eqv]
  obtain ⟨rfl, a1, a2, a3, a4⟩ := hI
  have e2 : [c1, c2].zipIdx.length = 2 := rfl
  rw [e2, show [c1, c2].take 2 = [c1, c2] from rfl] at a1 a3
  refine wps_freeze (i := 7) (ds := (triedB t r [c1, c2]).map .bool) (a3.trans (by rw [List.map_map]; rfl)) rfl ?_
  have fr := fr2
  have a1' : At K (delO O' q) l dx ((s0 t r).goL [c1, c2]) := (delO_ne hlq).trans a1
  have a2' : At K (delO O' q) l2 dx2 (s0 t r) := (delO_ne h2q).trans a2
  have a4' : ∀ b, O b ≠ none → delO O' q b = O b := fun b hb => (delO_ne (fr2 b hb).2.2).trans (a4 b hb)
  generalize delO O' q = O4 at a1' a2' a4' ⊢
  have ok2 : OkS ((s0 t r).goL [c1, c2]) := okk 2
  have hbs : Sh 1 (.list ((triedB t r [c1, c2]).map .bool)) := sh_list fun d hd => by
    obtain ⟨b, _, rfl⟩ := List.mem_map.mp hd
    exact sh_bool _ _
  have trn := goL_tr [c1, c2] (s0 t r)
  have tn1 : ((s0 t r).goL [c1, c2]).t = (goAll t r [c1, c2]).1 := congrArg Prod.fst trn
  have tn2 : ((s0 t r).goL [c1, c2]).r = (goAll t r [c1, c2]).2 := congrArg Prod.snd trn
  have hlast : atI ((triedB t r [c1, c2]).map PyData.bool) (-1) = some (.bool (skipB ((s0 t r).goL [c1, c2]).t ((s0 t r).goL [c1, c2]).r)) := by
    have e := triedB_snoc [c1] t r c2
    have e' : triedB t r [c1, c2] = triedB t r [c1] ++ [skipB ((s0 t r).goL [c1, c2]).t ((s0 t r).goL [c1, c2]).r] := by rw [tn1, tn2]; exact e
    rw [e', List.map_append]; exact atI_last
  have hlog : (((s0 t r).goL [c1, c2]).st.map fun q => PyData.str q.1) = [c1, c2].map fun c => PyData.str (chName c) := goL_st [c1, c2] (s0 t r)
  have hnm : Sh 1 (.list ([c1, c2].map fun c => PyData.str (chName c))) := sh_list fun d hd => by
    obtain ⟨c, _, rfl⟩ := List.mem_map.mp hd
    exact sh_str _ (chName_ok c)
  refine wps_guard (et_w (ew_or (tw_cmp (ec_ne hr.units (ev_var 7) (ev_var 5) hbs.ok hbs.ok)) fun _ => ew_or (tw_cmp (ec_ne (d := .bool _) (f := .bool _) hr.units (ev_pef (l, dx, (s0 t r).goL [c1, c2]) (g_LiveRing_is_skip T) T.c_LiveRing (hr.mono (by decide)) (ev_var 4) a1' rfl ⟨a1', ok2⟩ fun _ _ h => h) (ev_ix (ev_var 7) (ev_neg ev_int) hlast) rfl rfl)) fun _ => ew_or1 (tw_cmp (ec_ne (d := .list ([c1, c2].map fun c => PyData.str (chName c))) hr.units (ev_pef (l, dx, (s0 t r).goL [c1, c2]) (g_LiveRing_log T) T.c_LiveRing (hr.mono (by decide)) (ev_var 4) a1' rfl ⟨a1', ok2⟩ fun _ _ h => ⟨h.1.trans (congrArg iL hlog), h.2⟩) (ev_lcM (own := [("change", 9)]) (as := [c1, c2]) (enc := fun c => .d (chD c)) (fun c => .str (chName c)) rfl nd (blkOk_by (own := [("change", 9)]) (by rfl)) (itr_eq (itr_list (ev_var 2)) rfl) (show 2 ≤ sizeLine by decide) (fun z hz => ⟨_, fun _ _ _ _ _ => eg_name 9 nd, fun _ _ _ _ _ => by
      obtain ⟨ds, e⟩ := ch_head z
      exact ev_ixT (ds := .str (chName z) :: ds) ((ev_var 9).eq (congrArg Im.d e)) ev_int atI_head⟩)) hnm.ok hnm.ok)))) (by rw [hbs.refl, hnm.refl]; simp [PyData.eqv]) ?_
  have hrg := ok2.rg
  have hlenr := hrg.len
  have h30 := ok2.tab.hi
  have hlo := ok2.tab.lo
  have lenE : ∀ {ρ' : Ro} {a : Expr} {l dx : Addr} {s : LS}, At K O4 l dx s → OkS s → p_rd K (l, dx, s) O4 := fun h k => ⟨h, k⟩
  have hfl : (((s0 t r).goL [c1, c2]).r.filter fun x => decide (x ∈ rangeI 0 (((s0 t r).goL [c1, c2]).r.length : Nat))) = ((s0 t r).goL [c1, c2]).r := List.filter_eq_self.mpr fun x hx => by
    have := hrg.pl x hx
    simp only [decide_eq_true_eq]
    exact mem_rangeI.mpr (by omega)
  refine wps_guard (tw_cmp (ec_neI (ev_pef (l, dx, (s0 t r).goL [c1, c2]) (g_LiveRing_length T) T.c_LiveRing (hr.mono (by decide)) (ev_var 4) a1' rfl ⟨a1', ok2⟩ fun _ _ h => h) (ev_sp (((s0 t r).goL [c1, c2]).t, ((s0 t r).goL [c1, c2]).r, rangeI 0 (((s0 t r).goL [c1, c2]).r.length : Nat)) ((g_around_length T).mono (by decide)) hr (ea_cons (ev_pef (l, dx, (s0 t r).goL [c1, c2]) (g_LiveRing_table T) T.c_LiveRing (hr.mono (by decide)) (ev_var 4) a1' rfl ⟨a1', ok2⟩ fun _ _ h => h) (ea_cons (ev_pef (l, dx, (s0 t r).goL [c1, c2]) (g_LiveRing_ring T) T.c_LiveRing (hr.mono (by decide)) (ev_var 4) a1' rfl ⟨a1', ok2⟩ fun _ _ h => h) (ea_cons (ev_listRg rfl T.b_list T.b_range (ew_lenI T.b_len (g_LiveRing_len T) (hr.mono (by decide)) (ev_var 4) a1' ⟨(l, dx, (s0 t r).goL [c1, c2]), rfl, ⟨a1', ok2⟩, fun it O' h => ⟨_, h.1, ok2.lenb, rfl, h.2⟩⟩) (by omega)) ea_nil)))
    ⟨ok2.tab, ok2.rg, fun x hx => by have := mem_rangeI.mp hx; show 0 ≤ x ∧ x < (((s0 t r).goL [c1, c2]).t.length : Nat); omega, rangeI_nd _ _, rangeI_ne (by omega)⟩ rfl))) (by dsimp only; rw [hfl]; simp) ?_
  refine wps_guard (et_w (ew_or (tw_cmp (ec_neTb hr.units (ev_pef (l2, dx2, s0 t r) (g_LiveRing_table T) T.c_LiveRing (hr.mono (by decide)) (ev_var 6) a2' rfl ⟨a2', ok0⟩ fun _ _ h => h) (ev_var 0))) fun _ => ew_or (tw_cmp (ec_neL hr.units (ev_pef (l2, dx2, s0 t r) (g_LiveRing_ring T) T.c_LiveRing (hr.mono (by decide)) (ev_var 6) a2' rfl ⟨a2', ok0⟩ fun _ _ h => h) (ev_var 1))) fun _ => ew_or1 (tw_cmp (ec_neI (ew_lenI T.b_len (g_LiveRing_len T) (hr.mono (by decide)) (ev_var 6) a2' ⟨(l2, dx2, s0 t r), rfl, ⟨a2', ok0⟩, fun it O' h => ⟨_, h.1, ok0.lenb, rfl, h.2⟩⟩) (ev_lenL T.b_len (ev_var 1)))))) (by simp [s0]) ?_
  have hll4 : O4 ll = some (.lst ls) := (a4' ll hll0).trans hll
  refine wps_cons (wp_append (ev_var 3) (Ev.w (ev_var 4) ⟨ls, hll4, Nat.lt_of_le_of_lt hls (by decide), ?_⟩) hll4)
  refine wps_ret ev_bl ⟨l, dx, rfl, hl, ?_, setO_same, fun b hb hbl => (setO_ne hbl).trans (a4' b hb)⟩
  exact (setO_ne (Ne.symm (ne_of hll0 hl))).trans a1'
end
end D81


/-! G12: taken back -/
namespace D81
open PySem PySem.Spec PyProof.Rows L2 AL
section
variable {w : World} {K : PySem.W.Frag} {mg : Str → Option Value} {base : Heap} (T : Wo w K mg)
abbrev Bk := List (List Int) × List Int × Ch × Ch × Addr × Addr
def e_law_back_right : Bk → List Im := fun a => [.d (Tb a.1), .d (L a.2.1), .d (.list [chD a.2.2.1, chD a.2.2.2.1]), iP a.2.2.2.2.1]
def p_law_back_right (K : PySem.W.Frag) : Bk → Own → Prop := fun a O => Tab a.1 ∧ Rg a.1.length a.2.1 ∧ okCh a.1 a.2.1 a.2.2.1 ∧ okCh (goCh a.1 a.2.1 a.2.2.1).1 (goCh a.1 a.2.1 a.2.2.1).2 a.2.2.2.1 ∧ At K O a.2.2.2.2.1 a.2.2.2.2.2 ((s0 a.1 a.2.1).goL [a.2.2.1, a.2.2.2.1])
def q_law_back_right : Bk → Own → Im → Own → Prop := fun a O it O' => it = iB true ∧ ∀ b, b ≠ a.2.2.2.2.1 → O' b = O b
theorem nd_back : (["table", "ring", "changes", "live", "due"] : List Str).Nodup := by decide +kernel
include T in
theorem g_law_back_right : Fn PRG w K mg base 7 "_law_back_right" (ef e_law_back_right (p_law_back_right K) q_law_back_right) := by
  refine fn_ef (N := ["table", "ring", "changes", "live", "due"]) (ps := ["table", "ring", "changes", "live"]) T.m_law_back_right T.fd_law_back_right ⟨rfl, rfl, rfl, nd_back, rfl, by decide +kernel, by decide +kernel⟩
    (fun _ _ _ _ _ _ us hl => match us, hl with | [_, _, _, _], _ => rfl) (fun _ => rfl) (fun cdv A outer s H E O a hr h => ?_)
  have nd := nd_back
  obtain ⟨t, r, c1, c2, l, dx⟩ := a
  obtain ⟨hT, hR, k1, k2, hl⟩ := h
  dsimp only [e_law_back_right, q_law_back_right] at *
  have ok0 := s0_ok hT hR
  obtain ⟨g1, g2⟩ := go_ok hT hR k1
  have ok1 : OkS ((s0 t r).go c1) := ok0.go k1 (Nat.zero_le _)
  have ok2 : OkS ((s0 t r).goL [c1, c2]) := ok1.go k2 (show 1 ≤ 900 by decide)
  have hcut : cutA ([chD c1, chD c2]) none (some (1 : Int)) = [c1].map chD := by
    rw [cut_to (by simp)]; rfl
  refine wps_set 4 nd (ev_sp (t, r, [c1]) (g_law_by_functions T) hr (ea_cons (ev_var 0) (ea_cons (ev_var 1) (ea_cons ((ev_sl (ev_var 2) po_n (po_s ev_int)).eq (congrArg iL hcut)) ea_nil))) ⟨hT, hR, k1, trivial⟩) ?_
  dsimp only [o_law_by_functions]
  have h1 : At K (setO O l (lv (LC K) dx ((s0 t r).go c1))) l dx ((s0 t r).go c1) := setO_same
  have u1 : ∀ {ρ' : Ro} {pos apos : Pos}, True := trivial
  refine wps_guard (et_w (ew_or (tw_cmp (ec_ne (d := .bool _) (f := .bool _) hr.units (ew_mef0 (l, dx, (s0 t r).goL [c1, c2], (chName c2, (goCh t r c1).1, (goCh t r c1).2), [(chName c1, t, r)]) ((g_LiveRing_undo T).mono (by decide)) T.c_LiveRing hr (ev_var 3) hl rfl ⟨hl, ok2, rfl, g1, g2⟩ fun it O' h => h) (ev_sp ((goAll t r [c1]).1, (goAll t r [c1]).2) (g_is_skip T) hr (ea_cons (ev_ixT (ev_var 4) ev_int rfl) (ea_cons (ev_ixT (ev_var 4) ev_int rfl) ea_nil)) ⟨g1, g2⟩) rfl rfl)) fun _ => ew_or (tw_cmp (ec_neTb hr.units (ev_pef (l, dx, (s0 t r).go c1) ((g_LiveRing_table T).mono (by decide)) T.c_LiveRing hr (ev_var 3) h1 rfl ⟨h1, ok1⟩ fun _ _ h => h) (ev_ixT (ev_var 4) ev_int rfl))) fun _ => ew_or1 (tw_cmp (ec_neL hr.units (ev_pef (l, dx, (s0 t r).go c1) ((g_LiveRing_ring T).mono (by decide)) T.c_LiveRing hr (ev_var 3) h1 rfl ⟨h1, ok1⟩ fun _ _ h => h) (ev_ixT (ev_var 4) ev_int rfl))))) ?_ ?_
  · simp [PyData.eqv, LS.go, s0, goAll]
  have h2 : At K (setO (setO O l (lv (LC K) dx ((s0 t r).go c1))) l (lv (LC K) dx (s0 t r))) l dx (s0 t r) := setO_same
  refine wps_ret (ev_and (ev_cmp (ec_eq (d := .bool _) (f := .bool _) hr.units (ew_mef0 (l, dx, (s0 t r).go c1, (chName c1, t, r), []) ((g_LiveRing_undo T).mono (by decide)) T.c_LiveRing hr (ev_var 3) h1 rfl ⟨h1, ok1, rfl, hT, hR⟩ fun it O' h => h) (ev_sp (t, r) (g_is_skip T) hr (ea_cons (ev_var 0) (ea_cons (ev_var 1) ea_nil)) ⟨hT, hR⟩) rfl rfl)) fun _ => ev_and (ev_cmp (ec_eqTb hr.units (ev_pef (l, dx, s0 t r) ((g_LiveRing_table T).mono (by decide)) T.c_LiveRing hr (ev_var 3) h2 rfl ⟨h2, ok0⟩ fun _ _ h => h) (ev_var 0))) fun _ => ev_and (ev_cmp (ec_eqL hr.units (ev_pef (l, dx, s0 t r) ((g_LiveRing_ring T).mono (by decide)) T.c_LiveRing hr (ev_var 3) h2 rfl ⟨h2, ok0⟩ fun _ _ h => h) (ev_var 1))) fun _ => ev_one (ev_cmp (ec_eq (d := .list []) (f := .list []) hr.units (ev_pef (l, dx, s0 t r) ((g_LiveRing_log T).mono (by decide)) T.c_LiveRing hr (ev_var 3) h2 rfl ⟨h2, ok0⟩ fun _ _ h => h) (ev_list ed_nil (by decide)) rfl rfl))) ⟨?_, fun b hb => ?_⟩
  · show iB _ = iB true
    congr 2
    simp [PyData.eqv, s0, PyData.eqvAll]
  · rw [setO_ne hb, setO_ne hb]
end
end D81


/-! G13: the law -/
namespace D81
open PySem PySem.Spec PyProof.Rows L2 AL
theorem str_ok (s : String) : PyData.strOk (Str.ofString s) = true := by
  rw [Str.ofString_eq_toList]
  unfold PyData.strOk
  simp only [List.all_toArray, List.all_eq_true, List.mem_map, decide_eq_true_eq]
  rintro x ⟨c, _, rfl⟩
  have h := c.valid
  simp only [UInt32.isValidChar, Nat.isValidChar] at h
  show c.val.toNat < 0x110000
  omega
theorem str_app {a b : Str} (h1 : PyData.strOk a = true) (h2 : PyData.strOk b = true) : PyData.strOk (a ++ b) = true := by
  unfold PyData.strOk at *
  show (a.cps ++ b.cps).all _ = true
  rw [Array.all_append, h1, h2]; rfl
theorem sh_desc (t : List (List Int)) (r : List Int) : Sh 1 (.list (descD t r)) := sh_list fun d hd => by
  unfold descD at hd
  simp only [List.mem_cons, List.not_mem_nil, or_false] at hd
  rcases hd with rfl | rfl | rfl
  · exact sh_str _ (str_app (str_ok _) (str_ok _))
  · exact sh_str _ (str_app (str_ok _) (str_ok _))
  · split
    · exact sh_str _ (str_ok _)
    · exact sh_str _ (str_ok _)
section
variable {X : Cx} {ρ : Ro} {O O1 O2 : Own} {pos : Pos} {a e : Expr}
theorem tw_valE {R : Bool → Own → Prop} (h : EW X ρ O e fun it O1 => ∃ c, it = iB c ∧ R c O1) (he : ∀ whole, isTrue e X.env whole = (do let v ← whole; standAt e.pos; holding [v] (truthy v)) := by intro _; rfl) : TW X ρ O e R := by
  obtain ⟨t, p, k⟩ := h.out
  refine TW.mk ⟨_, pt_val p he, fun σ F H Q ok rho z => k σ F H _ ok rho fun it O' v F1 H1 e ok1 x1 i1 => ?_⟩
  obtain ⟨c, rfl, r⟩ := e
  rw [imB i1]
  exact ⟨c, rfl, z _ _ F1 H1 r ok1 x1⟩
theorem tw_notE {R : Bool → Own → Prop} (h : TW X ρ O a fun c O1 => R (!c) O1) : TW X ρ O (.UnaryOp .Not a pos) R := by
  obtain ⟨t, p, k⟩ := h.out
  exact TW.mk ⟨_, pt_not p, fun σ F H Q ok rho z => k σ F H _ ok rho fun c' O' F1 H1 e ok1 x1 => z _ _ F1 H1 e ok1 x1⟩
end
section
variable {w : World} {K : PySem.W.Frag} {mg : Str → Option Value} {base : Heap} (T : Wo w K mg)
abbrev Rt := Addr × Nat
def e_law_right : Rt → List Im := fun a => [iP a.1]
def p_law_right : Rt → Own → Prop := fun a O => WAt a.2 O a.1 ∧ a.2 ≤ 2 ^ 80
def q_law_right : Rt → Own → Im → Own → Prop := fun a O it O' => it = iB true ∧ WAt (a.2 + 1000000) O' a.1
/-- the live rings that were led: one for each of the first ways -/
def Led (K : PySem.W.Frag) (t : List (List Int)) (r : List Int) (zs : List (Ch × Ch)) (p ll : Addr) (es : List (Addr × Addr)) (O : Own) : Prop :=
  O ll = some (.lst (es.map fun e => iP e.1)) ∧ (∀ (i : Nat) (e : Addr × Addr) (z : Ch × Ch), es[i]? = some e → zs[i]? = some z → At K O e.1 e.2 ((s0 t r).goL [z.1, z.2])) ∧ (es.map (·.1)).Nodup ∧ (∀ e ∈ es, e.1 ≠ ll ∧ e.1 ≠ p)
theorem nd_right : (["well", "count", "table", "ring", "turn", "both", "lives", "changes", "live"] : List Str).Nodup := by decide +kernel
include T in
theorem g_law_right : Fn PRG w K mg base 11 "_law_right" (ef e_law_right p_law_right q_law_right) := by
  refine fn_ef (N := ["well", "count", "table", "ring", "turn", "both", "lives", "changes", "live"]) (ps := ["well"]) T.m_law_right T.fd_law_right ⟨rfl, rfl, rfl, nd_right, rfl, by decide +kernel, by decide +kernel⟩
    (fun _ _ _ _ _ _ us hl => match us, hl with | [_], _ => rfl) (fun _ => rfl) (fun cdv A outer s H E O a hr h => ?_)
  have nd := nd_right
  obtain ⟨p, n⟩ := a
  obtain ⟨hA, hn⟩ := h
  dsimp only [e_law_right, q_law_right] at *
  have lm : ∀ {m : Nat}, m ≤ n + 1000000 → m ≤ 2 ^ 90 := fun l => by
    have : (2 : Nat) ^ 90 = 2 ^ 80 * 1024 := by decide
    have : (1000000 : Nat) ≤ 2 ^ 80 := by decide
    omega
  refine wps_setW 1 nd (ew_addW ev_int (ew_ef (p, 6, n) ((g_law_draw T).mono (by decide)) hr (ea_cons (ev_var 0) (ea_cons ev_int ea_nil)) ⟨hA, Nat.le_trans (lm (show n ≤ n + 1000000 by omega)) (by decide), show (0 : Int) < 6 by decide, show (6 : Int) < 2 ^ 110 by decide⟩ fun it O1 hq => ?_))
  obtain ⟨v, rfl, hv, hW⟩ := hq
  dsimp only at hv hW
  refine ⟨v, rfl, ?_⟩
  obtain ⟨cn, hcn⟩ : ∃ cn : Nat, 3 + v = cn := ⟨(3 + v).toNat, by omega⟩
  rw [hcn]
  refine wps_parW 2 3 rfl nd (aw_cons (ew_ef (p, cn, n + 30) ((g_law_any T).mono (by decide)) hr (ea_cons (ev_var 0) (ea_cons (ev_var 1) ea_nil)) ⟨hW.at, Nat.le_trans (lm (show n + 30 ≤ n + 1000000 by omega)) (by decide), show 1 ≤ cn by omega, show cn ≤ 30 by omega⟩ fun it O2 hq => ?_))
  obtain ⟨t, rfl, hT, htl, hW2⟩ := hq
  dsimp only at htl hW2
  have hW2' : WTo (n + 100030) O O2 p := (hW.trans hW2).mono (by omega)
  refine aw_cons (ew_ef (p, (rangeI 0 cn).map .int, n + 100030) ((g_law_mixed T).mono (by decide)) hr (ea_cons (ev_var 0) (ea_cons (ev_listRg rfl T.b_list T.b_range (ev_var 1) (by omega)) ea_nil)) ⟨hW2'.at, Nat.le_trans (lm (show n + 100030 ≤ n + 1000000 by omega)) (by decide), by rw [List.length_map, rangeI_len]; omega⟩ fun it O3 hq => ?_)
  obtain ⟨es, rfl, hp, hW3⟩ := hq
  dsimp only at hp hW3
  rw [List.length_map, rangeI_len] at hW3
  obtain ⟨r, rfl, hR⟩ := perm_rg (n := cn) hp ⟨by rw [rangeI_len]; omega, fun x hx => mem_rangeI.mp hx, rangeI_nd _ _⟩
  refine aw_nil ⟨_, _, rfl, ?_⟩
  rw [← htl] at hR
  have hA3 : WAt (n + 110000) O3 p := ((hW2'.trans hW3).mono (show n + 100030 + 30 * _ ≤ n + 110000 by omega)).at
  refine wps_for (vs := [4]) (fun k ρ' O' => ρ' = [some (iP p), some (iI cn), some (.d (Tb t)), some (.d (L r)), none, none, none, none, none] ∧ WAt (n + 110000 + 100000 * k) O' p) rfl (itr_range1 T.b_range ev_int (by decide)) ⟨_, Le.refl _, rfl, hA3⟩ (fun _ _ _ _ _ => trivial) (fun k z ρ O' hk hI => ?_) (fun ρ O' hI => ?_)
  · obtain ⟨rfl, hA4⟩ := hI
    have hk3 : k < 3 := by
      have := (List.getElem?_eq_some_iff.mp hk).1
      rw [rangeI_len] at this
      omega
    refine ⟨_, eg_name 4 nd, ?_⟩
    refine wps_parW 5 6 rfl nd (aw_cons (ew_ef (p, t, r, n + 110000 + 100000 * k) ((g_law_changes T).mono (by decide)) hr (ea_cons (ev_var 0) (ea_cons (ev_var 2) (ea_cons (ev_var 3) ea_nil))) ⟨hA4, lm (show n + 110000 + 100000 * k ≤ n + 1000000 by omega), hT, hR, show 3 ≤ t.length by omega, show t.length ≤ 29 by omega⟩ fun it O5 hq => ?_))
    obtain ⟨c1, c2, c3, c4, rfl, hC, hW5⟩ := hq
    dsimp only at hC hW5
    refine aw_cons (ew_listP ea_nil (by decide) fun ll hll => aw_nil ⟨_, _, rfl, ?_⟩)
    have hA5 := hW5.at
    have hpll : p ≠ ll := ne_of (by obtain ⟨d, s, c, e, _⟩ := hA5; rw [e]; simp) hll
    have hA6 : WAt (n + 110000 + 100000 * k + 50000) (setO O5 ll (.lst [])) p := by
      obtain ⟨d, s, c, e, hw⟩ := hA5
      exact ⟨d, s, c, by rw [setO_ne hpll]; exact e, hw⟩
    have okz : ∀ z ∈ [(c1, c2), (c3, c4)], okCh t r z.1 ∧ okCh (goCh t r z.1).1 (goCh t r z.1).2 z.2 := fun z hz => by
      simp only [List.mem_cons, List.not_mem_nil, or_false] at hz
      rcases hz with rfl | rfl
      · exact ⟨hC.a1, hC.a2⟩
      · exact ⟨hC.b1, hC.b2⟩
    refine wps_for (vs := [7]) (as := [(c1, c2), (c3, c4)]) (enc := fun z => .d (.list [chD z.1, chD z.2])) (fun j ρ' O' => ρ' = [some (iP p), some (iI cn), some (.d (Tb t)), some (.d (L r)), none, some (.d (bothD c1 c2 c3 c4)), some (iP ll), none, none] ∧ WAt (n + 110000 + 100000 * k + 50000) O' p ∧ ∃ es : List (Addr × Addr), es.length = j ∧ Led K t r [(c1, c2), (c3, c4)] p ll es O') rfl
      (itr_eq (itr_list (ds := [.list [chD c1, chD c2], .list [chD c3, chD c4]]) (ev_var 5)) rfl) ⟨_, le_mask [true, true, true, true, false, true, true, false, false] _, rfl, hA6, [], rfl, setO_same, fun i e z h => by simp at h, .nil, fun e h => by cases h⟩ (fun _ _ _ _ _ => trivial) (fun j z ρ O' hz hI => ?_) (fun ρ O' hI => ?_)
    · obtain ⟨rfl, hA7, es, hel, hL1, hL2, hL3, hL4⟩ := hI
      obtain ⟨o1, o2⟩ := okz z (List.mem_of_getElem? hz)
      have hj2 : j < 2 := (List.getElem?_eq_some_iff.mp hz).1
      refine ⟨_, eg_name 7 nd, ?_⟩
      refine wps_ifW (tw_notE (tw_valE (ew_ef (t, r, z.1, z.2, ll, es.map fun e => iP e.1) ((g_law_led_right T).mono (by decide)) hr (ea_cons (ev_var 2) (ea_cons (ev_var 3) (ea_cons (ev_var 7) (ea_cons (ev_var 6) ea_nil)))) ⟨hT, hR, o1, o2, hL1, by show (es.map _).length ≤ 10; rw [List.length_map]; omega⟩ fun it O8 hq => ?_)))
      obtain ⟨l, dx, rfl, hl0, hl1, hl2, hl3⟩ := hq
      dsimp only at hl0 hl1 hl2 hl3
      refine ⟨true, rfl, And.intro (fun h => by cases h) (fun _ => wps_nil (wps_nil ⟨_, le_mask [true, true, true, true, false, true, true, false, false] _, rfl, ?_, es ++ [(l, dx)], by rw [List.length_append, hel]; rfl, ?_, ?_, ?_, ?_⟩))⟩
      · obtain ⟨d, s, c, e, hw⟩ := hA7
        exact ⟨d, s, c, by rw [hl3 p (by rw [e]; simp) hpll]; exact e, hw⟩
      · rw [hl2, List.map_append]; rfl
      · intro i e z' he hz'
        by_cases hi : i < es.length
        · rw [List.getElem?_append_left hi] at he
          have h0 := hL2 i e z' he hz'
          show O8 e.1 = _
          rw [hl3 e.1 (by rw [show O' e.1 = _ from h0]; simp) (hL4 e (List.mem_of_getElem? he)).1]
          exact h0
        · rw [List.getElem?_append_right (by omega)] at he
          have hi0 : i = es.length := by
            have := (List.getElem?_eq_some_iff.mp he).1
            simp at this; omega
          subst hi0
          simp at he
          subst he
          rw [hel] at hz'
          rw [hz] at hz'
          cases hz'
          exact hl1
      · rw [List.map_append, List.nodup_append]
        refine ⟨hL3, by simp, fun x hx y hy => ?_⟩
        simp at hy
        subst hy
        obtain ⟨e, he, rfl⟩ := List.mem_map.mp hx
        obtain ⟨i, hi⟩ := List.mem_iff_getElem?.mp he
        have hil := (List.getElem?_eq_some_iff.mp hi).1
        obtain ⟨z', hz'⟩ := get_of (xs := [(c1, c2), (c3, c4)]) (i := i) (by show i < 2; omega)
        exact ne_of (by rw [show O' e.1 = _ from hL2 i e z' hi hz']; simp) hl0
      · intro e he
        rcases List.mem_append.mp he with he | he
        · exact hL4 e he
        · rw [List.mem_singleton.mp he]
          refine ⟨(ne_of (by rw [hL1]; simp) hl0).symm, (ne_of ?_ hl0).symm⟩
          obtain ⟨d, s, c, e, hw⟩ := hA7
          rw [e]; simp
    obtain ⟨rfl, hA7, es, hel, hL1, hL2, hL3, hL4⟩ := hI
    obtain ⟨⟨l1, d1⟩, ⟨l2, d2⟩, rfl⟩ : ∃ e1 e2, es = [e1, e2] := by
      match es, hel with
      | [e1, e2], _ => exact ⟨e1, e2, rfl⟩
    have a1 : At K O' l1 d1 ((s0 t r).goL [c1, c2]) := hL2 0 (l1, d1) (c1, c2) rfl rfl
    have a2 : At K O' l2 d2 ((s0 t r).goL [c3, c4]) := hL2 1 (l2, d2) (c3, c4) rfl rfl
    have n12 : l1 ≠ l2 := fun e => by
      have h := hL3
      simp [e] at h
    have n1 := hL4 (l1, d1) (by simp)
    have n2 := hL4 (l2, d2) (by simp)
    have hll1 : O' ll = some (.lst [iP l1, iP l2]) := hL1
    have ok0 := s0_ok hT hR
    have okA : OkS ((s0 t r).goL [c1, c2]) := (ok0.go hC.a1 (Nat.zero_le _)).go hC.a2 (show 1 ≤ 900 by decide)
    have okB : OkS ((s0 t r).goL [c3, c4]) := (ok0.go hC.b1 (Nat.zero_le _)).go hC.b2 (show 1 ≤ 900 by decide)
    have eT : ((s0 t r).goL [c3, c4]).t = ((s0 t r).goL [c1, c2]).t := (congrArg Prod.fst hC.eq).symm
    have eR : ((s0 t r).goL [c3, c4]).r = ((s0 t r).goL [c1, c2]).r := (congrArg Prod.snd hC.eq).symm
    have eE : eqB ((s0 t r).goL [c1, c2]) ((s0 t r).goL [c3, c4]) = true := by unfold eqB; rw [eT, eR]; simp
    generalize hsA : (s0 t r).goL [c1, c2] = sA at a1 okA eT eR eE
    generalize hsB : (s0 t r).goL [c3, c4] = sB at a2 okB eT eR eE
    refine wps_guard (et_w (ew_or (tw_cmp (ec_neTb hr.units (ev_pef (l1, d1, sA) ((g_LiveRing_table T).mono (by decide)) T.c_LiveRing hr (ev_ixP (ev_var 6) ev_int hll1 rfl) a1 rfl ⟨a1, okA⟩ fun _ _ h => h) (ev_pef (l2, d2, sB) ((g_LiveRing_table T).mono (by decide)) T.c_LiveRing hr (ev_ixP (ev_var 6) ev_int hll1 rfl) a2 rfl ⟨a2, okB⟩ fun _ _ h => h))) fun _ => ew_or (tw_cmp (ec_neL hr.units (ev_pef (l1, d1, sA) ((g_LiveRing_ring T).mono (by decide)) T.c_LiveRing hr (ev_ixP (ev_var 6) ev_int hll1 rfl) a1 rfl ⟨a1, okA⟩ fun _ _ h => h) (ev_pef (l2, d2, sB) ((g_LiveRing_ring T).mono (by decide)) T.c_LiveRing hr (ev_ixP (ev_var 6) ev_int hll1 rfl) a2 rfl ⟨a2, okB⟩ fun _ _ h => h))) fun _ => ew_or1 (et_not (tw_cmp (cw_eqI ((g_LiveRing_eq T).mono (by decide)) hr (ev_ixP (ev_var 6) ev_int hll1 rfl) (ev_ixP (ev_var 6) ev_int hll1 rfl) a1 a2 ⟨((l1, d1, sA), (l2, d2, sB)), rfl, ⟨⟨a1, okA⟩, ⟨a2, okB⟩⟩, fun it O'' h => ⟨_, h.1, rfl, h.2⟩⟩))))) ?_ ?_
    · dsimp only
      rw [eE, eT, eR]; simp
    refine wps_guard (et_w (ew_or (tw_cmp (ec_ne (d := .list (descD sA.t sA.r)) (f := .list (descD sA.t sA.r)) hr.units (ew_mef0 (l1, d1, sA) ((g_LiveRing_described T).mono (by decide)) T.c_LiveRing hr (ev_ixP (ev_var 6) ev_int hll1 rfl) a1 rfl ⟨a1, okA⟩ fun it O'' h => h) (ew_mef0 (l2, d2, sB) ((g_LiveRing_described T).mono (by decide)) T.c_LiveRing hr (ev_ixP (ev_var 6) ev_int hll1 rfl) a2 rfl ⟨a2, okB⟩ fun it O'' h => ⟨h.1.trans (by dsimp only; rw [eT, eR]), h.2⟩) (sh_desc _ _).ok (sh_desc _ _).ok)) fun _ => ew_or1 (tw_cmp (ec_neI (ev_pef (l1, d1, sA) ((g_LiveRing_length T).mono (by decide)) T.c_LiveRing hr (ev_ixP (ev_var 6) ev_int hll1 rfl) a1 rfl ⟨a1, okA⟩ fun _ _ h => h) (ev_pef (l2, d2, sB) ((g_LiveRing_length T).mono (by decide)) T.c_LiveRing hr (ev_ixP (ev_var 6) ev_int hll1 rfl) a2 rfl ⟨a2, okB⟩ fun _ _ h => h))))) ?_ ?_
    · dsimp only
      rw [(sh_desc _ _).refl, eT, eR]; simp
    refine wps_guard (et_w (ew_or (tw_cmp (ec_ne (d := .bool _) (f := .bool _) hr.units (ev_pef (l1, d1, sA) ((g_LiveRing_is_skip T).mono (by decide)) T.c_LiveRing hr (ev_ixP (ev_var 6) ev_int hll1 rfl) a1 rfl ⟨a1, okA⟩ fun _ _ h => h) (ev_pef (l2, d2, sB) ((g_LiveRing_is_skip T).mono (by decide)) T.c_LiveRing hr (ev_ixP (ev_var 6) ev_int hll1 rfl) a2 rfl ⟨a2, okB⟩ fun _ _ h => h) rfl rfl)) fun _ => ew_or1 (tw_cmp (ec_neI (ew_lenI T.b_len ((g_LiveRing_len T).mono (by decide)) hr (ev_ixP (ev_var 6) ev_int hll1 rfl) a1 ⟨(l1, d1, sA), rfl, ⟨a1, okA⟩, fun it O'' h => ⟨_, h.1, okA.lenb, rfl, h.2⟩⟩) (ew_lenI T.b_len ((g_LiveRing_len T).mono (by decide)) hr (ev_ixP (ev_var 6) ev_int hll1 rfl) a2 ⟨(l2, d2, sB), rfl, ⟨a2, okB⟩, fun it O'' h => ⟨_, h.1, okB.lenb, rfl, h.2⟩⟩))))) ?_ ?_
    · dsimp only
      rw [eT, eR]; simp [PyData.eqv]
    have hpA : p ≠ l1 := Ne.symm n1.2
    have hpB : p ≠ l2 := Ne.symm n2.2
    have l1ll : ll ≠ l1 := Ne.symm n1.1
    have l2ll : ll ≠ l2 := Ne.symm n2.1
    refine wps_for (vs := [7, 8]) (as := [((c1, c2), l1), ((c3, c4), l2)]) (enc := fun z => .t [.d (.list [chD z.1.1, chD z.1.2]), iP z.2]) (fun j ρ' O2 => ρ' = [some (iP p), some (iI cn), some (.d (Tb t)), some (.d (L r)), none, some (.d (bothD c1 c2 c3 c4)), some (iP ll), none, none] ∧ WAt (n + 110000 + 100000 * k + 50000) O2 p ∧ O2 ll = some (.lst [iP l1, iP l2]) ∧ (j = 0 → At K O2 l1 d1 sA) ∧ (j ≤ 1 → At K O2 l2 d2 sB)) rfl
      (itr_eq (itr_zip T.b_zip (.d (ds := [.list [chD c1, chD c2], .list [chD c3, chD c4]]) rfl (ev_var 5)) (.p (ev_var 6) hll1) trivial) rfl) ⟨_, le_mask [true, true, true, true, false, true, true, false, false] _, rfl, hA7, hll1, fun _ => a1, fun _ => a2⟩ (fun j ρ O2 hj hI => ⟨trivial, hI.2.2.1⟩) (fun j z ρ O2 hz hI => ?_) (fun ρ O2 hI => ?_)
    · obtain ⟨rfl, b1, b2, b3, b4⟩ := hI
      refine ⟨_, eg_pair 7 8 rfl nd, ?_⟩
      match j, hz with
      | 0, hz =>
        cases hz
        refine wps_ifW (tw_notE (tw_valE (ew_ef (t, r, c1, c2, l1, d1) ((g_law_back_right T).mono (by decide)) hr (ea_cons (ev_var 2) (ea_cons (ev_var 3) (ea_cons (ev_var 7) (ea_cons (ev_var 8) ea_nil)))) ⟨hT, hR, hC.a1, hC.a2, by rw [hsA]; exact b3 rfl⟩ fun it O8 hq => ?_)))
        obtain ⟨rfl, hf⟩ := hq
        dsimp only at hf
        refine ⟨true, rfl, And.intro (fun h => by cases h) (fun _ => wps_nil (wps_nil ⟨_, le_mask [true, true, true, true, false, true, true, false, false] _, rfl, ?_, (hf ll l1ll).trans b2, fun h => (by cases h), fun _ => (hf l2 (Ne.symm n12)).trans (b4 (by decide))⟩))⟩
        obtain ⟨d, s, c, e, hw⟩ := b1
        exact ⟨d, s, c, (hf p hpA).trans e, hw⟩
      | 1, hz =>
        cases hz
        refine wps_ifW (tw_notE (tw_valE (ew_ef (t, r, c3, c4, l2, d2) ((g_law_back_right T).mono (by decide)) hr (ea_cons (ev_var 2) (ea_cons (ev_var 3) (ea_cons (ev_var 7) (ea_cons (ev_var 8) ea_nil)))) ⟨hT, hR, hC.b1, hC.b2, by rw [hsB]; exact b4 (by decide)⟩ fun it O8 hq => ?_)))
        obtain ⟨rfl, hf⟩ := hq
        dsimp only at hf
        refine ⟨true, rfl, And.intro (fun h => by cases h) (fun _ => wps_nil (wps_nil ⟨_, le_mask [true, true, true, true, false, true, true, false, false] _, rfl, ?_, (hf ll l2ll).trans b2, fun h => (by cases h), fun h => absurd h (by decide)⟩))⟩
        obtain ⟨d, s, c, e, hw⟩ := b1
        exact ⟨d, s, c, (hf p hpB).trans e, hw⟩
      | j + 2, hz => simp at hz
    obtain ⟨rfl, b1, _⟩ := hI
    refine wps_nil ⟨_, le_mask [true, true, true, true, false, false, false, false, false] _, rfl, ?_⟩
    obtain ⟨d, s, c, e, hw⟩ := b1
    exact ⟨d, s, c, e, hw.mono (by omega)⟩
  · obtain ⟨rfl, hA4⟩ := hI
    refine wps_ret ev_bl ⟨rfl, ?_⟩
    obtain ⟨d, s, c, e, hw⟩ := hA4
    refine ⟨d, s, c, e, hw.mono ?_⟩
    rw [rangeI_len]
    show n + 110000 + 100000 * 3 ≤ n + 1000000
    omega
/-! ### law -/
def p_law : Pr := fun is O R => ∃ ns : List Int, is = [.s ns] ∧ ∀ O', R (iB true) O'
theorem nd_law : (["script", "well", "turn"] : List Str).Nodup := by decide +kernel
include T in
theorem fnok_law {f : Addr} {fd : FuncData} (F : FunD K d_law.name d_law.qual d_law.params d_law.body d_law.scope [] [] f fd) : FnOk PRG w K mg base CX0 12 f fd ["script"] (spA K p_law) := by
  refine fnok_def (N := ["script", "well", "turn"]) (ps := ["script"]) F ⟨rfl, rfl, rfl, nd_law, rfl, by decide +kernel, by decide +kernel⟩
    (fun is O R ⟨ns, h, _⟩ => by rw [h]; rfl) (fun cdv A outer s H E is O R hr h => ?_)
  have nd := nd_law
  obtain ⟨ns, rfl, hq⟩ := h
  refine wps_setW 1 nd (ew_ef ns ((g_law_well T).mono (by decide)) hr (ea_cons (ev_var 0) ea_nil) trivial fun it O1 h => ?_)
  obtain ⟨p, d, s, hp, rfl, rfl, hw⟩ := h
  refine wps_for (vs := [2]) (fun k ρ' O' => ρ' = [some (.s ns), some (iP p), none] ∧ WAt (1000000 * k) O' p) rfl (itr_range1 T.b_range (ev_add ev_int (ev_min2 rfl T.b_min ev_int (ev_lenS T.b_len (ev_var 0)))) (by omega)) ⟨_, Le.refl _, rfl, d, s, 0, setO_same, hw⟩ (fun _ _ _ _ _ => trivial) (fun k z ρ O' hk hI => ?_) (fun ρ O' hI => ?_)
  · obtain ⟨rfl, hA⟩ := hI
    have hk3 : k < 3 := by
      have := (List.getElem?_eq_some_iff.mp hk).1
      rw [rangeI_len] at this
      omega
    refine ⟨_, eg_name 2 nd, ?_⟩
    refine wps_ifW (tw_notE (tw_valE (ew_ef (p, 1000000 * k) (g_law_right T) hr (ea_cons (ev_var 1) ea_nil) ⟨hA, Nat.le_trans (show 1000000 * k ≤ 3000000 by omega) (by decide)⟩ fun it O8 h => ?_)))
    obtain ⟨rfl, hA'⟩ := h
    refine ⟨true, rfl, And.intro (fun h => by cases h) (fun _ => wps_nil (wps_nil ⟨_, le_mask [true, true, false] _, rfl, ?_⟩))⟩
    obtain ⟨d, s, c, e, hw⟩ := hA'
    exact ⟨d, s, c, e, hw.mono (show 1000000 * k + 1000000 ≤ 1000000 * (k + 1) by omega)⟩
  · obtain ⟨rfl, hA⟩ := hI
    exact wps_ret ev_bl (hq O')
end
end D81


namespace D81
open PySem PySem.Spec PyProof.Rows L2 AL
theorem facts {w : World} {K : PySem.W.Frag} {h : Heap} {mg : Str → Option Value} {f : Addr} (X : K.In h) (G : h.Ns mainGlobals mg) (hfa : mg ("law" : Str) = some (.ref f)) (c : SaysA fa fn pr ts ex w K) :
    ∃ fd : FuncData, (∀ (s : Shared) (v : Value), BindsTo s fd ⟨[v], []⟩ [("script", v)]) ∧ ∀ base : Heap, K.In base → base.Ns mainGlobals mg → FnOk PRG w K mg base CX0 12 f fd ["script"] (spA K p_law) := by
  have T : Wo w K mg := ⟨h, X, G, c⟩
  obtain ⟨fd, F⟩ := T.fd_law
  have e := hfa.symm.trans T.m_law
  cases e
  have b := FunD.bindsA (ps := ["script"]) F fun _ _ _ _ _ _ us hl => match us, hl with | [_], _ => rfl
  exact ⟨fd, fun s v => b s [v] rfl, fun base _ _ => fnok_law T F⟩
end D81
open PySem PySem.W PySem.Calls PyProof.Rows
theorem PySem.Challenge.cw_skipstops_k81_whole_calls_in_either_sequ_holds : PySem.Challenge.rw_skipstops_k81_whole_calls_in_either_sequ.Holds := by
  w_on; o_law
  refine HandSHeadRun.head_any (r := D81.R) (q := view D81.R.prog [D81.lawIx]) (H := D81.hk) (ob := D81.ob) (M := 12000) (loose := D81.loose) (d := HandSHeadRun.topDef D81.R.prog D81.lawIx) (kwd := []) D81.ob_eq
    (by kernel_rfl) (fun s => by kernel_rfl) D81.run (by kernel_rfl) (by kernel_rfl) (by kernel_rfl) (by rfl) (by first | assumption | decide +kernel) (by decide +kernel) ⟨rfl, rfl, rfl, rfl, rfl, by decide +kernel⟩ ?hw ?hc
  case hw => w_witness2
  case hc =>
    refine L2.walk_ofE (l := PySem.Challenge.rw_skipstops_k81_whole_calls_in_either_sequ) (n := 63) (k := 12) (x := "script") (CX := L2.CX0) rfl (by decide) (by kernel_rfl) ⟨rfl, by decide, by decide⟩ ?F (fun _ _ _ _ z => z)
    intro w mg fa h Y G hmg0
    obtain ⟨K, KX, c⟩ := Y
    have hmg : mg ("law" : PySem.Str) = some (.ref fa) := by
      have e : (HandSHeadRun.topDef D81.R.prog D81.lawIx).name = ("law" : PySem.Str) := by kernel_rfl
      rw [← e]
      exact hmg0
    obtain ⟨fd, hb, hF⟩ := D81.facts (w := w) KX G hmg c
    refine ⟨K, fd, AL.spA K D81.p_law, KX, hb, fun H a ns hl _ hS => ?_, hF⟩
    exact ⟨H, AL.nil0, [.s ns], fun it _ => it = AL.iB true, ⟨fun _ _ e => e, fun _ _ e => by cases e⟩, .cons (by simp only [AL.ImOk]; exact ⟨a, rfl, hS⟩) .nil, ⟨ns, rfl, fun _ => rfl⟩, fun it O' v F' H' e _ _ iv => by subst e; exact AL.imB iv⟩

